import PyProof.Rows.All
import Wide.All
import OpenK.AllK
import Wide.FinOn
import HandS.ForMost
import HandS.IsInst
import HandS.Property
import HandS.ClsMeth
import HandS.FStr
import HandS.DictComp
import HandS.Conv
import HandS.Deep
import HandS.TupAny
import HandS.Flow
import HandS.Style
import HandS.Wide
import HandS.ListItems
import HandS.EndBits
import HandS.ExcValue
import HandS.ExcInit
import HandS.ExcOwn
import HandS.ExcIs
import HandS.ExcField
import KE.GoesNew
import HandS.Finally
import PyProof.CollectIter
import PyProof.WalksMore
import PyProof.MakeMany
import KE.KEqNest
import PyProof.EqKinds
import KE.KEqDict
import PyProof.NeKinds
import KE.KExcIs
import HandS.Star
import HandS.RaiseMore
import KE.KDictList
import PyProof.InstNe
import HandS.Text
import PySem.Challenge.RW_hearpurse_k03_whole_texts_of_forests
set_option Elab.async false
set_option linter.all false
set_option maxRecDepth 100000
set_option maxHeartbeats 4000000
/-! G0: one generic rule a construct, over the hand layer; readings hold no position. -/
namespace GP
open PySem PySem.Spec PyProof.Rows L2
section
variable {X : Cx}
theorem pe_or {e : Expr} {t u : TE} (a : PE X e t) (b : PE X e u) : PE X e (fun σ H Q => t σ H Q ∨ u σ H Q) :=
  ⟨fun pins s σ H Q I h => h.elim (a.run pins s σ H Q I) (b.run pins s σ H Q I)⟩
theorem pi_or {tg e : Expr} {t u : TI} (a : PI X tg e t) (b : PI X tg e u) : PI X tg e (fun σ H R => t σ H R ∨ u σ H R) :=
  ⟨fun pins s σ H Q I h => h.elim (a.run pins s σ H Q I) (b.run pins s σ H Q I)⟩
theorem ps_or {e : Stmt} {t u : TS} (a : PS X e t) (b : PS X e u) : PS X e (fun D σ H => t D σ H ∨ u D σ H) :=
  ⟨fun pins s σ H D I h => h.elim (a.run pins s σ H D I) (b.run pins s σ H D I)⟩
end
/-! ### operators -/
abbrev FK := PySem.W.Frag
def gAdd (K : FK) : R2 := fun x y H Q => rI0 (fun i j => .int (i + j)) x y H Q ∨ (∃ i j, x = .str i ∧ y = .str j ∧ i.length + j.length ≤ sizeLine ∧ Q (.str (i ++ j)) H) ∨ rCat x y H Q ∨ rCatA K x y H Q
def gDif : R2 := rI0 fun i j => .int (i - j)
def gMul : R2 := fun x y H Q => rI CMul (fun i j => .int (i * j)) x y H Q ∨ rI CMulW (fun i j => .int (i * j)) x y H Q ∨ rRep x y H Q
def gFdiv : R2 := rI CDivW fun i j => .int (i / j)
def gMod : R2 := rI (fun _ j => 0 < j) fun i j => .int (i % j)
def gPow : R2 := rI CPow fun i j => .int (i ^ j.toNat)
def gNeg : V → Hp → VK → Prop := rU fun i => .int (-i)
def gEq (K : FK) : R2 := fun x y H Q => rEq x y H Q ∨ rEqD K x y H Q
def gNe (K : FK) : R2 := fun x y H Q => rNe x y H Q ∨ rNeD K x y H Q
def gLt : R2 := rI0 fun i j => .bl (decide (i < j))
def gLe : R2 := rI0 fun i j => .bl (decide (i ≤ j))
def gGt : R2 := rI0 fun i j => .bl (decide (j < i))
def gGe : R2 := rI0 fun i j => .bl (decide (j ≤ i))
def gIs : R2 := fun x y H Q => y = .non ∧ Q (.bl (decide (x = .non))) H
def gIsNot : R2 := fun x y H Q => y = .non ∧ Q (.bl (!decide (x = .non))) H
def gIn (K : FK) : R2 := fun x y H Q => rIn K false x y H Q ∨ (∃ (c : Nat) (z : Str), x = .str ⟨#[c]⟩ ∧ y = .str z ∧ Q (.bl (decide (c ∈ z.cps.toList))) H) ∨ (∃ a o, y = .ref a ∧ DGet H a x o ∧ Q (.bl o.isSome) H) ∨ rInD K x y H Q
def gNotIn (K : FK) : R2 := fun x y H Q => rIn K true x y H Q ∨ (∃ (c : Nat) (z : Str), x = .str ⟨#[c]⟩ ∧ y = .str z ∧ Q (.bl (!decide (c ∈ z.cps.toList))) H) ∨ (∃ a o, y = .ref a ∧ DGet H a x o ∧ Q (.bl (!o.isSome)) H) ∨ rNotInD K x y H Q
def rIxD : R2 := fun x y H Q => ∃ a v, x = .ref a ∧ DGet H a y (some v) ∧ Q v H
def gIx (K : FK) : R2 := fun x y H Q => rIx K x y H Q ∨ rIxD x y H Q
def gSl (K : FK) : V → Option Int → Option Int → Hp → VK → Prop := fun x lo hi H Q => rSlL K x lo hi H Q ∨ rSlA K x lo hi H Q ∨ rSlS x lo hi H Q
section
variable {X : Cx}
theorem op_dIn (hu : X.A.units + 1 < cLine) : OpR X (compareOp .In) (fun x y H Q => ∃ a o, y = .ref a ∧ DGet H a x o ∧ Q (.bl o.isSome) H) := by
  intro pins s σ H x y v u Q I rx ry h
  obtain ⟨a, o, ey, g, q⟩ := h
  subst ey
  obtain rfl : u = Value.ref a := ry
  exact d_in hu I g rx fun s3 I3 => ⟨.bl o.isSome, H, I3, rfl, q⟩
theorem op_dNotIn (hu : X.A.units + 1 < cLine) : OpR X (compareOp .NotIn) (fun x y H Q => ∃ a o, y = .ref a ∧ DGet H a x o ∧ Q (.bl (!o.isSome)) H) := by
  intro pins s σ H x y v u Q I rx ry h
  obtain ⟨a, o, ey, g, q⟩ := h
  subst ey
  obtain rfl : u = Value.ref a := ry
  exact d_notIn hu I g rx fun s3 I3 => ⟨.bl (!o.isSome), H, I3, rfl, q⟩
theorem g_add : OpR X (binaryOp .Add) (gAdd X.K) := op_add.or (op_add_str.or (op_cat.or op_catA))
theorem g_sub : OpR X (binaryOp .Sub) gDif := op_sub
theorem g_mul : OpR X (binaryOp .Mult) gMul := op_mul.or (op_mulW.or op_rep)
theorem g_fdiv : OpR X (binaryOp .FloorDiv) gFdiv := op_fdivW
theorem g_mod : OpR X (binaryOp .Mod) gMod := op_mod
theorem g_pow : OpR X (binaryOp .Pow) gPow := op_pow
theorem g_neg : UnR X (unaryOp .USub) gNeg := un_neg
theorem g_eq {k : Nat} (hr : Room k X.A) : OpR X (compareOp .Eq) (gEq X.K) := op_eq.or (op_eqD hr.units)
theorem g_ne {k : Nat} (hr : Room k X.A) : OpR X (compareOp .NotEq) (gNe X.K) := op_ne.or (op_neD hr.units)
theorem g_lt : OpR X (compareOp .Lt) gLt := op_lt
theorem g_le : OpR X (compareOp .LtE) gLe := op_le
theorem g_gt : OpR X (compareOp .Gt) gGt := op_gt
theorem g_ge : OpR X (compareOp .GtE) gGe := op_ge
theorem g_is : OpR X (compareOp .Is) gIs := op_isN
theorem g_isNot : OpR X (compareOp .IsNot) gIsNot := op_notN
theorem g_in {k : Nat} (hr : Room k X.A) : OpR X (compareOp .In) (gIn X.K) := op_in_seq.or (op_in_sign.or ((op_dIn (hu_of hr)).or (op_inD (by have := hr.un; omega))))
theorem g_notIn {k : Nat} (hr : Room k X.A) : OpR X (compareOp .NotIn) (gNotIn X.K) := op_notIn_seq.or (op_notIn_sign.or ((op_dNotIn (hu_of hr)).or (op_notInD (by have := hr.un; omega))))
theorem ix_dict (hu : X.A.units + 1 < cLine) : IxR X rIxD := by
  intro value slice pins s σ H x y v u Q I rx ry h hs
  obtain ⟨a, z, ex, g, q⟩ := h
  subst ex
  obtain rfl : v = Value.ref a := rx
  have hT := dict_typeIs I g
  unfold subscriptTail
  refine wpAny_bind ?_
  rw [getitemInPython_of_ne hT.not_modules]
  refine wpAny_bind (wpAny_specialOf hT PySem.F.slot_dict_getitem.lookup ?_)
  have fin : wpAny (model X.prog X.w) X.A (subscripted slice false (.ref a) u) (fun r s3 => wpAny (model X.prog X.w) X.A (letTemporaryGo value (.ref a) r >>= fun _ => pure r) (EP X pins σ Q) X.xe s3) X.xe s := by
    rw [hs]
    exact wpAny_operating (d_getItem hu I g ry fun w2 s3 I3 r3 => wpAny_bind (wpAny_letTemporaryGo (wpAny_pure ⟨z, H, I3, r3, q⟩)))
  exact wpAny_pure (wpAny_bind fin)
theorem g_ix {k : Nat} (hr : Room k X.A) : IxR X (gIx X.K) := ix_seq.or (ix_dict (hu_of hr))
theorem g_sl : SlR X (gSl X.K) := sl_list.or (sl_tupA.or sl_str)
end
end GP

set_option Elab.async false
set_option linter.all false
set_option maxRecDepth 100000
set_option maxHeartbeats 4000000
/-! G1: calls of defs, over arounds in which no repr runs (for repr's own rule). -/
namespace GP
open PySem PySem.Spec PyProof.Rows L2
/-- room for k calls, no repr around -/
structure RG (k : Nat) (A : Around) : Prop where
  rm : Room k A
  gd : A.guards = some []
theorem RG.mono {j k : Nat} {A : Around} (r : RG k A) (h : j ≤ k) : RG j A := ⟨r.rm.mono h, r.gd⟩
theorem RG.un {k : Nat} {A : Around} (r : RG k A) : A.units + 1 < cLine := hu_of r.rm
structure FnG (P : Program) (w : World) (K : FK) (mg : Str → Option Value) (base : Heap) (CX : CXT) (k : Nat) (f : Addr) (fd : FuncData) (ps : List Str) (sp : Sp) : Prop where
  len : ∀ vs H Q E, sp vs H Q E → vs.length = ps.length
  run : ∀ (A : Around) (outer : List Env) (s : Shared) (H : Hp) (args : Args) (us : List Value) (vs : List V) (Q : VK) (E : XK), RG k A → Env0 P w K mg base A outer s H →
    BindsTo s fd args (ps.zip us) → Vals vs us → sp vs H Q E → codeAny (model P w) A (.call (.ref f) args) (CR CX outer P w H s Q E) s
theorem FnOk.g {P : Program} {w : World} {K : FK} {mg : Str → Option Value} {base : Heap} {CX : CXT} {k : Nat} {f : Addr} {fd : FuncData} {ps : List Str} {sp : Sp} (F : FnOk P w K mg base CX k f fd ps sp) : FnG P w K mg base CX k f fd ps sp :=
  ⟨F.len, fun A o s H a us vs Q E hr => F.run A o s H a us vs Q E hr.rm⟩
/-- a def that can be called by its global name x -/
structure Cal (P : Program) (w : World) (K : FK) (mg : Str → Option Value) (base : Heap) (CX : CXT) (x : Str) (k : Nat) (ps : List Str) (sp : Sp) : Prop where
  ex : ∃ f fd, FnG P w K mg base CX k f fd ps sp ∧ mg x = some (.ref f) ∧ PySem.W.keepIn K (.ref f) = true ∧ Binds K fd ps []
section
variable {X : Cx} {CX : CXT} {k : Nat} {f C : Addr} {fd : FuncData} {ps : List Str} {sp : Sp} {E : XK} {x m : Str} {p pos apos : Pos} {e o : Expr} {es : List Expr} {ta : TE} {t : TA}
theorem FnG.wp {pins : List (Addr × Obj)} {σ : L2.St} {H : Hp} {s : Shared} {Q : VK} {us ws : List Value} {kw : List (Str × Value)} {vs : List V} (F : FnG X.prog X.w X.K X.mg X.base CX k f fd ps sp) (hr : RG k X.A) (hx : Passes CX X E) (I : Inv X pins σ H s)
    (hb : ws.length = ps.length → BindsTo s fd ⟨us, kw⟩ (ps.zip ws)) (r : Vals vs ws) (h : sp vs H Q E) : wpAny (model X.prog X.w) X.A (call (.ref f) us kw) (EP X pins σ Q) X.xe s := by
  have hl : ws.length = ps.length := (r.length).symm.trans (F.len _ _ _ _ h)
  refine wpAny_call (codeAny_mono (F.run X.A X.stack s H ⟨us, kw⟩ ws vs Q E hr I.env0 (hb hl) r h) fun res s1 q => ?_)
  match res, q with
  | .error ev, q => exact hx pins σ H s ev s1 I q
  | .ok (.ret u), q => exact I.after q
  | .ok .next, q => exact q.elim
  | .ok .brk, q => exact q.elim
  | .ok .cont, q => exact q.elim
theorem FnG.wp0 {pins : List (Addr × Obj)} {σ : L2.St} {H : Hp} {s : Shared} {Q : VK} {us : List Value} {vs : List V} (F : FnG X.prog X.w X.K X.mg X.base CX k f fd ps sp) (hr : RG k X.A) (hb : Binds X.K fd ps []) (hx : Passes CX X E) (I : Inv X pins σ H s)
    (r : Vals vs us) (h : sp vs H Q E) : wpAny (model X.prog X.w) X.A (call (.ref f) us) (EP X pins σ Q) X.xe s := by
  refine F.wp hr hx I (fun hl => ?_) r h
  have z := hb s us I.kIn (by rw [List.append_nil]; exact hl)
  rw [List.append_nil] at z
  exact z
def tFn (sp : Sp) (E : XK) (t : TA) : TE := fun σ H Q => t σ H fun vs H1 => sp vs H1 Q E
/-- f(e, ..) -/
theorem pe_fn (c : Cal X.prog X.w X.K X.mg X.base CX x k ps sp) {j : Nat} (hr : RG j X.A) (hj : k ≤ j) (hg : Gl X x) (hx : Passes CX X E) (ha : PA X (e :: es) t) (hdb : (x == ("__debug__" : Str)) = false := by decide)
    (he : starEach (e :: es) X.env = (false, eval e X.env) :: starEach es X.env := by rfl) (hpl : (backTo pos (starEach es X.env)).any (·.1) = false := by rfl) : PE X (.Call (.Name x p) (e :: es) [] pos) (tFn sp E t) := by
  obtain ⟨f, fd, F, hm, hk, hb⟩ := c.ex
  refine ⟨fun pins s σ H Q I h => wpAny_Call_Name_kw (ld_glob I hg hm ?_ hdb)⟩
  refine PySem.W.callWith_K (h₀ := X.base) I.mod.kin hk (thn (ha.run pos pins s σ H _ I h) fun us s1 z => ?_) he hpl
  obtain ⟨vs, H1, I1, r, q⟩ := z
  exact ⟨I1.kIn, F.wp0 (hr.mono hj) hb hx I1 r q⟩
/-- f() -/
theorem pe_fn0 (c : Cal X.prog X.w X.K X.mg X.base CX x k ps sp) {j : Nat} (hr : RG j X.A) (hj : k ≤ j) (hg : Gl X x) (hx : Passes CX X E) (hdb : (x == ("__debug__" : Str)) = false := by decide) : PE X (.Call (.Name x p) [] [] pos) (tFn sp E tNil) := by
  obtain ⟨f, fd, F, hm, hk, hb⟩ := c.ex
  exact ⟨fun pins s σ H Q I h => wpAny_Call_Name_kw (ld_glob I hg hm (PySem.W.callWith_K0 I.kIn hk (F.wp0 (us := []) (hr.mono hj) hb hx I .nil h)) hdb)⟩
/-- o.m(e, ..): the method m of the class at C -/
structure CalM (P : Program) (w : World) (K : FK) (mg : Str → Option Value) (base : Heap) (CX : CXT) (C : Addr) (m : Str) (k : Nat) (ps : List Str) (sp : Sp) : Prop where
  ex : ∃ f fd, FnG P w K mg base CX k f fd ps sp ∧ Cls K C ∧ Meth K C m f ∧ Binds K fd ps []
def tMt (C : Addr) (m : Str) (sp : Sp) (E : XK) (ta : TE) (t : TA) : TE := fun σ H Q => ta σ H fun x H1 => ∃ a dx fs, x = .ref a ∧ H1 a = some (.ins C dx fs) ∧ fs.lookup m = none ∧ t σ H1 fun vs H2 => sp (x :: vs) H2 Q E
theorem pe_mt {pl : Sem Bool} (c : CalM X.prog X.w X.K X.mg X.base CX C m k ps sp) {j : Nat} (hr : RG j X.A) (hj : k ≤ j) (hx : Passes CX X E) (he : PE X o ta) (ha : PA X (e :: es) t)
    (hst : starEach (e :: es) X.env = (false, eval e X.env) :: starEach es X.env := by rfl) (hpl : (backTo pos (starEach es X.env)).any (·.1) = false := by rfl)
    (ht : eval (.Call (.Attribute o m apos) (e :: es) [] pos) X.env = (do
      let ov ← eval o X.env; standAt apos.atName; let (f, first) ← holding [ov] (getMethod ov m pl)
      callWith pos f first (backTo pos (starEach (e :: es) X.env)) (backToKw pos (keywordEach [] X.env))) := by rfl) : PE X (.Call (.Attribute o m apos) (e :: es) [] pos) (tMt C m sp E ta t) := by
  obtain ⟨f, fd, F, cl, hm, hb⟩ := c.ex
  refine ⟨fun pins s σ H Q I h => PySem.W.methodCall_KW (pl := pl) (thn (he.run pins s σ H _ I h) fun u s1 z => ?_) ht⟩
  obtain ⟨xv, H1, I1, rx, a, dx, fs, ex, ea, l, q⟩ := z
  subst ex
  obtain rfl : u = Value.ref a := rx
  refine getmeth_ok I1 ea cl hm l (PySem.W.callWith_K (first := [.ref a]) (h₀ := X.base) I.mod.kin hm.kp (thn (ha.run pos pins s1 σ H1 _ I1 q) fun us s2 z => ?_) hst hpl)
  obtain ⟨vs, H2, I2, r, q2⟩ := z
  exact ⟨I2.kIn, F.wp0 (us := .ref a :: us) (vs := .ref a :: vs) (hr.mono hj) hb hx I2 (.cons rfl r) q2⟩
/-- C(e, ..): the class x at C with __init__ -/
structure CalC (P : Program) (w : World) (K : FK) (mg : Str → Option Value) (base : Heap) (CX : CXT) (x : Str) (C : Addr) (k : Nat) (ps : List Str) (sp : Sp) : Prop where
  ex : ∃ f fd, FnG P w K mg base CX k f fd ps sp ∧ mg x = some (.ref C) ∧ Mk K C f ∧ Binds K fd ps []
def tMk (C : Addr) (sp : Sp) (E : XK) (t : TA) : TE := fun σ H Q => t σ H fun vs H1 => ∀ x dx, H1 x = none → H1 dx = none → dx ≠ x →
  sp (.ref x :: vs) (upd (upd H1 dx (.own x)) x (.ins C dx [])) (fun v H2 => v = .non ∧ Q (.ref x) H2) E
theorem RG.make {A : Around} (r : RG (k + 1) A) (C : Addr) (us : List Value) (kw : List (Str × Value)) : RG k (A.under (.builtin "type.__call__" ⟨.ref C :: us, kw⟩)) :=
  ⟨r.rm.make C us kw, by
    show pushGuards (Code.guards (.builtin "type.__call__" ⟨.ref C :: us, kw⟩)) A.guards = some []
    rw [r.gd]
    rfl⟩
theorem pe_mk (c : CalC X.prog X.w X.K X.mg X.base CX x C k ps sp) {j : Nat} (hr : RG j X.A) (hj : k + 1 ≤ j) (hg : Gl X x) (hx : Passes CX X E) (ha : PA X (e :: es) t) (hdb : (x == ("__debug__" : Str)) = false := by decide)
    (he : starEach (e :: es) X.env = (false, eval e X.env) :: starEach es X.env := by rfl) (hpl : (backTo pos (starEach es X.env)).any (·.1) = false := by rfl) : PE X (.Call (.Name x p) (e :: es) [] pos) (tMk C sp E t) := by
  obtain ⟨f, fd, F, hm, M, hb⟩ := c.ex
  refine ⟨fun pins s σ H Q I h => wpAny_Call_Name_kw (ld_glob I hg hm ?_ hdb)⟩
  refine PySem.W.callWith_K (h₀ := X.base) I.mod.kin M.kp (thn (ha.run pos pins s σ H _ I h) fun us s1 z => ?_) he hpl
  obtain ⟨vs, H1, I1, r, q⟩ := z
  refine ⟨I1.kIn, ?_⟩
  have hq := q (s1.heap.objs.size + 1) s1.heap.objs.size (I1.hok.fresh (Nat.le_succ _)) (I1.hok.fresh (Nat.le_refl _)) (Nat.ne_of_lt (Nat.lt_succ_self _))
  have J := Inv.made (C := C) I1
  have r2 : Vals (V.ref (s1.heap.objs.size + 1) :: vs) (Value.ref (s1.heap.objs.size + 1) :: us) := .cons rfl r
  have hl : (Value.ref (s1.heap.objs.size + 1) :: us).length = ps.length := r2.length.symm.trans (F.len _ _ _ _ hq)
  have hbd := hb _ (Value.ref (s1.heap.objs.size + 1) :: us) J.kIn (by rw [List.append_nil]; exact hl)
  rw [List.append_nil] at hbd
  refine wpAny_call (make_map (f := f) I1.kIn M.makes M.init (beq_iff_eq.mp M.fn) (codeAny_mono (F.run _ X.stack _ _ ⟨_, []⟩ _ _ _ E ((hr.mono hj).make C us []) (J.env0.make C us []) hbd r2 hq) fun res s2 z => ?_))
  match res, z with
  | .error ev, z => exact hx pins σ _ _ ev s2 J z
  | .ok (.ret u), z =>
    obtain ⟨v, H2, I2, rv, ev, qf⟩ := J.after z
    subst ev
    obtain rfl : u = Value.none := rv
    exact ⟨rfl, ⟨.ref (s1.heap.objs.size + 1), H2, I2, rfl, qf⟩⟩
  | .ok .next, z => exact z.elim
  | .ok .brk, z => exact z.elim
  | .ok .cont, z => exact z.elim
end
/-! ### a def by its body -/
section
variable {P : Program} {w : World} {K : FK} {mg : Str → Option Value} {base : Heap}
theorem fnG_of {CX : CXT} {k : Nat} {f : Addr} {name qual : Str} {params : Arguments} {body : List Stmt} {scope : Scope} {dV kV doc pm cdv ct oc : Value} {an od : Option Addr} {osl : Array (Option Value)} {N ps : List Str} {sp : Sp}
    (lk : K.lookup f = some ⟨oc, od, .func (PySem.W.fnOf name qual params body scope dV kV doc pm an cdv ct), osl⟩) (hcd : PySem.W.codeIn K cdv qual = true) (S : FnScope N ps scope) (len : ∀ vs H Q E, sp vs H Q E → vs.length = ps.length)
    (hbody : ∀ (A : Around) (outer : List Env) (s : Shared) (H : Hp) (vs : List V) (Q : VK) (E : XK), RG k (A.deeper (envOfC qual scope s.heap.objs.size f cdv)) → sp vs H Q E →
      ∃ t, PSs (cxOf CX P w K mg base N qual scope f cdv A outer s H E) body t ∧ t { nx := fun _ H2 => Q .non H2, rt := Q } (start N vs) H) :
    FnG P w K mg base CX (k + 1) f (PySem.W.fnOf name qual params body scope dV kV doc pm an cdv ct) ps sp := by
  refine ⟨len, fun A outer s H args us vs Q E hr e0 hb r hsp => ?_⟩
  have hl := len _ _ _ _ hsp
  have kx : K.In s.heap := e0.mod.kin.keeps fun b o z => (e0.bs b o z).1
  have nl : s.heap.NoLimit := e0.mod.nolimit.keeps fun b o z => (e0.bs b o z).1
  have kinds : ∀ y ∈ ps.zip us, scope.names.lookup y.1 = some .local ∨ (scope.names.lookup y.1 = some .cell ∧ ((cellsFrom (s.heap.objs.size + 1) scope.names []).lookup y.1).isSome = true) := by
    rintro ⟨n, v⟩ hy
    exact (S.par n (List.of_mem_zip hy).1).imp id fun q => ⟨q, PySem.W.cellsFrom_some _ _ _ (.inl q)⟩
  refine codeAny_call_function hr.rm.depth (kx _ _ lk) rfl S.co S.gen rfl (PySem.W.codeRec_of kx hcd) (hb _ _ _ _ (wpAny_newFunctionEnv_cells S.kind kinds fun env he s1 x => ?_))
  subst he
  refine ⟨nl.keeps x.toInCall.keep, codeAny_func ?_⟩
  obtain ⟨t, ht, hq⟩ := hbody A outer s H vs Q E ⟨hr.rm.deeper _, hr.gd⟩ hsp
  have J0 : Inv (cxOf CX P w K mg base N qual scope f cdv A outer s H E) [] (start N vs) H s1 := inv_start S hr.rm.hd e0 hl r x
  refine wpAny_mono (ht.run [] s1 _ H _ J0 hq) (fun fl s2 z => ?_) fun _ _ z => z
  match fl, z with
  | .ret u, z =>
    obtain ⟨v, σ2, H2, J, rv, q⟩ := z
    exact ⟨v, H2, J.os, J.bare, J.base, J.hok, rv, q⟩
  | .next, z =>
    obtain ⟨σ2, H2, J, q⟩ := z
    exact ⟨V.non, H2, J.os, J.bare, J.base, J.hok, rfl, q⟩
  | .brk, z =>
    obtain ⟨_, _, _, q⟩ := z
    exact q.elim
  | .cont, z =>
    obtain ⟨_, _, _, q⟩ := z
    exact q.elim
/-- the context of a def's body that lets no exception out -/
abbrev cx0 (P : Program) (w : World) (K : FK) (mg : Str → Option Value) (base : Heap) (N : List Str) (qual : Str) (st : Stmt) (f : Addr) (cdv : Value) (A : Around) (outer : List Env) (s : Shared) (H : Hp) (E : XK) : Cx :=
  (cxOf CX0 P w K mg base N qual (defScope st) f cdv A outer s H E).nox
/-- a def that lets no exception out -/
theorem fnG {x qual : Str} {st : Stmt} {f : Addr} {fd : FuncData} {N ps : List Str} {k : Nat} {sp : Sp} {t : TS} (F : Fun K x qual st f fd) (S : FnScope N ps (defScope st)) (len : ∀ vs H Q E, sp vs H Q E → vs.length = ps.length)
    (pure_ : ∀ vs H Q E, sp vs H Q E → t { nx := fun _ H2 => Q .non H2, rt := Q } (start N vs) H)
    (der : ∀ (cdv : Value) (A : Around) (outer : List Env) (s : Shared) (H : Hp) (E : XK), RG k (cx0 P w K mg base N qual st f cdv A outer s H E).A → PSs (cx0 P w K mg base N qual st f cdv A outer s H E) (defBody st) t) : FnG P w K mg base CX0 (k + 1) f fd ps sp := by
  obtain ⟨oc, od, kV, doc, pm, an, cdv, ct, osl, rfl, lk, hcd⟩ := F.ex
  exact fnG_of lk hcd S len fun A outer s H vs Q E hr hsp => ⟨t, (der cdv A outer s H E hr).nox, pure_ vs H Q E hsp⟩
end
end GP

set_option Elab.async false
set_option linter.all false
set_option maxRecDepth 100000
set_option maxHeartbeats 4000000
/-! G2: data without a heap: D, what represents it (Rep), and judgements that lead a reading back to a predicate transformer over data. -/
namespace GP
open PySem PySem.Spec PyProof.Rows L2
abbrev LIM : Nat := 1000000
abbrev TMAX : Nat := 1000000000000
inductive D where
  | non | bl (b : Bool) | int (i : Int) | str (x : Str) | lst (xs : List D) | tup (xs : List D) | dct (kvs : List (Key × D))
  | ins (c : String) (fs : List (Str × D)) | ty (n : String) | cls (c : String) | st | raw (x : Str)
  /-- an exception that was caught -/
  | exc (c : String) (fs : List (Str × D))
/-- what a law's proof fixes: the written part, the classes, the constants -/
structure Cn where
  K : FK
  cls : String → Option Addr
  con : String → V
abbrev LS := Option (Addr × Addr)
/-- a text that data may hold -/
def okStr (x : Str) : Bool := decide (x.length ≤ LIM) && x.cps.all (· < 0x110000)
/-- a key that data may hold -/
def okK : Key → Bool
  | .inl _ => true
  | .inr x => okStr x
/-- a tuple that is tracked, or written by the top -/
def TpA (K : FK) (G : Hp) (a : Addr) (xs : List V) : Prop :=
  G a = some (.tup xs) ∨ ∃ (o : Obj) (its : Array Value) (n : Nat), K.lookup a = some o ∧ o.cls = .type "tuple" ∧ o.data = .seq its n ∧ its.size ≤ sizeLine ∧ Vals xs its.toList
theorem TpA.sq {K : FK} {G : Hp} {a : Addr} {xs : List V} (h : TpA K G a xs) : SqT K G a xs := h.imp .inl id
/-- at a: an exception that was caught, of the class cls, its dict at d -/
def ExK (cls : Value) (d : Option Addr) (a : Addr) : HO := .ext fun h => ∃ (oe : Obj) (vs : Array Value), h.get? a = some oe ∧ Zc cls d oe ∧ oe.data = .fields vs
/-- the fields of an exception whose dict is at d -/
def XdAt (G : Hp) (d : Option Addr) (xs : List (Str × V)) : Prop := (d = none ∧ xs = []) ∨ ∃ dd, d = some dd ∧ G dd = some (.xd xs)
mutual
inductive Rep (Γ : Cn) (L : LS) (G : Hp) : V → D → Prop
  | non : Rep Γ L G .non .non
  | bl (b : Bool) : Rep Γ L G (.bl b) (.bl b)
  | int (i : Int) : Rep Γ L G (.int i) (.int i)
  | str {x : Str} (h : okStr x = true) : Rep Γ L G (.str x) (.str x)
  | lst {a : Addr} {xs : List V} {ds : List D} (h : G a = some (.lst xs)) (r : RepL Γ L G xs ds) (z : ds.length ≤ LIM) : Rep Γ L G (.ref a) (.lst ds)
  | tup {a : Addr} {xs : List V} {ds : List D} (h : TpA Γ.K G a xs) (r : RepL Γ L G xs ds) (z : ds.length ≤ LIM) : Rep Γ L G (.ref a) (.tup ds)
  | dct {a : Addr} {xs : List (Key × V)} {ds : List (Key × D)} (h : G a = some (.dK xs)) (r : RepK Γ L G xs ds) (z : ds.length ≤ LIM) : Rep Γ L G (.ref a) (.dct ds)
  | ins {a C dx : Addr} {c : String} {xs : List (Str × V)} {ds : List (Str × D)} (h : G a = some (.ins C dx xs)) (hd : G dx = some (.own a)) (hc : Γ.cls c = some C) (r : RepF Γ L G xs ds) : Rep Γ L G (.ref a) (.ins c ds)
  | ty (n : String) : Rep Γ L G (.ty n) (.ty n)
  | cls {C : Addr} {c : String} (hc : Γ.cls c = some C) : Rep Γ L G (.ref C) (.cls c)
  | st {p g : Addr} (h : L = some (p, g)) : Rep Γ L G (.ref p) .st
  | raw (x : Str) : Rep Γ L G (.str x) (.raw x)
  | exc {a C : Addr} {dd : Option Addr} {c : String} {xs : List (Str × V)} {ds : List (Str × D)} (h : G a = some (ExK (.ref C) dd a)) (hc : Γ.con c = .ref C) (r : RepF Γ L G xs ds) (hd : XdAt G dd xs) : Rep Γ L G (.ref a) (.exc c ds)
inductive RepL (Γ : Cn) (L : LS) (G : Hp) : List V → List D → Prop
  | nil : RepL Γ L G [] []
  | cons {v : V} {d : D} {vs : List V} {ds : List D} (h : Rep Γ L G v d) (t : RepL Γ L G vs ds) : RepL Γ L G (v :: vs) (d :: ds)
inductive RepK (Γ : Cn) (L : LS) (G : Hp) : List (Key × V) → List (Key × D) → Prop
  | nil : RepK Γ L G [] []
  | cons {k : Key} {v : V} {d : D} {vs : List (Key × V)} {ds : List (Key × D)} (o : okK k = true) (h : Rep Γ L G v d) (t : RepK Γ L G vs ds) : RepK Γ L G ((k, v) :: vs) ((k, d) :: ds)
inductive RepF (Γ : Cn) (L : LS) (G : Hp) : List (Str × V) → List (Str × D) → Prop
  | nil : RepF Γ L G [] []
  | cons {k : Str} {v : V} {d : D} {vs : List (Str × V)} {ds : List (Str × D)} (h : Rep Γ L G v d) (t : RepF Γ L G vs ds) : RepF Γ L G ((k, v) :: vs) ((k, d) :: ds)
end
def Ex (H H' : Hp) : Prop := ∀ a o, H a = some o → H' a = some o
theorem Ex.rfl' {H : Hp} : Ex H H := fun _ _ h => h
theorem Ex.tr {H H1 H2 : Hp} (a : Ex H H1) (b : Ex H1 H2) : Ex H H2 := fun x o h => b x o (a x o h)
theorem Ex.new {H : Hp} {p : Addr} {o : HO} (h : H p = none) : Ex H (upd H p o) := fun a u e => by rw [upd_ne (ne_of_none e h)]; exact e
theorem Ex.back {H H' : Hp} {p : Addr} (e : Ex H H') (h : H' p = none) : H p = none := by
  cases q : H p with
  | none => rfl
  | some o => rw [e p o q] at h; cases h
theorem Ex.rd {H H' : Hp} {a : Addr} {u : HO} (e : Ex H H') (h : Rd H a u) : Rd H' a u := h.imp (e a _) fun ⟨o, q⟩ => ⟨o, e a _ q⟩
theorem Ex.sl {K : FK} {H H' : Hp} {a : Addr} {xs : List V} (e : Ex H H') (h : SqL K H a xs) : SqL K H' a xs := h.imp e.rd id
theorem Ex.stt {K : FK} {H H' : Hp} {a : Addr} {xs : List V} (e : Ex H H') (h : SqT K H a xs) : SqT K H' a xs := h.imp e.rd id
theorem Ex.tp {K : FK} {H H' : Hp} {a : Addr} {xs : List V} (e : Ex H H') (h : TpA K H a xs) : TpA K H' a xs := h.imp (e _ _) id
section
variable {Γ : Cn} {L : LS} {G G' : Hp}
mutual
theorem Rep.up (e : Ex G G') : ∀ {v : V} {d : D}, Rep Γ L G v d → Rep Γ L G' v d
  | _, _, .non => .non
  | _, _, .bl b => .bl b
  | _, _, .int i => .int i
  | _, _, .str h => .str h
  | _, _, .lst h r z => .lst (e _ _ h) (RepL.up e r) z
  | _, _, .tup h r z => .tup (e.tp h) (RepL.up e r) z
  | _, _, .dct h r z => .dct (e _ _ h) (RepK.up e r) z
  | _, _, .ins h hd hc r => .ins (e _ _ h) (e _ _ hd) hc (RepF.up e r)
  | _, _, .ty n => .ty n
  | _, _, .cls h => .cls h
  | _, _, .st h => .st h
  | _, _, .raw x => .raw x
  | _, _, .exc h hc r hd => .exc (e _ _ h) hc (RepF.up e r) (hd.imp id fun ⟨q, z, y⟩ => ⟨q, z, e _ _ y⟩)
theorem RepL.up (e : Ex G G') : ∀ {v : List V} {d : List D}, RepL Γ L G v d → RepL Γ L G' v d
  | _, _, .nil => .nil
  | _, _, .cons h t => .cons (Rep.up e h) (RepL.up e t)
theorem RepK.up (e : Ex G G') : ∀ {v : List (Key × V)} {d : List (Key × D)}, RepK Γ L G v d → RepK Γ L G' v d
  | _, _, .nil => .nil
  | _, _, .cons o h t => .cons o (Rep.up e h) (RepK.up e t)
theorem RepF.up (e : Ex G G') : ∀ {v : List (Str × V)} {d : List (Str × D)}, RepF Γ L G v d → RepF Γ L G' v d
  | _, _, .nil => .nil
  | _, _, .cons h t => .cons (Rep.up e h) (RepF.up e t)
end
theorem RepL.len : ∀ {v : List V} {d : List D}, RepL Γ L G v d → v.length = d.length
  | _, _, .nil => rfl
  | _, _, .cons _ t => congrArg (· + 1) (RepL.len t)
theorem RepL.app : ∀ {v w : List V} {d e : List D}, RepL Γ L G v d → RepL Γ L G w e → RepL Γ L G (v ++ w) (d ++ e)
  | _, _, _, _, .nil, s => s
  | _, _, _, _, .cons h t, s => .cons h (RepL.app t s)
theorem RepL.at_ : ∀ {v : List V} {d : List D} {i : Nat} {x : D}, RepL Γ L G v d → d[i]? = some x → ∃ y, v[i]? = some y ∧ Rep Γ L G y x
  | _, _, _, _, .nil, h => by simp at h
  | _, _, 0, _, .cons h _, e => by simp at e; subst e; exact ⟨_, rfl, h⟩
  | _, _, i + 1, _, .cons _ t, e => by simpa using RepL.at_ (i := i) t (by simpa using e)
theorem RepL.at' : ∀ {v : List V} {d : List D} {i : Nat} {y : V}, RepL Γ L G v d → v[i]? = some y → ∃ x, d[i]? = some x ∧ Rep Γ L G y x
  | _, _, _, _, .nil, h => by simp at h
  | _, _, 0, _, .cons h _, e => by simp at e; subst e; exact ⟨_, rfl, h⟩
  | _, _, i + 1, _, .cons _ t, e => by simpa using RepL.at' (i := i) t (by simpa using e)
theorem RepL.take : ∀ {v : List V} {d : List D} (n : Nat), RepL Γ L G v d → RepL Γ L G (v.take n) (d.take n)
  | _, _, 0, _ => .nil
  | _, _, _ + 1, .nil => .nil
  | _, _, n + 1, .cons h t => .cons h (RepL.take n t)
theorem RepL.drop : ∀ {v : List V} {d : List D} (n : Nat), RepL Γ L G v d → RepL Γ L G (v.drop n) (d.drop n)
  | _, _, 0, h => h
  | _, _, _ + 1, .nil => .nil
  | _, _, n + 1, .cons _ t => RepL.drop n t
theorem RepL.set : ∀ {v : List V} {d : List D} {y : V} {x : D} (n : Nat), RepL Γ L G v d → Rep Γ L G y x → RepL Γ L G (v.set n y) (d.set n x)
  | _, _, _, _, _, .nil, _ => .nil
  | _, _, _, _, 0, .cons _ t, r => .cons r t
  | _, _, _, _, n + 1, .cons h t, r => .cons h (RepL.set n t r)
theorem RepL.erase : ∀ {v : List V} {d : List D} (n : Nat), RepL Γ L G v d → RepL Γ L G (v.eraseIdx n) (d.eraseIdx n)
  | _, _, _, .nil => .nil
  | _, _, 0, .cons _ t => t
  | _, _, n + 1, .cons h t => .cons h (RepL.erase n t)
end
/-! ### the law's state: a dict of the list of great numbers, the cells, what is left, the turn -/
def stK (g c : Addr) (left turn : Int) : List (Key × V) := [(.inr "great", .ref g), (.inr "cells", .ref c), (.inr "left", .int left), (.inr "turn", .int turn)]
def notL (L : LS) (a : Addr) : Prop := ∀ p g, L = some (p, g) → a ≠ p ∧ a ≠ g
structure LawSt (p g : Addr) (t : Nat) (G H : Hp) : Prop where
  np : G p = none
  ng : G g = none
  ne : p ≠ g
  ex : ∃ (c : Addr) (great cells : List Int) (left turn : Int), H p = some (.dK (stK g c left turn)) ∧ H g = some (.lst (great.map V.int)) ∧ (∀ z ∈ great, 0 ≤ z) ∧ 0 ≤ left ∧ 0 ≤ turn ∧ turn ≤ (t : Int) ∧ G c = some (.lst (cells.map V.int))
def LawAt (L : LS) (t : Nat) (G H : Hp) : Prop := ∀ p g, L = some (p, g) → LawSt p g t G H
/-- G's things stand in H (a dict may be locked) -/
def Exf (G H : Hp) : Prop := ∀ a o, G a = some o → H a = some o ∨ ∃ kvs od, o = .dK kvs ∧ H a = some (.frz od (.dK kvs))
/-- from the entry (G0 within B) the point (G within H) was reached -/
structure At (L : LS) (t : Nat) (B G0 G H : Hp) : Prop where
  gg : Ex G0 G
  gh : Exf G H
  bh : ∀ a o, B a = some o → notL L a → H a = some o
  nw : ∀ a o, G a = some o → G0 a = some o ∨ B a = none
  lw : LawAt L t G H
theorem LawAt.le {L : LS} {t u : Nat} {G H : Hp} (h : LawAt L t G H) (l : t ≤ u) : LawAt L u G H := fun p g e => by
  obtain ⟨a, b, c, c1, gr, cs, lf, tn, h1, h2, h3, h4, h5, h6, h7⟩ := h p g e
  exact ⟨a, b, c, c1, gr, cs, lf, tn, h1, h2, h3, h4, h5, by omega, h7⟩
theorem At.le {L : LS} {t u : Nat} {B G0 G H : Hp} (h : At L t B G0 G H) (l : t ≤ u) : At L u B G0 G H := ⟨h.gg, h.gh, h.bh, h.nw, h.lw.le l⟩
theorem At.start {L : LS} {t : Nat} {G H : Hp} (e : Exf G H) (l : LawAt L t G H) : At L t H G G H := ⟨Ex.rfl', e, fun _ _ h _ => h, fun _ _ h => .inl h, l⟩
theorem At.tr {L : LS} {t u : Nat} {B G0 G H G' H' : Hp} (a : At L t B G0 G H) (b : At L u H G G' H') : At L u B G0 G' H' where
  gg := a.gg.tr b.gg
  gh := b.gh
  bh := fun x o h n => b.bh x o (a.bh x o h n) n
  nw := fun x o h => (b.nw x o h).elim (fun q => a.nw x o q) fun q => by
    cases hb : B x with
    | none => exact .inr rfl
    | some o' =>
      by_cases hn : notL L x
      · rw [a.bh x o' hb hn] at q; cases q
      · exfalso
        apply hn
        intro p g e
        obtain ⟨_, _, _, c1, gr, cs, lf, tn, h1, h2, _⟩ := a.lw p g e
        exact ⟨fun z => (by rw [z, h1] at q; cases q), fun z => (by rw [z, h2] at q; cases q)⟩
  lw := b.lw
theorem LawAt.out {L : LS} {t : Nat} {G H : Hp} (h : LawAt L t G H) {a : Addr} (n : H a = none) : notL L a := fun p g e => by
  obtain ⟨_, _, _, c1, gr, cs, lf, tn, h1, h2, _⟩ := h p g e
  exact ⟨fun z => (by rw [z, h1] at n; cases n), fun z => (by rw [z, h2] at n; cases n)⟩
theorem Exf.none {G H : Hp} (e : Exf G H) {a : Addr} (n : H a = none) : G a = none := by
  cases q : G a with
  | none => rfl
  | some o =>
    rcases e a o q with h | ⟨_, _, _, h⟩ <;> (rw [n] at h; cases h)
theorem Exf.rdl {G H : Hp} (e : Exf G H) {a : Addr} {xs : List V} (h : Rd G a (.lst xs)) : Rd H a (.lst xs) := by
  rcases h with h | ⟨o, h⟩
  · rcases e a _ h with q | ⟨_, _, q, _⟩
    · exact .inl q
    · cases q
  · rcases e a _ h with q | ⟨_, _, q, _⟩
    · exact .inr ⟨o, q⟩
    · cases q
theorem Exf.rdt {G H : Hp} (e : Exf G H) {a : Addr} {xs : List V} (h : Rd G a (.tup xs)) : Rd H a (.tup xs) := by
  rcases h with h | ⟨o, h⟩
  · rcases e a _ h with q | ⟨_, _, q, _⟩
    · exact .inl q
    · cases q
  · rcases e a _ h with q | ⟨_, _, q, _⟩
    · exact .inr ⟨o, q⟩
    · cases q
theorem Exf.sl {K : FK} {G H : Hp} (e : Exf G H) {a : Addr} {xs : List V} (h : SqL K G a xs) : SqL K H a xs := h.imp e.rdl id
theorem Exf.stt {K : FK} {G H : Hp} (e : Exf G H) {a : Addr} {xs : List V} (h : SqT K G a xs) : SqT K H a xs := h.imp e.rdt id
theorem Exf.tp {K : FK} {G H : Hp} (e : Exf G H) {a : Addr} {xs : List V} (h : TpA K G a xs) : TpA K H a xs := by
  rcases h with h | h
  · rcases e a _ h with q | ⟨_, _, q, _⟩
    · exact .inl q
    · cases q
  · exact .inr h
theorem Exf.dk {G H : Hp} (e : Exf G H) {a : Addr} {kvs : List (Key × V)} (h : G a = some (.dK kvs)) : Rd H a (.dK kvs) := by
  rcases e a _ h with q | ⟨_, od, q, r⟩
  · exact .inl q
  · cases q; exact .inr ⟨od, r⟩
theorem Exf.ins {G H : Hp} (e : Exf G H) {a C dx : Addr} {fs : List (Str × V)} (h : G a = some (.ins C dx fs)) : H a = some (.ins C dx fs) := by
  rcases e a _ h with q | ⟨_, _, q, _⟩
  · exact q
  · cases q
/-- a new thing, at once among the stable ones -/
theorem At.new {L : LS} {t : Nat} {G H : Hp} {p : Addr} {o : HO} (e : Exf G H) (l : LawAt L t G H) (n : H p = none) : At L t H G (upd G p o) (upd H p o) where
  gg := Ex.new (e.none n)
  gh := fun a u h => by
    by_cases z : a = p
    · subst z; rw [upd_same] at h ⊢; exact .inl h
    · rw [upd_ne z] at h ⊢; exact e a u h
  bh := fun a u h _ => by rw [upd_ne (ne_of_none h n)]; exact h
  nw := fun a u h => by
    by_cases z : a = p
    · subst z; exact .inr n
    · rw [upd_ne z] at h; exact .inl h
  lw := fun q g eq => by
    obtain ⟨h1, h2, h3, c1, gr, cs, lf, tn, k1, k2, k3, k4, k5, k6, k7⟩ := l q g eq
    have n1 : q ≠ p := ne_of_none k1 n
    have n2 : g ≠ p := ne_of_none k2 n
    refine ⟨by rw [upd_ne n1]; exact h1, by rw [upd_ne n2]; exact h2, h3, c1, gr, cs, lf, tn, by rw [upd_ne n1]; exact k1, by rw [upd_ne n2]; exact k2, k3, k4, k5, k6, ?_⟩
    rw [upd_ne (ne_of_none k7 (e.none n))]; exact k7
/-- a new thing, not among the stable ones -/
theorem At.newH {L : LS} {t : Nat} {G H : Hp} {p : Addr} {o : HO} (e : Exf G H) (l : LawAt L t G H) (n : H p = none) : At L t H G G (upd H p o) where
  gg := Ex.rfl'
  gh := fun a u h => by
    have z : a ≠ p := fun z => by subst z; rw [e.none n] at h; cases h
    rw [upd_ne z]; exact e a u h
  bh := fun a u h _ => by rw [upd_ne (ne_of_none h n)]; exact h
  nw := fun a u h => .inl h
  lw := fun q g eq => by
    obtain ⟨h1, h2, h3, c1, gr, cs, lf, tn, k1, k2, k3, k4, k5, k6, k7⟩ := l q g eq
    exact ⟨h1, h2, h3, c1, gr, cs, lf, tn, by rw [upd_ne (ne_of_none k1 n)]; exact k1, by rw [upd_ne (ne_of_none k2 n)]; exact k2, k3, k4, k5, k6, k7⟩
/-! ### values whose outer object may be owned: read, not kept -/
inductive OwnAt (Γ : Cn) (L : LS) (G H : Hp) : Addr → D → Prop
  | lst {p : Addr} {xs : List V} {ds : List D} (h : H p = some (.lst xs)) (r : RepL Γ L G xs ds) (z : ds.length ≤ LIM) : OwnAt Γ L G H p (.lst ds)
  | dct {p : Addr} {xs : List (Key × V)} {ds : List (Key × D)} (h : H p = some (.dK xs)) (r : RepK Γ L G xs ds) (z : ds.length ≤ LIM) : OwnAt Γ L G H p (.dct ds)
theorem OwnAt.step {Γ : Cn} {L : LS} {t : Nat} {G H G' H' : Hp} {p : Addr} {d : D} (a : At L t H G G' H') (n : notL L p) (h : OwnAt Γ L G H p d) : OwnAt Γ L G' H' p d := by
  cases h with
  | lst h r z => exact .lst (a.bh _ _ h n) (r.up a.gg) z
  | dct h r z => exact .dct (a.bh _ _ h n) (r.up a.gg) z
theorem OwnAt.there {Γ : Cn} {L : LS} {G H : Hp} {p : Addr} {d : D} (h : OwnAt Γ L G H p d) : ∃ o, H p = some o := by
  cases h with
  | lst h _ _ => exact ⟨_, h⟩
  | dct h _ _ => exact ⟨_, h⟩
def RepT (Γ : Cn) (L : LS) (G H : Hp) (v : V) (d : D) : Prop := Rep Γ L G v d ∨ ∃ p, v = .ref p ∧ OwnAt Γ L G H p d ∧ notL L p
theorem RepT.step {Γ : Cn} {L : LS} {t : Nat} {G H G' H' : Hp} {v : V} {d : D} (a : At L t H G G' H') (h : RepT Γ L G H v d) : RepT Γ L G' H' v d := by
  rcases h with h | ⟨p, rfl, h, n⟩
  · exact .inl (h.up a.gg)
  · exact .inr ⟨p, rfl, h.step a n, n⟩
/-! ### the frame's slots -/
inductive Sl where
  | sh (d : D) | ow (d : D)
abbrev DS := List (Option Sl)
structure Env (Γ : Cn) (L : LS) (B G H : Hp) (σ : L2.St) (δ : DS) : Prop where
  sh : ∀ (i : Nat) (d : D), δ[i]? = some (some (.sh d)) → ∃ v, σ[i]? = some (some v) ∧ Rep Γ L G v d
  ow : ∀ (i : Nat) (d : D), δ[i]? = some (some (.ow d)) → ∃ p, σ[i]? = some (some (.ref p)) ∧ OwnAt Γ L G H p d ∧ B p = none ∧ G p = none ∧ notL L p
  dj : ∀ (i j : Nat) (d e : D) (p : Addr), i ≠ j → δ[i]? = some (some (.ow d)) → δ[j]? = some (some (.ow e)) → σ[i]? = some (some (.ref p)) → σ[j]? = some (some (.ref p)) → False
  len : δ.length = σ.length
theorem Env.step {Γ : Cn} {L : LS} {t : Nat} {B G H G' H' : Hp} {σ : L2.St} {δ : DS} (e : Env Γ L B G H σ δ) (a : At L t H G G' H') : Env Γ L B G' H' σ δ where
  sh := fun i d h => let ⟨v, q, r⟩ := e.sh i d h; ⟨v, q, r.up a.gg⟩
  ow := fun i d h => by
    obtain ⟨p, q, r, b, g, n⟩ := e.ow i d h
    refine ⟨p, q, r.step a n, b, ?_, n⟩
    cases z : G' p with
    | none => rfl
    | some o =>
      obtain ⟨u, hu⟩ := r.there
      rcases a.nw p o z with y | y
      · rw [g] at y; cases y
      · rw [hu] at y; cases y
  dj := e.dj
  len := e.len
/-- a slot gets a stable value -/
theorem Env.set {Γ : Cn} {L : LS} {B G H : Hp} {σ : L2.St} {δ : DS} {v : V} {d : D} (e : Env Γ L B G H σ δ) (i : Nat) (r : Rep Γ L G v d) : Env Γ L B G H (σ.set i (some v)) (δ.set i (some (.sh d))) where
  sh := fun j x h => by
    by_cases z : i = j
    · subst z
      rw [List.getElem?_set] at h
      by_cases l : i < δ.length
      · simp [l] at h; subst h
        exact ⟨v, by rw [List.getElem?_set]; simp [← e.len, l], r⟩
      · simp [l] at h
    · rw [List.getElem?_set_ne z] at h ⊢; exact e.sh j x h
  ow := fun j x h => by
    by_cases z : i = j
    · subst z
      rw [List.getElem?_set] at h
      by_cases l : i < δ.length <;> simp [l] at h
    · rw [List.getElem?_set_ne z] at h ⊢; exact e.ow j x h
  dj := fun j k x y p hjk h1 h2 h3 h4 => by
    by_cases zj : i = j
    · subst zj
      rw [List.getElem?_set] at h1
      by_cases l : i < δ.length <;> simp [l] at h1
    · by_cases zk : i = k
      · subst zk
        rw [List.getElem?_set] at h2
        by_cases l : i < δ.length <;> simp [l] at h2
      · rw [List.getElem?_set_ne zj] at h1 h3
        rw [List.getElem?_set_ne zk] at h2 h4
        exact e.dj j k x y p hjk h1 h2 h3 h4
  len := by rw [List.length_set, List.length_set]; exact e.len
/-- a slot gets a new thing, owned -/
theorem Env.own {Γ : Cn} {L : LS} {B G H : Hp} {σ : L2.St} {δ : DS} {p : Addr} {d : D} (e : Env Γ L B G H σ δ) (i : Nat) (o : OwnAt Γ L G H p d) (hb : B p = none) (hg : G p = none) (hn : notL L p)
    (hf : ∀ (j : Nat) (x : D), j ≠ i → δ[j]? = some (some (.ow x)) → σ[j]? ≠ some (some (.ref p))) : Env Γ L B G H (σ.set i (some (.ref p))) (δ.set i (some (.ow d))) where
  sh := fun j x h => by
    by_cases z : i = j
    · subst z
      rw [List.getElem?_set] at h
      by_cases l : i < δ.length <;> simp [l] at h
    · rw [List.getElem?_set_ne z] at h ⊢; exact e.sh j x h
  ow := fun j x h => by
    by_cases z : i = j
    · subst z
      rw [List.getElem?_set] at h
      by_cases l : i < δ.length
      · simp [l] at h; subst h
        exact ⟨p, by rw [List.getElem?_set]; simp [← e.len, l], o, hb, hg, hn⟩
      · simp [l] at h
    · rw [List.getElem?_set_ne z] at h ⊢; exact e.ow j x h
  dj := fun j k x y q hjk h1 h2 h3 h4 => by
    by_cases zj : i = j
    · subst zj
      have zk : i ≠ k := hjk
      rw [List.getElem?_set_ne zk] at h2 h4
      rw [List.getElem?_set] at h3
      by_cases l : i < σ.length
      · simp [l] at h3; subst h3
        exact hf k y (Ne.symm hjk) h2 h4
      · simp [l] at h3
    · by_cases zk : i = k
      · subst zk
        rw [List.getElem?_set_ne zj] at h1 h3
        rw [List.getElem?_set] at h4
        by_cases l : i < σ.length
        · simp [l] at h4; subst h4
          exact hf j x (Ne.symm zj) h1 h3
        · simp [l] at h4
      · rw [List.getElem?_set_ne zj] at h1 h3
        rw [List.getElem?_set_ne zk] at h2 h4
        exact e.dj j k x y q hjk h1 h2 h3 h4
  len := by rw [List.length_set, List.length_set]; exact e.len
end GP

set_option Elab.async false
set_option linter.all false
set_option maxRecDepth 100000
set_option maxHeartbeats 4000000
/-! G3: the judgements over data, and their rules. -/
namespace GP
open PySem PySem.Spec PyProof.Rows L2
abbrev DE := DS → (D → Prop) → Prop
abbrev DT := DS → (Bool → Prop) → Prop
abbrev DA := DS → (List D → Prop) → Prop
abbrev DG := D → DS → (DS → Prop) → Prop
structure DN where
  nx : DS → Prop
  rt : D → Prop
  bk : DS → Prop := fun _ => False
  ct : DS → Prop := fun _ => False
  own : Bool := false
abbrev DQ := DN → DS → Prop
section
variable (Γ : Cn) (L : LS)
/-- a stable value comes out -/
def SE (c : Nat) (te : TE) (de : DE) : Prop := ∀ (t : Nat) (σ : L2.St) (δ : DS) (B G H : Hp), LawAt L t G H → Exf G H → Env Γ L B G H σ δ → t + c ≤ TMAX → ∀ P : D → Prop, de δ P → ∀ Q : VK,
  (∀ v d G' H', At L (t + c) H G G' H' → Rep Γ L G' v d → P d → Q v H') → te σ H Q
/-- a value that may be owned by a slot -/
def ST (c : Nat) (te : TE) (de : DE) : Prop := ∀ (t : Nat) (σ : L2.St) (δ : DS) (B G H : Hp), LawAt L t G H → Exf G H → Env Γ L B G H σ δ → t + c ≤ TMAX → ∀ P : D → Prop, de δ P → ∀ Q : VK,
  (∀ v d G' H', At L (t + c) H G G' H' → RepT Γ L G' H' v d → P d → Q v H') → te σ H Q
/-- a new list or dict -/
def SF (c : Nat) (te : TE) (de : DE) : Prop := ∀ (t : Nat) (σ : L2.St) (δ : DS) (B G H : Hp), LawAt L t G H → Exf G H → Env Γ L B G H σ δ → t + c ≤ TMAX → ∀ P : D → Prop, de δ P → ∀ Q : VK,
  (∀ p d G' H', At L (t + c) H G G' H' → H p = none → OwnAt Γ L G' H' p d → G' p = none → P d → Q (.ref p) H') → te σ H Q
def SB (c : Nat) (tt : TT) (dt : DT) : Prop := ∀ (t : Nat) (σ : L2.St) (δ : DS) (B G H : Hp), LawAt L t G H → Exf G H → Env Γ L B G H σ δ → t + c ≤ TMAX → ∀ P : Bool → Prop, dt δ P → ∀ Q : Bool → Hp → Prop,
  (∀ b G' H', At L (t + c) H G G' H' → P b → Q b H') → tt σ H Q
/-- n stable arguments -/
def SA (n c : Nat) (ta : TA) (da : DA) : Prop := ∀ (t : Nat) (σ : L2.St) (δ : DS) (B G H : Hp), LawAt L t G H → Exf G H → Env Γ L B G H σ δ → t + c ≤ TMAX → ∀ P : List D → Prop, da δ P → ∀ Q : List V → Hp → Prop,
  (∀ vs ds G' H', At L (t + c) H G G' H' → RepL Γ L G' vs ds → ds.length = n → P ds → Q vs H') → ta σ H Q
inductive RepTL (G H : Hp) : List V → List D → Prop
  | nil : RepTL G H [] []
  | cons {v : V} {d : D} {vs : List V} {ds : List D} (h : RepT Γ L G H v d) (t : RepTL G H vs ds) : RepTL G H (v :: vs) (d :: ds)
def SAT (c : Nat) (ta : TA) (da : DA) : Prop := ∀ (t : Nat) (σ : L2.St) (δ : DS) (B G H : Hp), LawAt L t G H → Exf G H → Env Γ L B G H σ δ → t + c ≤ TMAX → ∀ P : List D → Prop, da δ P → ∀ Q : List V → Hp → Prop,
  (∀ vs ds G' H', At L (t + c) H G G' H' → RepTL Γ L G' H' vs ds → P ds → Q vs H') → ta σ H Q
/-- what a return hands out: a stable value, or (own) a new list or dict that nobody else knows -/
def Ret (own : Bool) (B G H : Hp) (v : V) (d : D) : Prop := match own with
  | false => Rep Γ L G v d
  | true => ∃ p, v = .ref p ∧ B p = none ∧ OwnAt Γ L G H p d ∧ G p = none ∧ notL L p
structure EndsOf (T : Nat) (B G0 : Hp) (N : DN) (D : Ends) : Prop where
  nx : ∀ σ δ G H, At L T B G0 G H → Env Γ L B G H σ δ → N.nx δ → D.nx σ H
  rt : ∀ v d G H, At L T B G0 G H → Ret Γ L N.own B G H v d → N.rt d → D.rt v H
  bk : ∀ σ δ G H, At L T B G0 G H → Env Γ L B G H σ δ → N.bk δ → D.bk σ H
  ct : ∀ σ δ G H, At L T B G0 G H → Env Γ L B G H σ δ → N.ct δ → D.ct σ H
def SS (c : Nat) (ts : TS) (ds : DQ) : Prop := ∀ (t : Nat) (σ : L2.St) (δ : DS) (B G0 G H : Hp), At L t B G0 G H → Env Γ L B G H σ δ → t + c ≤ TMAX → ∀ N : DN, ds N δ → ∀ D : Ends, EndsOf Γ L (t + c) B G0 N D → ts D σ H
end
section
variable {Γ : Cn} {L : LS} {c c1 c2 c3 n : Nat} {te ta tb : TE} {de da db : DE} {tt tu : TT} {dt du : DT}
theorem RepTL.step {t : Nat} {G H G' H' : Hp} (a : At L t H G G' H') : ∀ {v : List V} {d : List D}, RepTL Γ L G H v d → RepTL Γ L G' H' v d
  | _, _, .nil => .nil
  | _, _, .cons h t => .cons (h.step a) (RepTL.step a t)
theorem Rep.t {G H : Hp} {v : V} {d : D} (h : Rep Γ L G v d) : RepT Γ L G H v d := .inl h
theorem RepL.t {G H : Hp} : ∀ {v : List V} {d : List D}, RepL Γ L G v d → RepTL Γ L G H v d
  | _, _, .nil => .nil
  | _, _, .cons h t => .cons h.t (RepL.t t)
/-- an owned thing becomes a stable one -/
theorem freeze {t : Nat} {B G0 G H : Hp} {p : Addr} {d : D} (a : At L t B G0 G H) (o : OwnAt Γ L G H p d) (hb : B p = none) (hg : G p = none) (hn : notL L p) : ∃ G', At L t B G0 G' H ∧ Ex G G' ∧ Rep Γ L G' (.ref p) d ∧ ∀ q, q ≠ p → G' q = G q := by
  have key : ∀ u, H p = some u → At L t B G0 (upd G p u) H := fun u hu => by
    refine ⟨a.gg.tr (Ex.new hg), fun x o' h => ?_, a.bh, fun x o' h => ?_, fun q g e => ?_⟩
    · by_cases z : x = p
      · subst z; rw [upd_same] at h; cases h; exact .inl hu
      · rw [upd_ne z] at h; exact a.gh x o' h
    · by_cases z : x = p
      · subst z; exact .inr hb
      · rw [upd_ne z] at h; exact a.nw x o' h
    · obtain ⟨h1, h2, h3, c1, gr, cs, lf, tn, k1, k2, k3, k4, k5, k6, k7⟩ := a.lw q g e
      obtain ⟨n1, n2⟩ := hn q g e
      exact ⟨by rw [upd_ne (Ne.symm n1)]; exact h1, by rw [upd_ne (Ne.symm n2)]; exact h2, h3, c1, gr, cs, lf, tn, k1, k2, k3, k4, k5, k6, by rw [upd_ne (ne_of_none k7 hg)]; exact k7⟩
  cases o with
  | lst h r z => exact ⟨_, key _ h, Ex.new hg, .lst upd_same (r.up (Ex.new hg)) z, fun q e => upd_ne e⟩
  | dct h r z => exact ⟨_, key _ h, Ex.new hg, .dct upd_same (r.up (Ex.new hg)) z, fun q e => upd_ne e⟩
theorem SE.t (h : SE Γ L c te de) : ST Γ L c te de := fun t σ δ B G H l x e hc P hp Q k => h t σ δ B G H l x e hc P hp Q fun v d G' H' a r q => k v d G' H' a (.inl r) q
theorem SF.e (h : SF Γ L c te de) : SE Γ L c te de := fun t σ δ B G H l x e hc P hp Q k => h t σ δ B G H l x e hc P hp Q fun p d G' H' a n o g q => by
  obtain ⟨G2, a2, ex, r, _⟩ := freeze a o n g (l.out n)
  exact k (.ref p) d G2 H' a2 r q
theorem SF.t (h : SF Γ L c te de) : ST Γ L c te de := fun t σ δ B G H l x e hc P hp Q k => h t σ δ B G H l x e hc P hp Q fun p d G' H' a n o g q => k (.ref p) d G' H' a (.inr ⟨p, rfl, o, l.out n⟩) q
theorem SA.t (h : SA Γ L n c tA dA) : SAT Γ L c tA dA := fun t σ δ B G H l x e hc P hp Q k => h t σ δ B G H l x e hc P hp Q fun v d G' H' a r _ q => k v d G' H' a r.t q
/-! ### names, constants -/
def rdS (δ : DS) (i : Nat) : Option D := match δ[i]? with
  | some (some (.sh d)) => some d
  | some (some (.ow d)) => some d
  | _ => none
def shS (δ : DS) (i : Nat) : Option D := match δ[i]? with
  | some (some (.sh d)) => some d
  | _ => none
def dVar (i : Nat) : DE := fun δ P => match rdS δ i with
  | some d => P d
  | none => False
def dVarS (i : Nat) : DE := fun δ P => match shS δ i with
  | some d => P d
  | none => False
def dC (d : D) : DE := fun _ P => P d
theorem rdS_some {δ : DS} {i : Nat} {d : D} (h : rdS δ i = some d) : δ[i]? = some (some (.sh d)) ∨ δ[i]? = some (some (.ow d)) := by
  unfold rdS at h
  split at h
  · cases h; exact .inl (by assumption)
  · cases h; exact .inr (by assumption)
  · cases h
theorem shS_some {δ : DS} {i : Nat} {d : D} (h : shS δ i = some d) : δ[i]? = some (some (.sh d)) := by
  unfold shS at h
  split at h
  · cases h; assumption
  · cases h
theorem s_var (i : Nat) : ST Γ L 0 (tVar i) (dVar i) := fun t σ δ B G H l x e hc P hp Q k => by
  unfold dVar at hp
  split at hp
  · rename_i d hd
    rcases rdS_some hd with h | h
    · obtain ⟨v, hv, r⟩ := e.sh i d h
      exact ⟨v, hv, k v d G H (At.start x l) (.inl r) hp⟩
    · obtain ⟨p, hv, o, _, _, hn⟩ := e.ow i d h
      exact ⟨.ref p, hv, k _ d G H (At.start x l) (.inr ⟨p, rfl, o, hn⟩) hp⟩
  · exact hp.elim
theorem s_varS (i : Nat) : SE Γ L 0 (tVar i) (dVarS i) := fun t σ δ B G H l x e hc P hp Q k => by
  unfold dVarS at hp
  split at hp
  · rename_i d hd
    obtain ⟨v, hv, r⟩ := e.sh i d (shS_some hd)
    exact ⟨v, hv, k v d G H (At.start x l) r hp⟩
  · exact hp.elim
theorem s_c {v : V} {d : D} (r : ∀ G, Rep Γ L G v d) : SE Γ L 0 (tC v) (dC d) := fun t σ δ B G H l x e hc P hp Q k => k v d G H (At.start x l) (r G) hp
/-! ### operators -/
def OpS (Γ : Cn) (L : LS) (r : R2) (f : D → D → Option D) : Prop := ∀ (t : Nat) (G H : Hp) (x y : V) (dx dy z : D), LawAt L t G H → Exf G H → RepT Γ L G H x dx → RepT Γ L G H y dy → f dx dy = some z → ∀ Q : VK,
  (∀ v G' H', At L t H G G' H' → Rep Γ L G' v z → Q v H') → r x y H Q
def dOp (f : D → D → Option D) (da db : DE) : DE := fun δ P => da δ fun x => db δ fun y => match f x y with
  | some z => P z
  | none => False
theorem s_op {r : R2} {f : D → D → Option D} (ho : OpS Γ L r f) (ha : ST Γ L c1 ta da) (hb : ST Γ L c2 tb db) : SE Γ L (c1 + c2) (tOp r ta tb) (dOp f da db) := fun t σ δ B G H l x e hc P hp Q k => by
  refine ha t σ δ B G H l x e (by omega) _ hp _ fun v d G1 H1 a1 r1 q1 => ?_
  refine hb (t + c1) σ δ B G1 H1 a1.lw a1.gh (e.step a1) (by omega) _ q1 _ fun w d2 G2 H2 a2 r2 q2 => ?_
  split at q2
  · rename_i z hz
    refine ho (t + c1 + c2) G2 H2 v w d d2 z a2.lw a2.gh (r1.step a2) r2 hz Q fun u G3 H3 a3 r3 => ?_
    have a := (a1.tr a2).tr a3
    exact k u z G3 H3 (by rw [← Nat.add_assoc]; exact a) r3 q2
  · exact q2.elim
def UnS (Γ : Cn) (L : LS) (r : V → Hp → VK → Prop) (f : D → Option D) : Prop := ∀ (t : Nat) (G H : Hp) (x : V) (dx z : D), LawAt L t G H → Exf G H → RepT Γ L G H x dx → f dx = some z → ∀ Q : VK,
  (∀ v G' H', At L t H G G' H' → Rep Γ L G' v z → Q v H') → r x H Q
def dUn (f : D → Option D) (da : DE) : DE := fun δ P => da δ fun x => match f x with
  | some z => P z
  | none => False
theorem s_un {r : V → Hp → VK → Prop} {f : D → Option D} (ho : UnS Γ L r f) (ha : ST Γ L c ta da) : SE Γ L c (tUn r ta) (dUn f da) := fun t σ δ B G H l x e hc P hp Q k => by
  refine ha t σ δ B G H l x e hc _ hp _ fun v d G1 H1 a1 r1 q1 => ?_
  split at q1
  · rename_i z hz
    exact ho (t + c) G1 H1 v d z a1.lw a1.gh r1 hz Q fun u G3 H3 a3 r3 => k u z G3 H3 (a1.tr a3) r3 q1
  · exact q1.elim
/-! ### tests -/
def dTest (de : DE) : DT := fun δ P => de δ fun d => match d with
  | .bl b => P b
  | _ => False
theorem bl_of {G H : Hp} {v : V} {b : Bool} (h : RepT Γ L G H v (.bl b)) : v = .bl b := by
  rcases h with h | ⟨p, rfl, h, _⟩
  · cases h; rfl
  · cases h
theorem s_test (h : ST Γ L c te de) : SB Γ L c (tTest te) (dTest de) := fun t σ δ B G H l x e hc P hp Q k => by
  refine h t σ δ B G H l x e hc _ hp _ fun v d G1 H1 a1 r1 q1 => ?_
  cases d with
  | bl b => exact ⟨b, bl_of r1, k b G1 H1 a1 q1⟩
  | _ => exact q1.elim
def dAnd (t u : DT) : DT := fun δ P => t δ fun b => if b = true then u δ P else P false
def dOr (t u : DT) : DT := fun δ P => t δ fun b => if b = true then P true else u δ P
def dNot (t : DT) : DT := fun δ P => t δ fun b => P (!b)
theorem s_and (h1 : SB Γ L c1 tt dt) (h2 : SB Γ L c2 tu du) : SB Γ L (c1 + c2) (tAnd tt tu) (dAnd dt du) := fun t σ δ B G H l x e hc P hp Q k => by
  refine h1 t σ δ B G H l x e (by omega) _ hp _ fun b G1 H1 a1 q1 => ?_
  cases b with
  | true => exact h2 (t + c1) σ δ B G1 H1 a1.lw a1.gh (e.step a1) (by omega) P q1 Q fun b2 G2 H2 a2 q2 => k b2 G2 H2 (by rw [← Nat.add_assoc]; exact a1.tr a2) q2
  | false => exact k false G1 H1 (a1.le (by omega)) q1
theorem s_or (h1 : SB Γ L c1 tt dt) (h2 : SB Γ L c2 tu du) : SB Γ L (c1 + c2) (tOr tt tu) (dOr dt du) := fun t σ δ B G H l x e hc P hp Q k => by
  refine h1 t σ δ B G H l x e (by omega) _ hp _ fun b G1 H1 a1 q1 => ?_
  cases b with
  | false => exact h2 (t + c1) σ δ B G1 H1 a1.lw a1.gh (e.step a1) (by omega) P q1 Q fun b2 G2 H2 a2 q2 => k b2 G2 H2 (by rw [← Nat.add_assoc]; exact a1.tr a2) q2
  | true => exact k true G1 H1 (a1.le (by omega)) q1
theorem s_not (h1 : SB Γ L c tt dt) : SB Γ L c (tNot tt) (dNot dt) := fun t σ δ B G H l x e hc P hp Q k => h1 t σ δ B G H l x e hc _ hp _ fun b G1 H1 a1 q1 => k (!b) G1 H1 a1 q1
def dAndV (a b : DE) : DE := fun δ P => a δ fun d => match d with
  | .bl x => if x = true then b δ P else P (.bl false)
  | _ => False
def dOrV (a b : DE) : DE := fun δ P => a δ fun d => match d with
  | .bl x => if x = true then P (.bl true) else b δ P
  | _ => False
def dNotV (a : DE) : DE := fun δ P => a δ fun d => match d with
  | .bl x => P (.bl (!x))
  | _ => False
theorem s_andV (ha : ST Γ L c1 ta da) (hb : SE Γ L c2 tb db) : SE Γ L (c1 + c2) (tAndV ta tb) (dAndV da db) := fun t σ δ B G H l x e hc P hp Q k => by
  refine ha t σ δ B G H l x e (by omega) _ hp _ fun v d G1 H1 a1 r1 q1 => ?_
  cases d with
  | bl b =>
    refine ⟨b, bl_of r1, ?_⟩
    cases b with
    | true => exact hb (t + c1) σ δ B G1 H1 a1.lw a1.gh (e.step a1) (by omega) P q1 Q fun v2 d2 G2 H2 a2 r2 q2 => k v2 d2 G2 H2 (by rw [← Nat.add_assoc]; exact a1.tr a2) r2 q2
    | false => exact k _ _ G1 H1 (a1.le (by omega)) (.bl false) q1
  | _ => exact q1.elim
theorem s_orV (ha : ST Γ L c1 ta da) (hb : SE Γ L c2 tb db) : SE Γ L (c1 + c2) (tOrV ta tb) (dOrV da db) := fun t σ δ B G H l x e hc P hp Q k => by
  refine ha t σ δ B G H l x e (by omega) _ hp _ fun v d G1 H1 a1 r1 q1 => ?_
  cases d with
  | bl b =>
    refine ⟨b, bl_of r1, ?_⟩
    cases b with
    | false => exact hb (t + c1) σ δ B G1 H1 a1.lw a1.gh (e.step a1) (by omega) P q1 Q fun v2 d2 G2 H2 a2 r2 q2 => k v2 d2 G2 H2 (by rw [← Nat.add_assoc]; exact a1.tr a2) r2 q2
    | true => exact k _ _ G1 H1 (a1.le (by omega)) (.bl true) q1
  | _ => exact q1.elim
theorem s_notV (ha : ST Γ L c ta da) : SE Γ L c (tNotV ta) (dNotV da) := fun t σ δ B G H l x e hc P hp Q k => by
  refine ha t σ δ B G H l x e (by omega) _ hp _ fun v d G1 H1 a1 r1 q1 => ?_
  cases d with
  | bl b => exact ⟨b, bl_of r1, k _ _ G1 H1 a1 (.bl _) q1⟩
  | _ => exact q1.elim
def dIf (t : DT) (a b : DE) : DE := fun δ P => t δ fun x => if x = true then a δ P else b δ P
theorem s_if' (h : SB Γ L c1 tt dt) (ha : SE Γ L c2 ta da) (hb : SE Γ L c3 tb db) : SE Γ L (c1 + (c2 + c3)) (tIf tt ta tb) (dIf dt da db) := fun t σ δ B G H l x e hc P hp Q k => by
  refine h t σ δ B G H l x e (by omega) _ hp _ fun b G1 H1 a1 q1 => ?_
  cases b with
  | true => exact ha (t + c1) σ δ B G1 H1 a1.lw a1.gh (e.step a1) (by omega) P q1 Q fun v d G2 H2 a2 r2 q2 => k v d G2 H2 ((a1.tr a2).le (by omega)) r2 q2
  | false => exact hb (t + c1) σ δ B G1 H1 a1.lw a1.gh (e.step a1) (by omega) P q1 Q fun v d G2 H2 a2 r2 q2 => k v d G2 H2 ((a1.tr a2).le (by omega)) r2 q2
/-! ### arguments, displays -/
def dNil : DA := fun _ P => P []
def dCons (a : DE) (r : DA) : DA := fun δ P => a δ fun x => r δ fun xs => P (x :: xs)
variable {tA : TA} {dA : DA}
theorem s_nil : SA Γ L 0 0 tNil dNil := fun t σ δ B G H l x e hc P hp Q k => k [] [] G H (At.start x l) .nil rfl hp
theorem s_cons (ha : SE Γ L c1 ta da) (hr : SA Γ L n c2 tA dA) : SA Γ L (n + 1) (c1 + c2) (tCons ta tA) (dCons da dA) := fun t σ δ B G H l x e hc P hp Q k => by
  refine ha t σ δ B G H l x e (by omega) _ hp _ fun v d G1 H1 a1 r1 q1 => ?_
  exact hr (t + c1) σ δ B G1 H1 a1.lw a1.gh (e.step a1) (by omega) _ q1 _ fun vs ds G2 H2 a2 r2 hl q2 => k (v :: vs) (d :: ds) G2 H2 (by rw [← Nat.add_assoc]; exact a1.tr a2) (.cons (r1.up a2.gg) r2) (by rw [List.length_cons, hl]) q2
theorem s_nilT : SAT Γ L 0 tNil dNil := fun t σ δ B G H l x e hc P hp Q k => k [] [] G H (At.start x l) .nil hp
theorem s_consT (ha : ST Γ L c1 ta da) (hr : SAT Γ L c2 tA dA) : SAT Γ L (c1 + c2) (tCons ta tA) (dCons da dA) := fun t σ δ B G H l x e hc P hp Q k => by
  refine ha t σ δ B G H l x e (by omega) _ hp _ fun v d G1 H1 a1 r1 q1 => ?_
  exact hr (t + c1) σ δ B G1 H1 a1.lw a1.gh (e.step a1) (by omega) _ q1 _ fun vs ds G2 H2 a2 r2 q2 => k (v :: vs) (d :: ds) G2 H2 (by rw [← Nat.add_assoc]; exact a1.tr a2) (.cons (r1.step a2) r2) q2
theorem lim_size {n : Nat} (h : n ≤ LIM) : n ≤ sizeLine := Nat.le_trans h (by rw [sizeLine_eq]; decide)
def dTup (a : DA) : DE := fun δ P => a δ fun ds => P (.tup ds)
def dLst (a : DA) : DE := fun δ P => a δ fun ds => P (.lst ds)
theorem s_tup (h : SA Γ L n c tA dA) (hn : n ≤ LIM := by decide) : SE Γ L c (tTup tA) (dTup dA) := fun t σ δ B G H l x e hc P hp Q k => by
  refine h t σ δ B G H l x e hc _ hp _ fun vs ds G1 H1 a1 r1 hl q1 => ⟨lim_size (by rw [r1.len, hl]; exact hn), fun p np => ?_⟩
  have a2 := At.new (o := .tup vs) a1.gh a1.lw np
  exact k _ _ _ _ (a1.tr a2) (.tup (.inl upd_same) (r1.up a2.gg) (by rw [hl]; exact hn)) q1
theorem s_lst (h : SA Γ L n c tA dA) (hn : n ≤ LIM := by decide) : SF Γ L c (tLst tA) (dLst dA) := fun t σ δ B G H l x e hc P hp Q k => by
  refine h t σ δ B G H l x e hc _ hp _ fun vs ds G1 H1 a1 r1 hl q1 => ⟨lim_size (by rw [r1.len, hl]; exact hn), fun p np => ?_⟩
  have a2 := At.newH (o := .lst vs) a1.gh a1.lw np
  have np0 : H p = none := by
    cases z : H p with
    | none => rfl
    | some o => rw [a1.bh p o z (a1.lw.out np)] at np; cases np
  exact k p _ _ _ (a1.tr a2) np0 (.lst upd_same r1 (by rw [hl]; exact hn)) (a1.gh.none np) q1
def dNewD : DE := fun _ P => P (.dct [])
theorem s_newD : SF Γ L 0 tDNewK dNewD := fun t σ δ B G H l x e hc P hp Q k => fun p np =>
  k p _ _ _ (At.newH x l np) np (.dct upd_same .nil (by decide)) (x.none np) hp
/-! ### built-in calls -/
def CallS (Γ : Cn) (L : LS) (r : List V → Hp → VK → Prop) (f : List D → Option D) : Prop := ∀ (t : Nat) (G H : Hp) (xs : List V) (ds : List D) (z : D), LawAt L t G H → Exf G H → RepTL Γ L G H xs ds → f ds = some z → ∀ Q : VK,
  (∀ v G' H', At L t H G G' H' → Rep Γ L G' v z → Q v H') → r xs H Q
def dCB (f : List D → Option D) (a : DA) : DE := fun δ P => a δ fun ds => match f ds with
  | some z => P z
  | none => False
theorem s_cb {r : List V → Hp → VK → Prop} {f : List D → Option D} (ho : CallS Γ L r f) (ha : SAT Γ L c tA dA) : SE Γ L c (tCB r tA) (dCB f dA) := fun t σ δ B G H l x e hc P hp Q k => by
  refine ha t σ δ B G H l x e hc _ hp _ fun vs ds G1 H1 a1 r1 q1 => ?_
  split at q1
  · rename_i z hz
    exact ho (t + c) G1 H1 vs ds z a1.lw a1.gh r1 hz Q fun u G3 H3 a3 r3 => k u z G3 H3 (a1.tr a3) r3 q1
  · exact q1.elim
/-- .. that make a new list or dict -/
def CallF (Γ : Cn) (L : LS) (r : List V → Hp → VK → Prop) (f : List D → Option D) : Prop := ∀ (t : Nat) (G H : Hp) (xs : List V) (ds : List D) (z : D), LawAt L t G H → Exf G H → RepTL Γ L G H xs ds → f ds = some z → ∀ Q : VK,
  (∀ p G' H', At L t H G G' H' → H p = none → OwnAt Γ L G' H' p z → G' p = none → Q (.ref p) H') → r xs H Q
theorem s_cbF {r : List V → Hp → VK → Prop} {f : List D → Option D} (ho : CallF Γ L r f) (ha : SAT Γ L c tA dA) : SF Γ L c (tCB r tA) (dCB f dA) := fun t σ δ B G H l x e hc P hp Q k => by
  refine ha t σ δ B G H l x e hc _ hp _ fun vs ds G1 H1 a1 r1 q1 => ?_
  split at q1
  · rename_i z hz
    refine ho (t + c) G1 H1 vs ds z a1.lw a1.gh r1 hz Q fun p G3 H3 a3 np o g => k p z G3 H3 (a1.tr a3) ?_ o g q1
    cases z : H p with
    | none => rfl
    | some o => rw [a1.bh p o z (a1.lw.out np)] at np; cases np
  · exact q1.elim
/-! ### calls of defs -/
/-- a def's promise over data: with these arguments each result fulfils P -/
abbrev DSp := List D → (D → Prop) → Prop
def lift (Γ : Cn) (n c : Nat) (s : DSp) : Sp := fun vs H Q _ => vs.length = n ∧ ∃ (L : LS) (t : Nat) (ds : List D) (G : Hp) (P : D → Prop), LawAt L t G H ∧ t + c ≤ TMAX ∧ Exf G H ∧ RepL Γ L G vs ds ∧ s ds P ∧
  ∀ r, P r → ∀ v G' H', At L (t + c) H G G' H' → Rep Γ L G' v r → Q v H'
def dFn (s : DSp) (a : DA) : DE := fun δ P => a δ fun ds => s ds P
theorem s_fn {s : DSp} {cf : Nat} {E : XK} (ha : SA Γ L n c tA dA) : SE Γ L (c + cf) (tFn (lift Γ n cf s) E tA) (dFn s dA) := fun t σ δ B G H l x e hc P hp Q k => by
  refine ha t σ δ B G H l x e (by omega) _ hp _ fun vs ds G1 H1 a1 r1 hl q1 => ⟨by rw [r1.len, hl], L, t + c, ds, G1, P, a1.lw, by omega, a1.gh, r1, q1, fun r hr v G2 H2 a2 r2 => ?_⟩
  exact k v r G2 H2 (by rw [← Nat.add_assoc]; exact a1.tr a2) r2 hr
end
end GP

set_option Elab.async false
set_option linter.all false
set_option maxRecDepth 100000
set_option maxHeartbeats 4000000
/-! G4: statements over data: assignments, if, loops, comprehensions. -/
namespace GP
open PySem PySem.Spec PyProof.Rows L2
section
variable {Γ : Cn} {L : LS} {c c1 c2 c3 n : Nat} {te ta tb : TE} {de da db : DE} {tt tu : TT} {dt du : DT} {ts tv : TS} {ds dv : DQ}
theorem At.env {t u : Nat} {B G0 G H G' H' : Hp} {σ : L2.St} {δ : DS} (a : At L t B G0 G H) (e : Env Γ L B G H σ δ) (b : At L u H G G' H') : At L u B G0 G' H' ∧ Env Γ L B G' H' σ δ := ⟨a.tr b, e.step b⟩
theorem EndsOf.le {T T' : Nat} {B G0 : Hp} {N : DN} {D : Ends} (h : EndsOf Γ L T B G0 N D) (l : T' ≤ T) : EndsOf Γ L T' B G0 N D :=
  ⟨fun σ δ G H a => h.nx σ δ G H (a.le l), fun v d G H a => h.rt v d G H (a.le l), fun σ δ G H a => h.bk σ δ G H (a.le l), fun σ δ G H a => h.ct σ δ G H (a.le l)⟩
/-- what was not there at a later point was not there ahead of it -/
theorem At.old {t : Nat} {B G0 G H : Hp} {p : Addr} (a : At L t B G0 G H) (n : H p = none) : B p = none := by
  cases z : B p with
  | none => rfl
  | some o => rw [a.bh p o z (a.lw.out n)] at n; cases n
def dNext : DQ := fun N δ => N.nx δ
def dSeq (a b : DQ) : DQ := fun N δ => a { N with nx := b N } δ
theorem s_next : SS Γ L 0 tNext dNext := fun t σ δ B G0 G H a e hc N h D E => E.nx σ δ G H a e h
theorem s_seq (h1 : SS Γ L c1 ts ds) (h2 : SS Γ L c2 tv dv) : SS Γ L (c1 + c2) (tSeq ts tv) (dSeq ds dv) := fun t σ δ B G0 G H a e hc N h D E => by
  refine h1 t σ δ B G0 G H a e (by omega) _ h _ ⟨fun σ1 δ1 G1 H1 a1 e1 q => ?_, fun v d G1 H1 a1 => E.rt v d G1 H1 (a1.le (by omega)), fun σ1 δ1 G1 H1 a1 => E.bk σ1 δ1 G1 H1 (a1.le (by omega)), fun σ1 δ1 G1 H1 a1 => E.ct σ1 δ1 G1 H1 (a1.le (by omega))⟩
  exact h2 (t + c1) σ1 δ1 B G0 G1 H1 a1 e1 (by omega) N q D (by rw [Nat.add_assoc]; exact E)
def dAsg (d : DE) (i : Nat) : DQ := fun N δ => d δ fun x => N.nx (δ.set i (some (.sh x)))
def dAsgO (d : DE) (i : Nat) : DQ := fun N δ => d δ fun x => N.nx (δ.set i (some (.ow x)))
theorem s_asg (i : Nat) (h : SE Γ L c te de) : SS Γ L c (tAsg te (gName i)) (dAsg de i) := fun t σ δ B G0 G H a e hc N hp D E =>
  h t σ δ B G H a.lw a.gh e hc _ hp _ fun v d G1 H1 a1 r1 q => E.nx _ _ G1 H1 (a.tr a1) ((e.step a1).set i r1) q
theorem Env.fresh {B G H : Hp} {σ : L2.St} {δ : DS} {p : Addr} (e : Env Γ L B G H σ δ) (n : H p = none) (j : Nat) (x : D) (h : δ[j]? = some (some (.ow x))) : σ[j]? ≠ some (some (.ref p)) := fun z => by
  obtain ⟨q, hq, o, _⟩ := e.ow j x h
  rw [z] at hq
  cases hq
  obtain ⟨u, hu⟩ := o.there
  rw [n] at hu; cases hu
theorem s_asgO (i : Nat) (h : SF Γ L c te de) : SS Γ L c (tAsg te (gName i)) (dAsgO de i) := fun t σ δ B G0 G H a e hc N hp D E =>
  h t σ δ B G H a.lw a.gh e hc _ hp _ fun p d G1 H1 a1 np o g q => E.nx _ _ G1 H1 (a.tr a1) ((e.step a1).own i o (a.old np) g (a.lw.out np) fun j x hj hx => e.fresh np j x hx) q
def dDrop (d : DE) : DQ := fun N δ => d δ fun _ => N.nx δ
theorem s_drop (h : ST Γ L c te de) : SS Γ L c (tDrop te) (dDrop de) := fun t σ δ B G0 G H a e hc N hp D E =>
  h t σ δ B G H a.lw a.gh e hc _ hp _ fun v d G1 H1 a1 r1 q => E.nx _ _ G1 H1 (a.tr a1) (e.step a1) q
def dRet (d : DE) : DQ := fun N δ => N.own = false ∧ d δ N.rt
theorem Rep.ret {N : DN} {B G H : Hp} {v : V} {d : D} (ho : N.own = false) (r : Rep Γ L G v d) : Ret Γ L N.own B G H v d := by
  rw [ho]
  exact r
theorem s_ret (h : SE Γ L c te de) : SS Γ L c (tRet te) (dRet de) := fun t σ δ B G0 G H a e hc N hp D E =>
  h t σ δ B G H a.lw a.gh e hc _ hp.2 _ fun v d G1 H1 a1 r1 q => E.rt v d G1 H1 (a.tr a1) (r1.ret hp.1) q
def dRetN : DQ := fun N _ => N.own = false ∧ N.rt .non
theorem s_retN : SS Γ L 0 tRetN dRetN := fun t σ δ B G0 G H a e hc N hp D E => E.rt .non .non G H a (Rep.non.ret hp.1) hp.2
/-- return of a new list or dict -/
def dRetF (d : DE) : DQ := fun N δ => d δ N.rt
theorem s_retF (h : SF Γ L c te de) : SS Γ L c (tRet te) (dRetF de) := fun t σ δ B G0 G H a e hc N hp D E => by
  refine h t σ δ B G H a.lw a.gh e hc _ hp _ fun p d G1 H1 a1 n o g q => ?_
  have hn := a.lw.out n
  cases ho : N.own with
  | true => exact E.rt _ d G1 H1 (a.tr a1) (by rw [ho]; exact ⟨p, rfl, a.old n, o, g, hn⟩) q
  | false =>
    obtain ⟨G2, a2, ex, r, _⟩ := freeze (a.tr a1) o (a.old n) g hn
    exact E.rt _ d G2 H1 a2 (r.ret ho) q
/-- return of a name that may be owned -/
def dRetV (i : Nat) : DQ := fun N δ => match δ[i]? with
  | some (some (.ow d)) => N.rt d
  | some (some (.sh d)) => N.own = false ∧ N.rt d
  | _ => False
theorem s_retV (i : Nat) : SS Γ L 0 (tRet (tVar i)) (dRetV i) := fun t σ δ B G0 G H a e hc N hp D E => by
  unfold dRetV at hp
  split at hp
  · rename_i d h
    obtain ⟨p, hv, o, hb, hg, hn⟩ := e.ow i d h
    cases ho : N.own with
    | true => exact ⟨.ref p, hv, E.rt _ d G H a (by rw [ho]; exact ⟨p, rfl, hb, o, hg, hn⟩) hp⟩
    | false =>
      obtain ⟨G2, a2, ex, r, _⟩ := freeze a o hb hg hn
      exact ⟨.ref p, hv, E.rt _ d G2 H a2 (r.ret ho) hp⟩
  · rename_i d h
    obtain ⟨v, hv, r⟩ := e.sh i d h
    exact ⟨v, hv, E.rt v d G H a (r.ret hp.1) hp.2⟩
  · exact hp.elim
def dIfS (t : DT) (a b : DQ) : DQ := fun N δ => t δ fun x => if x = true then a N δ else b N δ
theorem s_if (h : SB Γ L c1 tt dt) (h1 : SS Γ L c2 ts ds) (h2 : SS Γ L c3 tv dv) : SS Γ L (c1 + (c2 + c3)) (tIfS tt ts tv) (dIfS dt ds dv) := fun t σ δ B G0 G H a e hc N hp D E => by
  refine h t σ δ B G H a.lw a.gh e (by omega) _ hp _ fun b G1 H1 a1 q => ?_
  cases b with
  | true => exact h1 (t + c1) σ δ B G0 G1 H1 (a.tr a1) (e.step a1) (by omega) N q D (E.le (by omega))
  | false => exact h2 (t + c1) σ δ B G0 G1 H1 (a.tr a1) (e.step a1) (by omega) N q D (E.le (by omega))
theorem s_never : SS Γ L 0 tNever (fun _ _ => False) := fun t σ δ B G0 G H a e hc N hp D E => hp.elim
/-- a ghost step: what a slot owns becomes stable -/
def frz (δ : DS) (i : Nat) : DS := match δ[i]? with
  | some (some (.ow d)) => δ.set i (some (.sh d))
  | _ => δ
theorem Env.frz {t : Nat} {B G0 G H : Hp} {σ : L2.St} {δ : DS} (a : At L t B G0 G H) (e : Env Γ L B G H σ δ) (i : Nat) : ∃ G', At L t B G0 G' H ∧ Env Γ L B G' H σ (frz δ i) := by
  unfold GP.frz
  split
  · rename_i d hd
    obtain ⟨p, hv, o, hb, hg, hn⟩ := e.ow i d hd
    obtain ⟨G2, a2, ex, r, ot⟩ := freeze a o hb hg hn
    refine ⟨G2, a2, fun j x h => ?_, fun j x h => ?_, fun j k x y q hjk h1 h2 h3 h4 => ?_, by rw [List.length_set]; exact e.len⟩
    · by_cases z : i = j
      · subst z
        rw [List.getElem?_set] at h
        by_cases l : i < δ.length
        · simp [l] at h; subst h; exact ⟨_, hv, r⟩
        · simp [l] at h
      · rw [List.getElem?_set_ne z] at h
        obtain ⟨v, h1, h2⟩ := e.sh j x h
        exact ⟨v, h1, h2.up ex⟩
    · by_cases z : i = j
      · subst z
        rw [List.getElem?_set] at h
        by_cases l : i < δ.length <;> simp [l] at h
      · rw [List.getElem?_set_ne z] at h
        obtain ⟨q, h1, h2, h3, h4, h5⟩ := e.ow j x h
        have npq : q ≠ p := fun y => by subst y; exact e.dj i j d x q z hd h hv h1
        refine ⟨q, h1, ?_, h3, by rw [ot q npq]; exact h4, h5⟩
        cases h2 with
        | lst u r z => exact .lst u (r.up ex) z
        | dct u r z => exact .dct u (r.up ex) z
    · have zj : i ≠ j := fun z => by
        subst z
        rw [List.getElem?_set] at h1
        by_cases l : i < δ.length <;> simp [l] at h1
      have zk : i ≠ k := fun z => by
        subst z
        rw [List.getElem?_set] at h2
        by_cases l : i < δ.length <;> simp [l] at h2
      rw [List.getElem?_set_ne zj] at h1
      rw [List.getElem?_set_ne zk] at h2
      exact e.dj j k x y q hjk h1 h2 h3 h4
  · exact ⟨G, a, e⟩
def dFrz (i : Nat) (d : DQ) : DQ := fun N δ => d N (frz δ i)
theorem s_frz (i : Nat) (h : SS Γ L c ts ds) : SS Γ L c ts (dFrz i ds) := fun t σ δ B G0 G H a e hc N hp D E => by
  obtain ⟨G2, a2, e2⟩ := Env.frz a e i
  exact h t σ (frz δ i) B G0 G2 H a2 e2 hc N hp D E
/-! ### a list that a slot owns grows -/
theorem Env.write {B G H : Hp} {σ : L2.St} {δ : DS} {p : Addr} {d d' : D} {o : HO} {i : Nat} (e : Env Γ L B G H σ δ) (h : δ[i]? = some (some (.ow d))) (hv : σ[i]? = some (some (.ref p))) (w : OwnAt Γ L G (upd H p o) p d') : Env Γ L B G (upd H p o) σ (δ.set i (some (.ow d'))) := by
  obtain ⟨q, hq, ho, hb, hg, hn⟩ := e.ow i d h
  rw [hv] at hq; cases hq
  refine ⟨fun j x h' => ?_, fun j x h' => ?_, fun j k x y q hjk h1 h2 h3 h4 => ?_, by rw [List.length_set]; exact e.len⟩
  · by_cases z : i = j
    · subst z
      rw [List.getElem?_set] at h'
      by_cases l : i < δ.length <;> simp [l] at h'
    · rw [List.getElem?_set_ne z] at h'; exact e.sh j x h'
  · by_cases z : i = j
    · subst z
      rw [List.getElem?_set] at h'
      by_cases l : i < δ.length
      · simp [l] at h'; subst h'; exact ⟨p, hv, w, hb, hg, hn⟩
      · simp [l] at h'
    · rw [List.getElem?_set_ne z] at h'
      obtain ⟨q, h1, h2, h3, h4, h5⟩ := e.ow j x h'
      have npq : q ≠ p := fun y => by subst y; exact e.dj i j d x q z h h' hv h1
      refine ⟨q, h1, ?_, h3, h4, h5⟩
      cases h2 with
      | lst u r z => exact .lst (by rw [upd_ne npq]; exact u) r z
      | dct u r z => exact .dct (by rw [upd_ne npq]; exact u) r z
  · have f : ∀ (m : Nat) (w : D), (δ.set i (some (.ow d')))[m]? = some (some (.ow w)) → ∃ w', δ[m]? = some (some (.ow w')) := fun m w hm => by
      by_cases z : i = m
      · subst z; exact ⟨d, h⟩
      · rw [List.getElem?_set_ne z] at hm; exact ⟨w, hm⟩
    obtain ⟨x', h1'⟩ := f j x h1
    obtain ⟨y', h2'⟩ := f k y h2
    exact e.dj j k x' y' q hjk h1' h2' h3 h4
theorem At.write {t : Nat} {B G0 G H : Hp} {p : Addr} {o : HO} (a : At L t B G0 G H) (hb : B p = none) (hg : G p = none) (hn : notL L p) : At L t B G0 G (upd H p o) := by
  refine ⟨a.gg, fun x u h => ?_, fun x u h n => ?_, a.nw, fun q g e => ?_⟩
  · rw [upd_ne (fun z => by subst z; rw [hg] at h; cases h)]; exact a.gh x u h
  · rw [upd_ne (ne_of_none h hb)]; exact a.bh x u h n
  · obtain ⟨h1, h2, h3, c1, gr, cs, lf, tn, k1, k2, k3, k4, k5, k6, k7⟩ := a.lw q g e
    obtain ⟨n1, n2⟩ := hn q g e
    exact ⟨h1, h2, h3, c1, gr, cs, lf, tn, by rw [upd_ne (Ne.symm n1)]; exact k1, by rw [upd_ne (Ne.symm n2)]; exact k2, k3, k4, k5, k6, k7⟩
def dApp (i : Nat) (d : DE) : DQ := fun N δ => match δ[i]? with
  | some (some (.ow (.lst xs))) => d δ fun x => xs.length < LIM ∧ N.nx (δ.set i (some (.ow (.lst (xs ++ [x])))))
  | _ => False
theorem s_app (i : Nat) (h : SE Γ L c te de) : SS Γ L c (tDrop (tBM Γ.K "list" rAppend (tVar i) (tCons te tNil))) (dApp i de) := fun t σ δ B G0 G H a e hc N hp D E => by
  unfold dApp at hp
  split at hp
  · rename_i xs hs
    obtain ⟨p, hv, o, hb, hg, hn⟩ := e.ow i _ hs
    refine ⟨.ref p, hv, ?_⟩
    cases o with
    | lst hl r z =>
      rename_i ys
      refine ⟨.inl ⟨rfl, _, SqL.of hl⟩, h t σ δ B G H a.lw a.gh e hc _ hp _ fun v d G1 H1 a1 r1 q => ?_⟩
      obtain ⟨q1, q2⟩ := q
      have e1 := e.step a1
      obtain ⟨p1, hv1, o1, _, hg1, _⟩ := e1.ow i _ hs
      rw [hv] at hv1; cases hv1
      refine ⟨p, ys, v, rfl, rfl, a1.bh p _ hl hn, ?_, ?_⟩
      · have hlen := r.len
        have : ys.length < LIM := by omega
        exact Nat.lt_of_lt_of_le this (lim_size (Nat.le_refl _))
      · refine E.nx _ _ G1 _ ((a.tr a1).write hb hg1 hn) (e1.write hs hv (.lst upd_same ((r.up a1.gg).app (.cons r1 .nil)) ?_)) q2
        rw [List.length_append]; show xs.length + 1 ≤ LIM; omega
  · exact hp.elim
/-! ### what is walked -/
/-- the iterator goes through the items, while what is stable stays (kp: and all else that stood) -/
structure ItsOf (Γ : Cn) (L : LS) (kp : Addr → Prop) (J : It) (items : List D) (G1 H1 : Hp) : Prop where
  lim : items.length ≤ LIM
  go : ∀ (i : Nat) (G H : Hp), i < items.length → Ex G1 G → Exf G H → (∀ a o, kp a → H1 a = some o → notL L a → H a = some o) → J.go i H
  st : ∀ (G H : Hp), Ex G1 G → Exf G H → (∀ a o, kp a → H1 a = some o → notL L a → H a = some o) → J.stop items.length H
  yl : ∀ (t i : Nat) (x : V) (d : D) (G H H' : Hp), items[i]? = some d → LawAt L t G H → Ex G1 G → Exf G H → (∀ a o, kp a → H1 a = some o → notL L a → H a = some o) → J.yld i H x H' → ∃ G', At L t H G G' H' ∧ Rep Γ L G' x d
abbrev DI := DS → (List D → Prop) → Prop
def SI (Γ : Cn) (L : LS) (kp : Addr → Prop) (c : Nat) (wi : TI) (di : DI) : Prop := ∀ (t : Nat) (σ : L2.St) (δ : DS) (B G H : Hp), LawAt L t G H → Exf G H → Env Γ L B G H σ δ → t + c ≤ TMAX → ∀ P : List D → Prop, di δ P → ∀ R : It → Hp → Prop,
  (∀ J items G' H', At L (t + c) H G G' H' → ItsOf Γ L kp J items G' H' → P items → R J H') → wi σ H R
def SG (Γ : Cn) (L : LS) (g : TG) (dg : DG) (sl : List Nat) : Prop := ∀ (t : Nat) (σ : L2.St) (δ : DS) (B G H : Hp) (x : V) (d : D), LawAt L t G H → Exf G H → Env Γ L B G H σ δ → Rep Γ L G x d → ∀ P : DS → Prop, dg d δ P → ∀ Q : L2.St → Hp → Prop,
  (∀ σ' δ', Env Γ L B G H σ' δ' → (∀ vs, (∀ i ∈ sl, i ∈ vs) → wipe σ' vs = wipe σ vs) → P δ' → Q σ' H) → g x σ H Q
theorem wipe_set {σ : L2.St} {v : Option V} {i : Nat} : ∀ {vs : List Nat}, i ∈ vs → wipe (σ.set i v) vs = wipe σ vs
  | j :: vs, h => by
    unfold wipe
    by_cases z : i = j
    · subst z
      by_cases m : i ∈ vs
      · rw [wipe_set m]
      · have e : wipe (σ.set i v) vs = (wipe σ vs).set i v := by
          clear h
          induction vs with
          | nil => rfl
          | cons k vs ih =>
            have n1 : i ≠ k := fun y => m (by rw [y]; exact List.mem_cons_self)
            have n2 : i ∉ vs := fun y => m (List.mem_cons_of_mem _ y)
            show (wipe (σ.set i v) vs).set k none = ((wipe σ vs).set k none).set i v
            rw [ih n2, List.set_comm _ _ n1]
        rw [e, List.set_set]
    · rw [wipe_set ((List.mem_cons.mp h).resolve_left z)]
def dName (i : Nat) : DG := fun d δ P => P (δ.set i (some (.sh d)))
theorem s_name (i : Nat) : SG Γ L (gName i) (dName i) [i] := fun t σ δ B G H x d l ex e r P hp Q k => k _ _ (e.set i r) (fun vs h => wipe_set (h i (List.mem_singleton.mpr rfl))) hp
/-- a, b = .. of a pair -/
def dTup2 (i j : Nat) : DG := fun d δ P => match d with
  | .tup [x, y] => P ((δ.set i (some (.sh x))).set j (some (.sh y)))
  | _ => False
theorem s_tup2 (i j : Nat) : SG Γ L (gTup Γ.K 2 (gCons (gName i) (gCons (gName j) gNil))) (dTup2 i j) [i, j] := fun t σ δ B G H x d l ex e r P hp Q k => by
  unfold dTup2 at hp
  split at hp
  · rename_i u w
    cases r with
    | tup h rl z =>
      cases rl with
      | cons r1 rl => cases rl with
        | cons r2 rl =>
          cases rl
          refine ⟨_, _, rfl, (ex.tp h).sq, rfl, _, _, rfl, _, _, rfl, rfl, ?_⟩
          refine k _ _ ((e.set i r1).set j r2) (fun vs hv => ?_) hp
          rw [wipe_set (hv j (by simp)), wipe_set (hv i (by simp))]
  · exact hp.elim
def dTup3 (i j m : Nat) : DG := fun d δ P => match d with
  | .tup [x, y, z] => P (((δ.set i (some (.sh x))).set j (some (.sh y))).set m (some (.sh z)))
  | _ => False
theorem s_tup3 (i j m : Nat) : SG Γ L (gTup Γ.K 3 (gCons (gName i) (gCons (gName j) (gCons (gName m) gNil)))) (dTup3 i j m) [i, j, m] := fun t σ δ B G H x d l ex e r P hp Q k => by
  unfold dTup3 at hp
  split at hp
  · rename_i u w q
    cases r with
    | tup h rl z =>
      cases rl with
      | cons r1 rl => cases rl with
        | cons r2 rl => cases rl with
          | cons r3 rl =>
            cases rl
            refine ⟨_, _, rfl, (ex.tp h).sq, rfl, _, _, rfl, _, _, rfl, _, _, rfl, rfl, ?_⟩
            refine k _ _ (((e.set i r1).set j r2).set m r3) (fun vs hv => ?_) hp
            rw [wipe_set (hv m (by simp)), wipe_set (hv j (by simp)), wipe_set (hv i (by simp))]
  · exact hp.elim
/-! ### for -/
def dForL (dg : DG) (db : DQ) (N : DN) : List D → DS → Prop
  | [], δ => N.nx δ
  | x :: xs, δ => dg x δ fun δ' => db { N with nx := dForL dg db N xs, ct := dForL dg db N xs, bk := N.nx } δ'
def dFor (di : DI) (dg : DG) (db : DQ) : DQ := fun N δ => di δ fun items => dForL dg db N items δ
def dForN (n : Nat) (di : DI) (dg : DG) (db : DQ) : DQ := fun N δ => di δ fun items => items.length ≤ n ∧ dForL dg db N items δ
theorem for_core {wi : TI} {di : DI} {g : TG} {dg : DG} {sl : List Nat} {tbd : TS} {dbd : DQ} {kp : Addr → Prop} {t : Nat} {σ : L2.St} {δ : DS} {B G0 G H : Hp} (hk : ∀ b o, kp b → H b = some o → B b = some o) {N : DN} {D : Ends} {T : Nat} {items : List GP.D} {J : It}
    (hg : SG Γ L g dg sl) (hb : SS Γ L c tbd dbd) (a : At L t B G0 G H) (e : Env Γ L B G H σ δ) (hT : t + items.length * c ≤ T) (hM : T ≤ TMAX) (hI : ItsOf Γ L kp J items G H) (hp : dForL dg dbd N items δ) (E : EndsOf Γ L T B G0 N D) :
    ∃ W : Nat → Nat → L2.St → Hp → Prop, (∃ m, W 0 m σ H) ∧ ∀ i m σ H, W i m σ H →
      (J.stop i H ∧ D.nx σ H) ∨ (J.go i H ∧ ∃ M : L2.St → Hp → Prop, (∀ σ' H', M σ' H' → ∃ m', m' < m ∧ W (i + 1) m' σ' H') ∧ ∀ x H', J.yld i H x H' → g x σ H' fun σ2 H2 => tbd { D with nx := M, ct := M, bk := D.nx } σ2 H2) := by
  let W : Nat → Nat → L2.St → Hp → Prop := fun i m σ' H' => m = items.length - i ∧ i ≤ items.length ∧ ∃ δ' G', At L (t + i * c) B G0 G' H' ∧ Ex G G' ∧ Env Γ L B G' H' σ' δ' ∧ dForL dg dbd N (items.drop i) δ'
  refine ⟨W, ⟨items.length, by simp, Nat.zero_le _, δ, G, by simpa using a, Ex.rfl', e, by simpa using hp⟩, ?_⟩
  rintro i m σ1 H1 ⟨rfl, hi, δ1, G1, a1, x1, e1, q1⟩
  by_cases hlt : i < items.length
  · right
    obtain ⟨d, hd⟩ : ∃ d, items[i]? = some d := ⟨items[i], by simp [hlt]⟩
    have hdrop : items.drop i = d :: items.drop (i + 1) := by
      rw [List.drop_eq_getElem_cons hlt]
      have : items[i] = d := by
        have := List.getElem?_eq_getElem hlt
        rw [this] at hd; exact Option.some.inj hd
      rw [this]
    rw [hdrop] at q1
    refine ⟨hI.go i G1 H1 hlt x1 a1.gh (fun b o z h n => a1.bh b o (hk b o z h) n), fun σ2 H2 => W (i + 1) (items.length - (i + 1)) σ2 H2, fun σ2 H2 w => ⟨_, by omega, w⟩, fun x H2 y => ?_⟩
    obtain ⟨G2, a2, r2⟩ := hI.yl (t + i * c) i x d G1 H1 H2 hd a1.lw x1 a1.gh (fun b o z h n => a1.bh b o (hk b o z h) n) y
    have e2 := e1.step a2
    refine hg (t + i * c) σ1 δ1 B G2 H2 x d a2.lw a2.gh e2 r2 _ q1 _ fun σ3 δ3 e3 _ q3 => ?_
    have hc : t + i * c + c ≤ TMAX := by
      have h1 : (i + 1) * c ≤ items.length * c := Nat.mul_le_mul_right c hlt
      rw [Nat.succ_mul] at h1
      omega
    have hle : t + i * c + c ≤ T := by
      have h1 : (i + 1) * c ≤ items.length * c := Nat.mul_le_mul_right c hlt
      rw [Nat.succ_mul] at h1
      omega
    have fin : ∀ (σ4 : L2.St) (δ4 : DS) (G4 H4 : Hp), At L (t + i * c + c) B G0 G4 H4 → Ex G2 G4 → Env Γ L B G4 H4 σ4 δ4 → dForL dg dbd N (items.drop (i + 1)) δ4 → W (i + 1) (items.length - (i + 1)) σ4 H4 := fun σ4 δ4 G4 H4 a4 x4 e4 q4 =>
      ⟨rfl, hlt, δ4, G4, by rw [Nat.succ_mul, ← Nat.add_assoc]; exact a4, (x1.tr a2.gg).tr x4, e4, q4⟩
    -- the body, from a base that keeps what is stable now
    refine hb (t + i * c) σ3 δ3 B G2 G2 H2 ⟨Ex.rfl', a2.gh, (a1.tr a2).bh, fun _ _ h => .inl h, a2.lw⟩ e3 hc _ q3 _ ⟨fun σ4 δ4 G4 H4 a4 e4 q4 => ?_, fun v d4 G4 H4 a4 r4 q4 => ?_, fun σ4 δ4 G4 H4 a4 e4 q4 => ?_, fun σ4 δ4 G4 H4 a4 e4 q4 => ?_⟩
    · exact fin σ4 δ4 G4 H4 ⟨((a1.tr a2).gg).tr a4.gg, a4.gh, a4.bh, fun y o h => (a4.nw y o h).elim (fun h => (a1.tr a2).nw y o h) .inr, a4.lw⟩ a4.gg e4 q4
    · exact E.rt v d4 G4 H4 (At.le ⟨((a1.tr a2).gg).tr a4.gg, a4.gh, a4.bh, fun y o h => (a4.nw y o h).elim (fun h => (a1.tr a2).nw y o h) .inr, a4.lw⟩ hle) r4 q4
    · exact E.nx σ4 δ4 G4 H4 (At.le ⟨((a1.tr a2).gg).tr a4.gg, a4.gh, a4.bh, fun y o h => (a4.nw y o h).elim (fun h => (a1.tr a2).nw y o h) .inr, a4.lw⟩ hle) e4 q4
    · exact fin σ4 δ4 G4 H4 ⟨((a1.tr a2).gg).tr a4.gg, a4.gh, a4.bh, fun y o h => (a4.nw y o h).elim (fun h => (a1.tr a2).nw y o h) .inr, a4.lw⟩ a4.gg e4 q4
  · left
    have hi' : i = items.length := by omega
    subst hi'
    rw [List.drop_length] at q1
    exact ⟨hI.st G1 H1 x1 a1.gh (fun b o z h n => a1.bh b o (hk b o z h) n), E.nx σ1 δ1 G1 H1 (a1.le hT) e1 q1⟩
theorem s_for {wi : TI} {di : DI} {g : TG} {dg : DG} {sl : List Nat} {tbd : TS} {dbd : DQ} (hi : SI Γ L (fun _ => False) c1 wi di) (hg : SG Γ L g dg sl) (hb : SS Γ L 0 tbd dbd) : SS Γ L c1 (tFor wi g tbd) (dFor di dg dbd) := fun t σ δ B G0 G H a e hc N hp D E => by
  refine hi t σ δ B G H a.lw a.gh e hc _ hp _ fun J items G1 H1 a1 hI q => ?_
  exact for_core (wi := wi) (di := di) (T := t + c1) (fun _ _ z => z.elim) hg hb (a.tr a1) (e.step a1) (by omega) hc hI q E
theorem s_forN (n : Nat) {wi : TI} {di : DI} {g : TG} {dg : DG} {sl : List Nat} {tbd : TS} {dbd : DQ} (hi : SI Γ L (fun _ => False) c1 wi di) (hg : SG Γ L g dg sl) (hb : SS Γ L c tbd dbd) : SS Γ L (c1 + n * c) (tFor wi g tbd) (dForN n di dg dbd) := fun t σ δ B G0 G H a e hc N hp D E => by
  refine hi t σ δ B G H a.lw a.gh e (by omega) _ hp _ fun J items G1 H1 a1 hI q => ?_
  have h1 : items.length * c ≤ n * c := Nat.mul_le_mul_right c q.1
  exact for_core (wi := wi) (di := di) (T := t + (c1 + n * c)) (fun _ _ z => z.elim) hg hb (a.tr a1) (e.step a1) (by omega) hc hI q.2 E
/-! ### list comprehensions -/
theorem wipe_at (σ : L2.St) (i : Nat) : ∀ vs : List Nat, (wipe σ vs)[i]? = if i ∈ vs then σ[i]?.map (fun _ => none) else σ[i]?
  | [] => by simp [wipe]
  | v :: vs => by
    show ((wipe σ vs).set v none)[i]? = _
    have ih := wipe_at σ i vs
    rw [List.getElem?_set]
    by_cases z : v = i
    · subst z
      rw [if_pos rfl, wipe_length]
      rw [if_pos (List.mem_cons_self)]
      by_cases l : v < σ.length
      · rw [if_pos l, List.getElem?_eq_getElem l]; rfl
      · rw [if_neg l, List.getElem?_eq_none (by omega)]; rfl
    · rw [if_neg z, ih]
      by_cases m : i ∈ vs
      · rw [if_pos m, if_pos (List.mem_cons_of_mem _ m)]
      · rw [if_neg m, if_neg (fun q => (List.mem_cons.mp q).elim (fun q => z q.symm) m)]
theorem wipe_wipe (σ : L2.St) (vs : List Nat) : wipe (wipe σ vs) vs = wipe σ vs := by
  apply List.ext_getElem?
  intro i
  rw [wipe_at, wipe_at]
  by_cases m : i ∈ vs
  · rw [if_pos m, if_pos m, Option.map_map]; rfl
  · rw [if_neg m, if_neg m]
def wipeD (δ : DS) : List Nat → DS
  | [] => δ
  | v :: vs => (wipeD δ vs).set v none
def dLcL (dg : DG) (dt : DT) (de : DE) (P : D → Prop) (δ : DS) : List D → List D → Prop
  | [], acc => P (.lst acc)
  | x :: xs, acc => dg x δ fun δ' => dt δ' fun b => if b = true then de δ' fun y => dLcL dg dt de P δ xs (acc ++ [y]) else dLcL dg dt de P δ xs acc
def dLc (di : DI) (dg : DG) (dt : DT) (de : DE) (vs : List Nat) : DE := fun δ P => di δ fun items => dLcL dg dt de P (wipeD δ vs) items []
def dLcN (n : Nat) (di : DI) (dg : DG) (dt : DT) (de : DE) (vs : List Nat) : DE := fun δ P => di δ fun items => items.length ≤ n ∧ dLcL dg dt de P (wipeD δ vs) items []
def dYes : DT := fun _ P => P true
theorem s_yes : SB Γ L 0 tYes dYes := fun t σ δ B G H l x e hc P hp Q k => k true G H (At.start x l) hp
theorem Env.wipe1 {B G H : Hp} {σ : L2.St} {δ : DS} (e : Env Γ L B G H σ δ) (i : Nat) : Env Γ L B G H (σ.set i none) (δ.set i none) := by
  have f : ∀ (m : Nat) (w : Sl), (δ.set i none)[m]? = some (some w) → i ≠ m ∧ δ[m]? = some (some w) := fun m w hm => by
    by_cases z : i = m
    · subst z
      rw [List.getElem?_set] at hm
      by_cases l : i < δ.length <;> simp [l] at hm
    · rw [List.getElem?_set_ne z] at hm; exact ⟨z, hm⟩
  refine ⟨fun j d h => ?_, fun j d h => ?_, fun j k x y q hjk h1 h2 h3 h4 => ?_, by rw [List.length_set, List.length_set]; exact e.len⟩
  · obtain ⟨n, h'⟩ := f j _ h
    rw [List.getElem?_set_ne n]; exact e.sh j d h'
  · obtain ⟨n, h'⟩ := f j _ h
    rw [List.getElem?_set_ne n]; exact e.ow j d h'
  · obtain ⟨n1, h1'⟩ := f j _ h1
    obtain ⟨n2, h2'⟩ := f k _ h2
    rw [List.getElem?_set_ne n1] at h3
    rw [List.getElem?_set_ne n2] at h4
    exact e.dj j k x y q hjk h1' h2' h3 h4
theorem Env.wipe {B G H : Hp} {σ : L2.St} {δ : DS} (e : Env Γ L B G H σ δ) : ∀ vs : List Nat, Env Γ L B G H (wipe σ vs) (wipeD δ vs)
  | [] => e
  | v :: vs => (e.wipe vs).wipe1 v
theorem lc_core' {g : TG} {dg : DG} {sl vs : List Nat} {kp : Addr → Prop} {t : Nat} {σ : L2.St} {δ : DS} {B G H : Hp} {T : Nat} {items : List GP.D} {J : It} {P : GP.D → Prop} {Q : VK}
    (hsl : ∀ i ∈ sl, i ∈ vs) (hg : SG Γ L g dg sl) (ht : SB Γ L c1 tt dt) (he : SE Γ L c2 te de) (l : LawAt L t G H) (x : Exf G H) (e : Env Γ L B G H σ δ) (hT : t + items.length * (c1 + c2) ≤ T) (hM : T ≤ TMAX) (hI : ItsOf Γ L kp J items G H)
    (hp : dLcL dg dt de P (wipeD δ vs) items []) (k : ∀ p d G' H', At L T H G G' H' → H p = none → OwnAt Γ L G' H' p d → G' p = none → P d → Q (.ref p) H') :
    ∀ D, H D = none → ∃ W : Nat → Nat → Hp → Prop, (∃ m, W 0 m (upd H D (.lst []))) ∧ ∀ i m H, W i m H →
      (J.stop i H ∧ Q (.ref D) H) ∨ (J.go i H ∧ ∃ Nx : Hp → Prop, (∀ H', Nx H' → ∃ m', m' < m ∧ W (i + 1) m' H') ∧ ∀ x H', J.yld i H x H' → g x (wipe σ vs) H' fun σ2 H2 => wipe σ2 vs = wipe σ vs ∧ tt σ2 H2 fun b H3 =>
        if b = true then te σ2 H3 fun y H4 => ∃ acc, H4 D = some (.lst acc) ∧ acc.length < sizeLine ∧ Nx (upd H4 D (.lst (acc ++ [y]))) else Nx H3) := by
  intro D hD
  have hz := hI.lim
  have hGD : G D = none := x.none hD
  have hnD : notL L D := l.out hD
  let W : Nat → Nat → Hp → Prop := fun i m H' => m = items.length - i ∧ i ≤ items.length ∧ ∃ (G' : Hp) (acc : List V) (ds : List GP.D), At L (t + i * (c1 + c2)) H G G' H' ∧ H' D = some (.lst acc) ∧ G' D = none ∧ RepL Γ L G' acc ds ∧ ds.length ≤ i ∧ dLcL dg dt de P (wipeD δ vs) (items.drop i) ds
  refine ⟨W, ⟨items.length, by simp, Nat.zero_le _, G, [], [], by simpa using (At.newH x l hD), upd_same, hGD, .nil, Nat.le_refl _, by simpa using hp⟩, ?_⟩
  rintro i m H1 ⟨rfl, hi, G1, acc, ds, a1, hacc, hg1, racc, hds, q1⟩
  have kept : ∀ a o, H a = some o → notL L a → H1 a = some o := a1.bh
  by_cases hlt : i < items.length
  · right
    obtain ⟨d, hd⟩ : ∃ d, items[i]? = some d := ⟨items[i], by simp [hlt]⟩
    have hdrop : items.drop i = d :: items.drop (i + 1) := by
      rw [List.drop_eq_getElem_cons hlt]
      have : items[i] = d := by
        have := List.getElem?_eq_getElem hlt
        rw [this] at hd; exact Option.some.inj hd
      rw [this]
    rw [hdrop] at q1
    have hle : t + i * (c1 + c2) + (c1 + c2) ≤ TMAX := by
      have h1 : (i + 1) * (c1 + c2) ≤ items.length * (c1 + c2) := Nat.mul_le_mul_right _ hlt
      rw [Nat.succ_mul] at h1
      omega
    refine ⟨hI.go i G1 H1 hlt a1.gg a1.gh (fun b o _ h n => kept b o h n), fun H2 => W (i + 1) (items.length - (i + 1)) H2, fun H2 w => ⟨_, by omega, w⟩, fun xv H2 y => ?_⟩
    obtain ⟨G2, a2, r2⟩ := hI.yl (t + i * (c1 + c2)) i xv d G1 H1 H2 hd a1.lw a1.gg a1.gh (fun b o _ h n => kept b o h n) y
    have hD2 : H2 D = some (.lst acc) := a2.bh D _ hacc hnD
    have hg2 : G2 D = none := by
      cases z : G2 D with
      | none => rfl
      | some o =>
        rcases a2.nw D o z with y | y
        · rw [hg1] at y; cases y
        · rw [hacc] at y; cases y
    have e2 : Env Γ L B G2 H2 (wipe σ vs) (wipeD δ vs) := ((e.wipe vs).step a1).step a2
    refine hg (t + i * (c1 + c2)) (wipe σ vs) (wipeD δ vs) B G2 H2 xv d a2.lw a2.gh e2 r2 _ q1 _ fun σ3 δ3 e3 hw q3 => ⟨?_, ?_⟩
    · have ww : wipe (wipe σ vs) vs = wipe σ vs := wipe_wipe σ vs
      rw [hw vs hsl]; exact ww
    · refine ht (t + i * (c1 + c2)) σ3 δ3 B G2 H2 a2.lw a2.gh e3 (by omega) _ q3 _ fun b G3 H3 a3 q4 => ?_
      have hD3 : H3 D = some (.lst acc) := a3.bh D _ hD2 hnD
      have hg3 : G3 D = none := by
        cases z : G3 D with
        | none => rfl
        | some o =>
          rcases a3.nw D o z with y | y
          · rw [hg2] at y; cases y
          · rw [hD2] at y; cases y
      have a123 : At L (t + i * (c1 + c2) + c1) H G G3 H3 := (a1.tr a2).tr a3
      cases b with
      | false => exact ⟨rfl, hlt, G3, acc, ds, a123.le (by rw [Nat.succ_mul]; omega), hD3, hg3, racc.up (a2.gg.tr a3.gg), by omega, q4⟩
      | true =>
        refine he (t + i * (c1 + c2) + c1) σ3 δ3 B G3 H3 a3.lw a3.gh (e3.step a3) (by omega) _ q4 _ fun yv yd G4 H4 a4 r4 q5 => ?_
        have hD4 : H4 D = some (.lst acc) := a4.bh D _ hD3 hnD
        have hg4 : G4 D = none := by
          cases z : G4 D with
          | none => rfl
          | some o =>
            rcases a4.nw D o z with y | y
            · rw [hg3] at y; cases y
            · rw [hD3] at y; cases y
        have hlen := racc.len
        refine ⟨acc, hD4, ?_, rfl, hlt, G4, acc ++ [yv], ds ++ [yd], ((a123.tr a4).write hD hg4 hnD).le (by rw [Nat.succ_mul]; omega), upd_same, hg4, (racc.up ((a2.gg.tr a3.gg).tr a4.gg)).app (.cons r4 .nil), by rw [List.length_append]; show ds.length + 1 ≤ i + 1; omega, q5⟩
        have : acc.length < LIM := by omega
        exact Nat.lt_of_lt_of_le this (lim_size (Nat.le_refl _))
  · left
    have hi' : i = items.length := by omega
    subst hi'
    rw [List.drop_length] at q1
    exact ⟨hI.st G1 H1 a1.gg a1.gh (fun b o _ h n => kept b o h n), k D _ G1 H1 (a1.le hT) hD (.lst hacc racc (by omega)) hg1 q1⟩
theorem s_lc {wi : TI} {di : DI} {g : TG} {dg : DG} {sl vs : List Nat} (hi : SI Γ L (fun _ => True) c1 wi di) (hg : SG Γ L g dg sl) (ht : SB Γ L 0 tt dt) (he : SE Γ L 0 te de) (hsl : ∀ i ∈ sl, i ∈ vs := by decide) : SF Γ L c1 (tLc wi g tt te vs) (dLc di dg dt de vs) := fun t σ δ B G H l x e hc P hp Q k => by
  refine hi t σ δ B G H l x e hc _ hp _ fun J items G1 H1 a1 hI q => ?_
  refine lc_core' (kp := fun _ => True) (T := t + c1) hsl hg ht he a1.lw a1.gh (e.step a1) (by omega) hc hI q fun p d G2 H2 a2 n o g q2 => k p d G2 H2 (a1.tr a2) (a1.old n) o g q2
theorem s_lcN (n : Nat) {wi : TI} {di : DI} {g : TG} {dg : DG} {sl vs : List Nat} (hi : SI Γ L (fun _ => True) c1 wi di) (hg : SG Γ L g dg sl) (ht : SB Γ L c2 tt dt) (he : SE Γ L c3 te de) (hsl : ∀ i ∈ sl, i ∈ vs := by decide) : SF Γ L (c1 + n * (c2 + c3)) (tLc wi g tt te vs) (dLcN n di dg dt de vs) := fun t σ δ B G H l x e hc P hp Q k => by
  refine hi t σ δ B G H l x e (by omega) _ hp _ fun J items G1 H1 a1 hI q => ?_
  have h1 : items.length * (c2 + c3) ≤ n * (c2 + c3) := Nat.mul_le_mul_right _ q.1
  refine lc_core' (kp := fun _ => True) (T := t + (c1 + n * (c2 + c3))) hsl hg ht he a1.lw a1.gh (e.step a1) (by omega) hc hI q.2 fun p d G2 H2 a2 n o g q2 => k p d G2 H2 (a1.tr a2) (a1.old n) o g q2
/-! ### the sources -/
def seqD : D → Option (List D)
  | .lst xs => some xs
  | .tup xs => some xs
  | .str x => some (x.cps.toList.map fun c => .str ⟨#[c]⟩)
  | _ => none
def gIter (K : FK) (te : TE) : TI := fun σ H R => te σ H fun x H1 => (∃ a, x = .ref a ∧ (∃ xs, SqL K H1 a xs) ∧ R (Itl K a) H1) ∨ (∃ a, x = .ref a ∧ (∃ xs, SqT K H1 a xs) ∧ R (Itt K a) H1) ∨ ∃ s, x = .str s ∧ R (Its s) H1
def dIter (de : DE) : DI := fun δ P => de δ fun d => match seqD d with
  | some xs => P xs
  | none => False
theorem its_list {kp : Addr → Prop} {a : Addr} {xs : List V} {ds : List GP.D} {G1 H1 : Hp} (r : RepL Γ L G1 xs ds) (z : ds.length ≤ LIM) (h : ∀ (G H : Hp), Ex G1 G → Exf G H → (∀ a o, kp a → H1 a = some o → notL L a → H a = some o) → SqL Γ.K H a xs) : ItsOf Γ L kp (Itl Γ.K a) ds G1 H1 where
  lim := z
  go := fun i G H hi g x kk => by
    have hl := r.len
    exact ⟨xs, xs[i]'(by omega), h G H g x kk, by simp⟩
  st := fun G H g x kk => ⟨xs, h G H g x kk, by rw [r.len]; exact Nat.le_refl _⟩
  yl := fun t i x d G H H' hd l g xf kk y => by
    obtain ⟨e1, y⟩ := y
    subst e1
    have hx := y xs (h G _ g xf kk)
    obtain ⟨w, hw, rw'⟩ := r.at_ hd
    rw [hw] at hx
    cases hx
    exact ⟨G, At.start xf l, rw'.up g⟩
theorem its_tup {kp : Addr → Prop} {a : Addr} {xs : List V} {ds : List GP.D} {G1 H1 : Hp} (r : RepL Γ L G1 xs ds) (z : ds.length ≤ LIM) (h : ∀ (G H : Hp), Ex G1 G → Exf G H → SqT Γ.K H a xs) : ItsOf Γ L kp (Itt Γ.K a) ds G1 H1 where
  lim := z
  go := fun i G H hi g x kk => by
    have hl := r.len
    exact ⟨xs, xs[i]'(by omega), h G H g x, by simp⟩
  st := fun G H g x kk => ⟨xs, h G H g x, by rw [r.len]; exact Nat.le_refl _⟩
  yl := fun t i x d G H H' hd l g xf kk y => by
    obtain ⟨e1, y⟩ := y
    subst e1
    have hx := y xs (h G _ g xf)
    obtain ⟨w, hw, rw'⟩ := r.at_ hd
    rw [hw] at hx
    cases hx
    exact ⟨G, At.start xf l, rw'.up g⟩
theorem okStr_len {x : Str} (h : okStr x = true) : x.length ≤ LIM := by
  unfold okStr at h
  rw [Bool.and_eq_true, decide_eq_true_eq] at h
  exact h.1
theorem okStr_cp {x : Str} (h : okStr x = true) {c : Nat} (m : c ∈ x.cps) : c < 0x110000 := by
  unfold okStr at h
  rw [Bool.and_eq_true, Array.all_eq_true'] at h
  exact of_decide_eq_true (h.2 c m)
theorem okStr_of {x : Str} (h : x.length ≤ LIM) (k : ∀ c ∈ x.cps, c < 0x110000) : okStr x = true := by
  unfold okStr
  rw [Bool.and_eq_true, Array.all_eq_true']
  exact ⟨decide_eq_true h, fun c m => decide_eq_true (k c m)⟩
theorem okStr_one {c : Nat} (h : c < 0x110000) : okStr ⟨#[c]⟩ = true := okStr_of (by show 1 ≤ LIM; decide) fun d m => by
  have : d = c := by simpa using m
  rw [this]; exact h
theorem its_str {kp : Addr → Prop} {s : Str} {G1 H1 : Hp} (zz : okStr s = true) : ItsOf Γ L kp (Its s) (s.cps.toList.map fun c => GP.D.str ⟨#[c]⟩) G1 H1 where
  lim := by rw [List.length_map, Array.length_toList]; exact okStr_len zz
  go := fun i G H hi g x kk => by rw [List.length_map, Array.length_toList] at hi; exact hi
  st := fun G H g x kk => by rw [List.length_map, Array.length_toList]; exact Nat.le_refl _
  yl := fun t i x d G H H' hd l g xf kk y => by
    obtain ⟨e1, c, hc, ev⟩ := y
    subst e1
    subst ev
    refine ⟨G, At.start xf l, ?_⟩
    rw [List.getElem?_map, Array.getElem?_toList, hc] at hd
    cases hd
    exact .str (okStr_one (okStr_cp zz (Array.mem_of_getElem? hc)))
theorem s_iter (h : SE Γ L c te de) {kp : Addr → Prop} : SI Γ L kp c (gIter Γ.K te) (dIter de) := fun t σ δ B G H l x e hc P hp R k => by
  refine h t σ δ B G H l x e hc _ hp _ fun v d G1 H1 a1 r1 q => ?_
  split at q
  · rename_i xs hx
    cases r1 with
    | lst hh r z => cases hx; exact .inl ⟨_, rfl, ⟨_, a1.gh.sl (SqL.of hh)⟩, k _ _ G1 H1 a1 (its_list r z fun G2 H2 g x2 _ => x2.sl (SqL.of (g _ _ hh))) q⟩
    | tup hh r z => cases hx; exact .inr (.inl ⟨_, rfl, ⟨_, (a1.gh.tp hh).sq⟩, k _ _ G1 H1 a1 (its_tup r z fun G2 H2 g x2 => (x2.tp (g.tp hh)).sq) q⟩)
    | str z => cases hx; exact .inr (.inr ⟨_, rfl, k _ _ G1 H1 a1 (its_str z) q⟩)
    | _ => cases hx
  · exact q.elim
/-- .. in a comprehension, the list may be owned -/
theorem s_iterT (h : ST Γ L c te de) : SI Γ L (fun _ => True) c (gIter Γ.K te) (dIter de) := fun t σ δ B G H l x e hc P hp R k => by
  refine h t σ δ B G H l x e hc _ hp _ fun v d G1 H1 a1 r1 q => ?_
  split at q
  · rename_i xs hx
    rcases r1 with r1 | ⟨p, rfl, o, hn⟩
    · cases r1 with
      | lst hh r z => cases hx; exact .inl ⟨_, rfl, ⟨_, a1.gh.sl (SqL.of hh)⟩, k _ _ G1 H1 a1 (its_list r z fun G2 H2 g x2 _ => x2.sl (SqL.of (g _ _ hh))) q⟩
      | tup hh r z => cases hx; exact .inr (.inl ⟨_, rfl, ⟨_, (a1.gh.tp hh).sq⟩, k _ _ G1 H1 a1 (its_tup r z fun G2 H2 g x2 => (x2.tp (g.tp hh)).sq) q⟩)
      | str z => cases hx; exact .inr (.inr ⟨_, rfl, k _ _ G1 H1 a1 (its_str z) q⟩)
      | _ => cases hx
    · cases o with
      | lst hh r z => cases hx; exact .inl ⟨_, rfl, ⟨_, SqL.of hh⟩, k _ _ G1 H1 a1 (its_list r z fun G2 H2 g x2 kk => SqL.of (kk _ _ trivial hh hn)) q⟩
      | dct hh r z => cases hx
  · exact q.elim
/-- range(n) -/
def dRng1 (a : DA) : DI := fun δ P => a δ fun ds => match ds with
  | [.int n] => n ≤ LIM ∧ -LIM ≤ n ∧ P ((List.range n.toNat).map fun (i : Nat) => GP.D.int (i : Int))
  | _ => False
theorem s_rng1 {tA : TA} {dA : DA} (h : SAT Γ L c tA dA) {kp : Addr → Prop} : SI Γ L kp c (iRng1 tA) (dRng1 dA) := fun t σ δ B G H l x e hc P hp R k => by
  refine h t σ δ B G H l x e hc _ hp _ fun vs ds G1 H1 a1 r1 q => ?_
  split at q
  · rename_i n
    cases r1 with
    | cons r1 rr =>
      cases rr
      have hv : ∀ v, RepT Γ L G1 H1 v (.int n) → v = .int n := fun v h => by
        rcases h with h | ⟨p, rfl, h, _⟩
        · cases h; rfl
        · cases h
      rw [hv _ r1]
      obtain ⟨q1, q2, q3⟩ := q
      have b1 : -(2 ^ 62 : Int) ≤ n := by
        have : (-(LIM : Int)) ≤ n := q2
        have e : ((LIM : Nat) : Int) = 1000000 := rfl
        omega
      have b2 : n < (2 ^ 62 : Int) := by
        have e : ((LIM : Nat) : Int) = 1000000 := rfl
        omega
      refine ⟨n, rfl, b1, b2, k _ _ G1 H1 a1 ⟨?_, fun i G2 H2 hi g x2 kk => ?_, fun G2 H2 g x2 kk => ?_, fun t i xv d G2 H2 H3 hd l2 g xf kk y => ?_⟩ q3⟩
      · rw [List.length_map, List.length_range]
        have e : ((LIM : Nat) : Int) = 1000000 := rfl
        omega
      · rw [List.length_map, List.length_range] at hi; exact hi
      · rw [List.length_map, List.length_range]; exact Nat.le_refl _
      · obtain ⟨e1, e2⟩ := y
        subst e1
        subst e2
        refine ⟨G2, At.start xf l2, ?_⟩
        rw [List.getElem?_map] at hd
        obtain ⟨j, hj, ej⟩ := Option.map_eq_some_iff.mp hd
        have : j = i := by
          have h1 := List.getElem?_eq_some_iff.mp hj
          obtain ⟨h1, h2⟩ := h1
          rw [List.getElem_range] at h2
          exact h2.symm
        subst this
        rw [← ej]
        have e0 : (0 : Int) + (j : Int) = (j : Int) := Int.zero_add _
        rw [e0]
        exact .int _
  · exact q.elim
end
end GP

set_option Elab.async false
set_option linter.all false
set_option maxRecDepth 100000
set_option maxHeartbeats 4000000
/-! G5: the operators and built-in calls on data, and that the readings keep to them. -/
namespace GP
open PySem PySem.Spec PyProof.Rows L2
/-! ### plain data, its == -/
def plD : Nat → D → Bool
  | _, .non => true
  | _, .bl _ => true
  | _, .int _ => true
  | _, .str _ => true
  | n + 1, .lst xs => xs.all (plD n)
  | n + 1, .tup xs => xs.all (plD n)
  | _, _ => false
def pyD : Nat → D → PyData
  | _, .non => .none
  | _, .bl b => .bool b
  | _, .int i => .int i
  | _, .str x => .str x
  | n + 1, .lst xs => .list (xs.map (pyD n))
  | n + 1, .tup xs => .tuple (xs.map (pyD n))
  | _, _ => .none
def deqL (f : D → D → Bool) : List D → List D → Bool
  | [], [] => true
  | x :: xs, y :: ys => f x y && deqL f xs ys
  | _, _ => false
def deq : Nat → D → D → Bool
  | _, .non, .non => true
  | _, .bl a, .bl b => a == b
  | _, .bl a, .int j => (if a then 1 else 0) == j
  | _, .int i, .bl b => i == (if b then 1 else 0)
  | _, .int i, .int j => i == j
  | _, .str x, .str y => x == y
  | n + 1, .lst xs, .lst ys => deqL (deq n) xs ys
  | n + 1, .tup xs, .tup ys => deqL (deq n) xs ys
  | _, _, _ => false
theorem eqvAll_map {n : Nat} (f : ∀ x y, plD n x = true → plD n y = true → PyData.eqv (pyD n x) (pyD n y) = deq n x y) : ∀ xs ys : List D, xs.all (plD n) = true → ys.all (plD n) = true → PyData.eqvAll (xs.map (pyD n)) (ys.map (pyD n)) = deqL (deq n) xs ys
  | [], [], _, _ => rfl
  | [], _ :: _, _, _ => rfl
  | _ :: _, [], _, _ => rfl
  | x :: xs, y :: ys, h1, h2 => by
    rw [List.all_cons, Bool.and_eq_true] at h1 h2
    show (PyData.eqv (pyD n x) (pyD n y) && PyData.eqvAll (xs.map (pyD n)) (ys.map (pyD n))) = (deq n x y && deqL (deq n) xs ys)
    rw [f x y h1.1 h2.1, eqvAll_map f xs ys h1.2 h2.2]
theorem eqv_deq : ∀ (n : Nat) (x y : D), plD n x = true → plD n y = true → PyData.eqv (pyD n x) (pyD n y) = deq n x y
  | 0, x, y, h1, h2 => by cases x <;> cases y <;> first | rfl | (cases h1; done) | (cases h2; done)
  | n + 1, x, y, h1, h2 => by
    have key := eqvAll_map (n := n) (eqv_deq n)
    cases x <;> cases y <;> first | rfl | (cases h1; done) | (cases h2; done) | exact key _ _ h1 h2
section
variable {Γ : Cn} {L : LS}
theorem dpAll_of {G H : Hp} {n : Nat} (f : ∀ v d, Rep Γ L G v d → plD n d = true → Dp Γ.K H v (pyD n d) ∧ (pyD n d).canLay0 = true ∧ (pyD n d).depth ≤ n) : ∀ {vs : List V} {ds : List D}, RepL Γ L G vs ds → ds.all (plD n) = true →
    DpAll Γ.K H vs (ds.map (pyD n)) ∧ PyData.canLayAll0 (ds.map (pyD n)) = true ∧ PyData.depthAll (ds.map (pyD n)) ≤ n
  | _, _, .nil, _ => ⟨.nil, rfl, Nat.zero_le _⟩
  | _, _, .cons h t, q => by
    rw [List.all_cons, Bool.and_eq_true] at q
    obtain ⟨a1, a2, a3⟩ := f _ _ h q.1
    obtain ⟨b1, b2, b3⟩ := dpAll_of f t q.2
    refine ⟨.cons a1 b1, ?_, ?_⟩
    · show (PyData.canLay0 _ && PyData.canLayAll0 _) = true
      rw [a2, b2]; rfl
    · exact Nat.max_le.mpr ⟨a3, b3⟩
theorem dp_of {G H : Hp} (x : Exf G H) : ∀ (n : Nat) (v : V) (d : D), Rep Γ L G v d → plD n d = true → Dp Γ.K H v (pyD n d) ∧ (pyD n d).canLay0 = true ∧ (pyD n d).depth ≤ n
  | 0, v, d, r, h => by
    cases r with
    | non => exact ⟨.non, rfl, Nat.zero_le _⟩
    | bl b => exact ⟨.bl b, rfl, Nat.zero_le _⟩
    | int i => exact ⟨.int i, rfl, Nat.zero_le _⟩
    | str z =>
      refine ⟨.str _, ?_, Nat.zero_le _⟩
      unfold okStr at z
      rw [Bool.and_eq_true] at z
      exact z.2
    | _ => cases h
  | n + 1, v, d, r, h => by
    cases r with
    | non => exact ⟨.non, rfl, Nat.zero_le _⟩
    | bl b => exact ⟨.bl b, rfl, Nat.zero_le _⟩
    | int i => exact ⟨.int i, rfl, Nat.zero_le _⟩
    | str z =>
      refine ⟨.str _, ?_, Nat.zero_le _⟩
      unfold okStr at z
      rw [Bool.and_eq_true] at z
      exact z.2
    | lst hh r z =>
      obtain ⟨a1, a2, a3⟩ := dpAll_of (dp_of x n) r h
      exact ⟨.lst (x.sl (SqL.of hh)) a1, a2, Nat.succ_le_succ a3⟩
    | tup hh r z =>
      obtain ⟨a1, a2, a3⟩ := dpAll_of (dp_of x n) r h
      exact ⟨.tup (x.tp hh).sq a1, a2, Nat.succ_le_succ a3⟩
    | _ => cases h
theorem dpT_of {G H : Hp} (x : Exf G H) {n : Nat} {v : V} {d : D} (r : RepT Γ L G H v d) (h : plD n d = true) : Dp Γ.K H v (pyD n d) ∧ (pyD n d).canLay0 = true ∧ (pyD n d).depth ≤ n := by
  rcases r with r | ⟨p, rfl, o, _⟩
  · exact dp_of x n v d r h
  · cases o with
    | lst hh r z =>
      cases n with
      | zero => cases h
      | succ n =>
        obtain ⟨a1, a2, a3⟩ := dpAll_of (dp_of x n) r h
        exact ⟨.lst (SqL.of hh) a1, a2, Nat.succ_le_succ a3⟩
    | dct hh r z => cases n <;> cases h
theorem shaped_of {d : PyData} {n : Nat} (h1 : d.canLay0 = true) (h2 : d.depth ≤ n) (h3 : n ≤ 64) : SeqAt.shaped d = true := by
  unfold SeqAt.shaped
  rw [h1, decide_eq_true (Nat.le_trans h2 h3)]
  rfl
/-- how deep data may be nested here -/
abbrev DEP : Nat := 12
def fEq (x y : D) : Option D := match x, y with
  | .raw a, .raw b => some (.bl (decide (a = b)))
  | x, y => if plD DEP x && plD DEP y then some (.bl (deq DEP x y)) else none
def fNe (x y : D) : Option D := match x, y with
  | .raw a, .raw b => some (.bl (!decide (a = b)))
  | x, y => if plD DEP x && plD DEP y then some (.bl (!deq DEP x y)) else none
theorem raw_of {G H : Hp} {v : V} {x : Str} (h : RepT Γ L G H v (.raw x)) : v = .str x := by
  rcases h with h | ⟨p, rfl, h, _⟩
  · cases h; rfl
  · cases h
theorem dec_strV {a b : Str} : decide (V.str a = V.str b) = decide (a = b) := by simp
theorem o_eq : OpS Γ L (gEq Γ.K) fEq := fun t G H x y dx dy z l e rx ry hz Q k => by
  unfold fEq at hz
  split at hz
  · cases hz
    obtain rfl := raw_of rx
    obtain rfl := raw_of ry
    refine .inl ⟨rfl, ?_⟩
    rw [dec_strV]
    exact k _ G H (At.start e l) (.bl _)
  split at hz
  · rename_i hp
    rw [Bool.and_eq_true] at hp
    cases hz
    obtain ⟨a1, a2, a3⟩ := dpT_of e rx hp.1
    obtain ⟨b1, b2, b3⟩ := dpT_of e ry hp.2
    refine .inr ⟨_, _, a1, b1, shaped_of a2 a3 (by decide), shaped_of b2 b3 (by decide), ?_⟩
    rw [eqv_deq _ _ _ hp.1 hp.2]
    exact k _ G H (At.start e l) (.bl _)
  · cases hz
theorem o_ne : OpS Γ L (gNe Γ.K) fNe := fun t G H x y dx dy z l e rx ry hz Q k => by
  unfold fNe at hz
  split at hz
  · cases hz
    obtain rfl := raw_of rx
    obtain rfl := raw_of ry
    refine .inl ⟨rfl, ?_⟩
    rw [dec_strV]
    exact k _ G H (At.start e l) (.bl _)
  split at hz
  · rename_i hp
    rw [Bool.and_eq_true] at hp
    cases hz
    obtain ⟨a1, a2, a3⟩ := dpT_of e rx hp.1
    obtain ⟨b1, b2, b3⟩ := dpT_of e ry hp.2
    refine .inr ⟨_, _, a1, b1, shaped_of a2 a3 (by decide), shaped_of b2 b3 (by decide), ?_⟩
    rw [eqv_deq _ _ _ hp.1 hp.2]
    exact k _ G H (At.start e l) (.bl _)
  · cases hz
/-! ### ints -/
theorem int_of {G H : Hp} {v : V} {i : Int} (h : RepT Γ L G H v (.int i)) : v = .int i := by
  rcases h with h | ⟨p, rfl, h, _⟩
  · cases h; rfl
  · cases h
theorem str_of {G H : Hp} {v : V} {i : Str} (h : RepT Γ L G H v (.str i)) : v = .str i ∧ okStr i = true := by
  rcases h with h | ⟨p, rfl, h, _⟩
  · cases h with
    | str h => exact ⟨rfl, h⟩
  · cases h
theorem non_of {G H : Hp} {v : V} (h : RepT Γ L G H v .non) : v = .non := by
  rcases h with h | ⟨p, rfl, h, _⟩
  · cases h; rfl
  · cases h
theorem lst_of {G H : Hp} (x : Exf G H) {v : V} {ds : List D} (h : RepT Γ L G H v (.lst ds)) : ∃ p xs, v = .ref p ∧ H p = some (.lst xs) ∧ RepL Γ L G xs ds ∧ ds.length ≤ LIM := by
  rcases h with h | ⟨p, rfl, h, _⟩
  · cases h with
    | lst h r z =>
      rcases x _ _ h with q | ⟨_, _, q, _⟩
      · exact ⟨_, _, rfl, q, r, z⟩
      · cases q
  · cases h with
    | lst h r z => exact ⟨_, _, rfl, h, r, z⟩
theorem tup_of {G H : Hp} (x : Exf G H) {v : V} {ds : List D} (h : RepT Γ L G H v (.tup ds)) : ∃ p xs, v = .ref p ∧ SqT Γ.K H p xs ∧ RepL Γ L G xs ds ∧ ds.length ≤ LIM ∧ TpA Γ.K G p xs := by
  rcases h with h | ⟨p, rfl, h, _⟩
  · cases h with
    | tup h r z => exact ⟨_, _, rfl, (x.tp h).sq, r, z, h⟩
  · cases h
theorem dct_of {G H : Hp} (x : Exf G H) {v : V} {ds : List (Key × D)} (h : RepT Γ L G H v (.dct ds)) : ∃ p xs, v = .ref p ∧ Rd H p (.dK xs) ∧ RepK Γ L G xs ds ∧ ds.length ≤ LIM := by
  rcases h with h | ⟨p, rfl, h, _⟩
  · cases h with
    | dct h r z => exact ⟨_, _, rfl, x.dk h, r, z⟩
  · cases h with
    | dct h r z => exact ⟨_, _, rfl, .inl h, r, z⟩
def fInt (f : Int → Int → Option D) : D → D → Option D
  | .int i, .int j => f i j
  | _, _ => none
def fAdd : D → D → Option D
  | .int i, .int j => some (.int (i + j))
  | .str a, .str b => if okStr (a ++ b) then some (.str (a ++ b)) else none
  | .lst a, .lst b => if a.length + b.length ≤ LIM then some (.lst (a ++ b)) else none
  | .tup a, .tup b => if a.length + b.length ≤ LIM then some (.tup (a ++ b)) else none
  | _, _ => none
theorem o_add : OpS Γ L (gAdd Γ.K) fAdd := fun t G H x y dx dy z l e rx ry hz Q k => by
  cases dx <;> cases dy <;> try (cases hz; done)
  · obtain rfl := int_of rx
    obtain rfl := int_of ry
    cases hz
    exact .inl ⟨_, _, rfl, rfl, k _ G H (At.start e l) (.int _)⟩
  · obtain ⟨rfl, z1⟩ := str_of rx
    obtain ⟨rfl, z2⟩ := str_of ry
    unfold fAdd at hz
    dsimp only at hz
    split at hz
    · rename_i a b hok
      cases hz
      have hl := lim_size (okStr_len hok)
      have hs : (a ++ b).length = a.length + b.length := by
        show (a.cps ++ b.cps).size = _
        rw [Array.size_append]; rfl
      exact .inr (.inl ⟨_, _, rfl, rfl, by rw [← hs]; exact hl, k _ G H (At.start e l) (.str hok)⟩)
    · cases hz
  · obtain ⟨p, xs, rfl, hp, r1, z1⟩ := lst_of e rx
    obtain ⟨q, ys, rfl, hq, r2, z2⟩ := lst_of e ry
    unfold fAdd at hz
    dsimp only at hz
    split at hz
    · rename_i hl
      cases hz
      have l1 := r1.len
      have l2 := r2.len
      refine .inr (.inr (.inl ⟨_, _, _, _, rfl, rfl, hp, hq, lim_size (by omega), fun u nu => ?_⟩))
      have a2 := At.new (o := .lst (xs ++ ys)) e l nu
      exact k _ _ _ a2 (.lst upd_same ((r1.app r2).up a2.gg) (by rw [List.length_append]; exact hl))
    · cases hz
  · obtain ⟨p, xs, rfl, hp, r1, z1, g1⟩ := tup_of e rx
    obtain ⟨q, ys, rfl, hq, r2, z2, g2⟩ := tup_of e ry
    unfold fAdd at hz
    dsimp only at hz
    split at hz
    · rename_i hl
      cases hz
      have l1 := r1.len
      have l2 := r2.len
      refine .inr (.inr (.inr ⟨_, _, _, _, rfl, rfl, hp, hq, lim_size (by omega), fun e1 => ?_, fun n1 e2 => ?_, fun n1 n2 u nu => ?_⟩))
      · subst e1
        cases r1
        exact k _ G H (At.start e l) (.tup g2 r2 z2)
      · subst e2
        cases r2
        simp only [List.append_nil] at k
        exact k _ G H (At.start e l) (.tup g1 r1 z1)
      · have a2 := At.new (o := .tup (xs ++ ys)) e l nu
        exact k _ _ _ a2 (.tup (.inl upd_same) ((r1.app r2).up a2.gg) (by rw [List.length_append]; exact hl))
    · cases hz
def fSub : D → D → Option D := fInt fun i j => some (.int (i - j))
theorem o_sub : OpS Γ L gDif fSub := fun t G H x y dx dy z l e rx ry hz Q k => by
  cases dx <;> cases dy <;> try (cases hz; done)
  obtain rfl := int_of rx
  obtain rfl := int_of ry
  cases hz
  exact ⟨_, _, rfl, rfl, k _ G H (At.start e l) (.int _)⟩
def smI (i : Int) : Bool := decide (-18446744073709551616 < i) && decide (i < 18446744073709551616)
def fMul : D → D → Option D
  | .int i, .int j => if smI i || smI j then some (.int (i * j)) else none
  | .lst a, .int k => if decide (-1000000 ≤ k) && decide (k ≤ 1000000) && decide (a.length * k.toNat ≤ LIM) then some (.lst (List.replicate k.toNat a).flatten) else none
  | _, _ => none
theorem smI_ok {i : Int} (h : smI i = true) : -(2 ^ 64) < i ∧ i < 2 ^ 64 := by
  unfold smI at h
  rw [Bool.and_eq_true, decide_eq_true_eq, decide_eq_true_eq] at h
  exact h
theorem RepL.rep {G : Hp} {v : List V} {d : List D} (h : RepL Γ L G v d) : ∀ k : Nat, RepL Γ L G (List.replicate k v).flatten (List.replicate k d).flatten
  | 0 => .nil
  | k + 1 => by
    rw [List.replicate_succ, List.replicate_succ, List.flatten_cons, List.flatten_cons]
    exact h.app (RepL.rep h k)
theorem o_mul : OpS Γ L gMul fMul := fun t G H x y dx dy z l e rx ry hz Q k => by
  cases dx <;> cases dy <;> try (cases hz; done)
  · obtain rfl := int_of rx
    obtain rfl := int_of ry
    unfold fMul at hz
    dsimp only at hz
    split at hz
    · rename_i hs
      cases hz
      rw [Bool.or_eq_true] at hs
      exact .inl ⟨_, _, rfl, rfl, hs.imp smI_ok smI_ok, k _ G H (At.start e l) (.int _)⟩
    · cases hz
  · obtain ⟨p, xs, rfl, hp, r1, z1⟩ := lst_of e rx
    obtain rfl := int_of ry
    unfold fMul at hz
    dsimp only at hz
    split at hz
    · rename_i ds i hs
      cases hz
      rw [Bool.and_eq_true, Bool.and_eq_true, decide_eq_true_eq, decide_eq_true_eq, decide_eq_true_eq] at hs
      obtain ⟨⟨h1, h2⟩, h3⟩ := hs
      refine .inr (.inr ⟨_, _, _, rfl, rfl, hp, by omega, by omega, lim_size (by rw [r1.len]; exact h3), fun u nu => ?_⟩)
      have a2 := At.new (o := .lst (List.replicate i.toNat xs).flatten) e l nu
      refine k _ _ _ a2 (.lst upd_same ((r1.rep _).up a2.gg) ?_)
      rw [List.length_flatten, List.map_replicate, List.sum_replicate_nat, Nat.mul_comm]
      exact h3
    · cases hz
def fFdiv : D → D → Option D := fInt fun i j => if decide (0 < j) && decide (j < 18446744073709551616) then some (.int (i / j)) else none
def fMod : D → D → Option D := fInt fun i j => if 0 < j then some (.int (i % j)) else none
def fPow : D → D → Option D := fInt fun i j => if decide (0 ≤ j) && decide (j ≤ 1000) && smI i then some (.int (i ^ j.toNat)) else none
theorem o_fdiv : OpS Γ L gFdiv fFdiv := fun t G H x y dx dy z l e rx ry hz Q k => by
  cases dx <;> cases dy <;> try (cases hz; done)
  obtain rfl := int_of rx
  obtain rfl := int_of ry
  unfold fFdiv fInt at hz
  dsimp only at hz
  split at hz
  · rename_i i j hs
    cases hz
    rw [Bool.and_eq_true, decide_eq_true_eq, decide_eq_true_eq] at hs
    refine ⟨_, _, rfl, rfl, wide_div hs.1 (b := 64) ?_ (by decide) (by decide), k _ G H (At.start e l) (.int _)⟩
    omega
  · cases hz
theorem o_mod : OpS Γ L gMod fMod := fun t G H x y dx dy z l e rx ry hz Q k => by
  cases dx <;> cases dy <;> try (cases hz; done)
  obtain rfl := int_of rx
  obtain rfl := int_of ry
  unfold fMod fInt at hz
  dsimp only at hz
  split at hz
  · rename_i hs
    cases hz
    exact ⟨_, _, rfl, rfl, hs, k _ G H (At.start e l) (.int _)⟩
  · cases hz
theorem o_pow : OpS Γ L gPow fPow := fun t G H x y dx dy z l e rx ry hz Q k => by
  cases dx <;> cases dy <;> try (cases hz; done)
  obtain rfl := int_of rx
  obtain rfl := int_of ry
  unfold fPow fInt at hz
  dsimp only at hz
  split at hz
  · rename_i i j hs
    cases hz
    rw [Bool.and_eq_true, Bool.and_eq_true, decide_eq_true_eq, decide_eq_true_eq] at hs
    obtain ⟨⟨h1, h2⟩, h3⟩ := hs
    have h4 := smI_ok h3
    exact ⟨_, _, rfl, rfl, ⟨h1, by omega, by omega⟩, k _ G H (At.start e l) (.int _)⟩
  · cases hz
def fCmp (f : Int → Int → Bool) : D → D → Option D := fInt fun i j => some (.bl (f i j))
theorem o_cmp {f : Int → Int → Bool} : OpS Γ L (rI0 fun i j => .bl (f i j)) (fCmp f) := fun t G H x y dx dy z l e rx ry hz Q k => by
  cases dx <;> cases dy <;> try (cases hz; done)
  obtain rfl := int_of rx
  obtain rfl := int_of ry
  cases hz
  exact ⟨_, _, rfl, rfl, k _ G H (At.start e l) (.bl _)⟩
def fLt : D → D → Option D := fCmp fun i j => decide (i < j)
def fLe : D → D → Option D := fCmp fun i j => decide (i ≤ j)
def fGt : D → D → Option D := fCmp fun i j => decide (j < i)
def fGe : D → D → Option D := fCmp fun i j => decide (j ≤ i)
theorem o_lt : OpS Γ L gLt fLt := o_cmp
theorem o_le : OpS Γ L gLe fLe := o_cmp
theorem o_gt : OpS Γ L gGt fGt := o_cmp
theorem o_ge : OpS Γ L gGe fGe := o_cmp
def fNeg : D → Option D
  | .int i => some (.int (-i))
  | _ => none
theorem o_neg : UnS Γ L gNeg fNeg := fun t G H x dx z l e rx hz Q k => by
  cases dx <;> try (cases hz; done)
  obtain rfl := int_of rx
  cases hz
  exact ⟨_, rfl, k _ G H (At.start e l) (.int _)⟩
def isN : D → Bool
  | .non => true
  | _ => false
theorem isN_rep {G H : Hp} {v : V} {d : D} (h : RepT Γ L G H v d) : decide (v = .non) = isN d := by
  rcases h with h | ⟨p, rfl, h, _⟩
  · cases h <;> simp [isN]
  · cases h <;> simp [isN]
def fIs (x y : D) : Option D := if isN y then some (.bl (isN x)) else none
def fIsNot (x y : D) : Option D := if isN y then some (.bl (!isN x)) else none
theorem o_is : OpS Γ L gIs fIs := fun t G H x y dx dy z l e rx ry hz Q k => by
  unfold fIs at hz
  split at hz
  · rename_i h
    cases hz
    cases dy <;> try (cases h; done)
    obtain rfl := non_of ry
    refine ⟨rfl, ?_⟩
    rw [isN_rep rx]
    exact k _ G H (At.start e l) (.bl _)
  · cases hz
theorem o_isNot : OpS Γ L gIsNot fIsNot := fun t G H x y dx dy z l e rx ry hz Q k => by
  unfold fIsNot at hz
  split at hz
  · rename_i h
    cases hz
    cases dy <;> try (cases h; done)
    obtain rfl := non_of ry
    refine ⟨rfl, ?_⟩
    rw [isN_rep rx]
    exact k _ G H (At.start e l) (.bl _)
  · cases hz
/-! ### dicts -/
def keyD : D → Option Key
  | .int i => some (.inl i)
  | .str x => some (.inr x)
  | _ => none
def valD (kvs : List (Key × D)) (k : Key) : Option D := (kvs.find? fun kv => decide (kv.1 = k)).map (·.2)
theorem key_of' {G H : Hp} {v : V} {d : D} {k : Key} (r : RepT Γ L G H v d) (h : keyD d = some k) : v = kV k := by
  cases d <;> try (cases h; done)
  · cases h; exact int_of r
  · cases h; exact (str_of r).1
theorem okK_of {G H : Hp} {v : V} {d : D} {k : Key} (r : RepT Γ L G H v d) (h : keyD d = some k) : okK k = true := by
  cases d <;> try (cases h; done)
  · cases h; rfl
  · cases h; exact (str_of r).2
theorem RepK.val {G : Hp} (k : Key) : ∀ {xs : List (Key × V)} {ds : List (Key × D)}, RepK Γ L G xs ds → (valD ds k = none ∧ valV xs k = none) ∨ ∃ v d, valD ds k = some d ∧ valV xs k = some v ∧ Rep Γ L G v d
  | _, _, .nil => .inl ⟨rfl, rfl⟩
  | _, _, .cons (k := k') (v := v) (d := d) (vs := vs) (ds := ds) _ h t => by
    by_cases e : k' = k
    · refine .inr ⟨v, d, ?_, ?_, h⟩
      · show ((((k', d) :: ds).find? fun kv => decide (kv.1 = k)).map (·.2)) = _
        rw [List.find?_cons_of_pos (by simp [e])]; rfl
      · exact valV_pos (p := (k', v)) e
    · have h1 : valD ((k', d) :: ds) k = valD ds k := by
        show ((((k', d) :: ds).find? fun kv => decide (kv.1 = k)).map (·.2)) = _
        rw [List.find?_cons_of_neg (by simp [e])]; rfl
      have h2 : valV ((k', v) :: vs) k = valV vs k := valV_neg (p := (k', v)) e
      rw [h1, h2]
      exact RepK.val k t
/-! ### in -/
def flatD : D → Bool
  | .non => true
  | .bl _ => true
  | .int _ => true
  | .str _ => true
  | _ => false
def vOf : D → V
  | .non => .non
  | .bl b => .bl b
  | .int i => .int i
  | .str x => .str x
  | _ => .non
theorem flat_rep {G H : Hp} {v : V} {d : D} (r : RepT Γ L G H v d) (h : flatD d = true) : v = vOf d := by
  rcases r with r | ⟨p, rfl, o, _⟩
  · cases r <;> first | rfl | cases h
  · cases o <;> cases h
theorem flatV_vOf (d : D) (h : flatD d = true) : flatV (vOf d) = true := by cases d <;> first | rfl | cases h
theorem eqV_vOf (x y : D) (h : flatD x = true) (h' : flatD y = true) : eqV (vOf x) (vOf y) = deq 0 x y := by cases x <;> cases y <;> first | rfl | (cases h; done) | (cases h'; done)
theorem flatL {G H : Hp} : ∀ {vs : List V} {ds : List D}, RepL Γ L G vs ds → ds.all flatD = true → vs = ds.map vOf ∧ vs.all flatV = true
  | _, _, .nil, _ => ⟨rfl, rfl⟩
  | _, _, .cons h t, q => by
    rw [List.all_cons, Bool.and_eq_true] at q
    obtain ⟨a, b⟩ := flatL (H := H) t q.2
    have e := flat_rep (H := H) h.t q.1
    refine ⟨by rw [List.map_cons, ← a, ← e], ?_⟩
    rw [List.all_cons, e, flatV_vOf _ q.1, b]
    rfl
theorem inV_vOf (x : D) (h : flatD x = true) : ∀ ds : List D, ds.all flatD = true → inV (vOf x) (ds.map vOf) = ds.any fun y => deq 0 y x
  | [], _ => rfl
  | d :: ds, q => by
    rw [List.all_cons, Bool.and_eq_true] at q
    have ih := inV_vOf x h ds q.2
    unfold inV at ih ⊢
    rw [List.map_cons, List.any_cons, List.any_cons, ih, eqV_vOf _ _ q.1 h]
def inD (x : D) : D → Option Bool
  | .tup ys => if flatD x && ys.all flatD then some (ys.any fun y => deq 0 y x) else none
  | .lst ys => if plD DEP x && plD (DEP + 1) (.lst ys) then some (ys.any fun y => deq DEP y x) else none
  | .str z => match x with
    | .str a => if a.length = 1 then some (decide (a.cps.getD 0 0 ∈ z.cps.toList)) else none
    | _ => none
  | .dct kvs => match keyD x with
    | some k => some (valD kvs k).isSome
    | none => none
  | _ => none
def fIn (x y : D) : Option D := (inD x y).map .bl
def fNotIn (x y : D) : Option D := (inD x y).map fun b => .bl (!b)
theorem in_gen {G H : Hp} {x y : V} {dx dy : D} {b : Bool} (e : Exf G H) (rx : RepT Γ L G H x dx) (ry : RepT Γ L G H y dy) (hz : inD dx dy = some b) (Q : VK) :
    (Q (.bl b) H → gIn Γ.K x y H Q) ∧ (Q (.bl (!b)) H → gNotIn Γ.K x y H Q) := by
  cases dy <;> try (cases hz; done)
  · -- in a text
    rename_i z
    cases dx <;> try (cases hz; done)
    rename_i a
    unfold inD at hz
    dsimp only at hz
    split at hz
    · rename_i hl
      cases hz
      obtain ⟨rfl, _⟩ := str_of rx
      obtain ⟨rfl, _⟩ := str_of ry
      have ea : a = ⟨#[a.cps.getD 0 0]⟩ := by
        obtain ⟨cps⟩ := a
        obtain ⟨l⟩ := cps
        match l, hl with
        | [u], _ => rfl
      exact ⟨fun h => .inr (.inl ⟨_, _, by rw [← ea], rfl, h⟩), fun h => .inr (.inl ⟨_, _, by rw [← ea], rfl, h⟩)⟩
    · cases hz
  · rename_i ys
    unfold inD at hz
    dsimp only at hz
    split at hz
    · rename_i hp
      cases hz
      rw [Bool.and_eq_true] at hp
      obtain ⟨a1, a2, a3⟩ := dpT_of e rx hp.1
      obtain ⟨b1, b2, b3⟩ := dpT_of e ry hp.2
      have ea : ((ys.map (pyD DEP)).any fun z => PyData.eqv z (pyD DEP dx)) = ys.any fun y => deq DEP y dx := by
        have hy : ys.all (plD DEP) = true := hp.2
        have hx := hp.1
        rw [List.any_map]
        clear b1 b2 b3 ry hp
        induction ys with
        | nil => rfl
        | cons w ws ih =>
          rw [List.all_cons, Bool.and_eq_true] at hy
          rw [List.any_cons, List.any_cons, ih hy.2]
          show (PyData.eqv (pyD DEP w) (pyD DEP dx) || _) = _
          rw [eqv_deq _ _ _ hy.1 hx]
      refine ⟨fun h => .inr (.inr (.inr ⟨_, _, a1, b1, shaped_of a2 a3 (by decide), shaped_of b2 b3 (by decide), ?_⟩)), fun h => .inr (.inr (.inr ⟨_, _, a1, b1, shaped_of a2 a3 (by decide), shaped_of b2 b3 (by decide), ?_⟩))⟩
      · rw [ea]; exact h
      · rw [ea]; exact h
    · cases hz
  · rename_i ys
    unfold inD at hz
    dsimp only at hz
    split at hz
    · rename_i hp
      cases hz
      rw [Bool.and_eq_true] at hp
      obtain ⟨p, xs, rfl, hq, r, _, _⟩ := tup_of e ry
      obtain ⟨e1, f1⟩ := flatL (H := H) r hp.2
      have e2 := flat_rep rx hp.1
      subst e1
      subst e2
      have hi := inV_vOf dx hp.1 ys hp.2
      refine ⟨fun h => .inl ⟨p, _, rfl, .inr hq, flatV_vOf _ hp.1, f1, ?_⟩, fun h => .inl ⟨p, _, rfl, .inr hq, flatV_vOf _ hp.1, f1, ?_⟩⟩
      · show Q (.bl (inV (vOf dx) (ys.map vOf))) H
        rw [hi]; exact h
      · show Q (.bl (!inV (vOf dx) (ys.map vOf))) H
        rw [hi]; exact h
    · cases hz
  · rename_i kvs
    unfold inD at hz
    dsimp only at hz
    split at hz
    · rename_i k hk
      cases hz
      obtain ⟨p, xs, rfl, hq, r, _⟩ := dct_of e ry
      have ek := key_of' rx hk
      subst ek
      have hv : (valV xs k).isSome = (valD kvs k).isSome := by
        rcases r.val k with ⟨h1, h2⟩ | ⟨v, d, h1, h2, _⟩
        · rw [h1, h2]; rfl
        · rw [h1, h2]; rfl
      refine ⟨fun h => .inr (.inr (.inl ⟨p, _, rfl, .inl ⟨xs, k, hq, rfl, rfl⟩, ?_⟩)), fun h => .inr (.inr (.inl ⟨p, _, rfl, .inl ⟨xs, k, hq, rfl, rfl⟩, ?_⟩))⟩
      · rw [hv]; exact h
      · rw [hv]; exact h
    · cases hz
theorem o_in : OpS Γ L (gIn Γ.K) fIn := fun t G H x y dx dy z l e rx ry hz Q k => by
  obtain ⟨b, hb, ez⟩ := Option.map_eq_some_iff.mp hz
  subst ez
  exact (in_gen e rx ry hb Q).1 (k _ G H (At.start e l) (.bl _))
theorem o_notIn : OpS Γ L (gNotIn Γ.K) fNotIn := fun t G H x y dx dy z l e rx ry hz Q k => by
  obtain ⟨b, hb, ez⟩ := Option.map_eq_some_iff.mp hz
  subst ez
  exact (in_gen e rx ry hb Q).2 (k _ G H (At.start e l) (.bl _))
/-! ### x[i] -/
def fIx : D → D → Option D
  | .lst xs, .int i => atI xs i
  | .tup xs, .int i => atI xs i
  | .str s, .int i => (atI s.cps.toList i).map fun c => .str ⟨#[c]⟩
  | .dct kvs, k => match keyD k with
    | some k => valD kvs k
    | none => none
  | _, _ => none
theorem atI_rep {G : Hp} {xs : List V} {ds : List D} {i : Int} {d : D} (r : RepL Γ L G xs ds) (h : atI ds i = some d) : ∃ v, atI xs i = some v ∧ Rep Γ L G v d := by
  unfold atI at h ⊢
  rw [r.len]
  cases hx : ixN ds.length i with
  | none => rw [hx] at h; cases h
  | some j =>
    rw [hx] at h
    obtain ⟨v, hv, rv⟩ := r.at_ h
    exact ⟨v, hv, rv⟩
theorem o_ix : OpS Γ L (gIx Γ.K) fIx := fun t G H x y dx dy z l e rx ry hz Q k => by
  have dc : ∀ kvs, dx = .dct kvs → gIx Γ.K x y H Q := fun kvs ed => by
    subst ed
    unfold fIx at hz
    dsimp only at hz
    split at hz
    · rename_i kk hk
      obtain ⟨p, xs, rfl, hq, r, _⟩ := dct_of e rx
      have ek := key_of' ry hk
      subst ek
      rcases r.val kk with ⟨h1, h2⟩ | ⟨v, d, h1, h2, rv⟩
      · rw [h1] at hz; cases hz
      · rw [h1] at hz; cases hz
        exact .inr ⟨p, v, rfl, .inl ⟨xs, kk, hq, rfl, h2.symm⟩, k v G H (At.start e l) rv⟩
    · cases hz
  cases dx with
  | dct kvs => exact dc kvs rfl
  | lst xs =>
    cases dy <;> try (cases hz; done)
    obtain ⟨p, vs, rfl, hp, r1, z1⟩ := lst_of e rx
    obtain rfl := int_of ry
    obtain ⟨v, hv, rv⟩ := atI_rep r1 hz
    exact .inl (.inl ⟨p, vs, _, v, rfl, rfl, SqL.of hp, hv, k v G H (At.start e l) rv⟩)
  | tup xs =>
    cases dy <;> try (cases hz; done)
    obtain ⟨p, vs, rfl, hp, r1, z1, _⟩ := tup_of e rx
    obtain rfl := int_of ry
    obtain ⟨v, hv, rv⟩ := atI_rep r1 hz
    exact .inl (.inr (.inl ⟨p, vs, _, v, rfl, rfl, hp, hv, k v G H (At.start e l) rv⟩))
  | str s =>
    cases dy <;> try (cases hz; done)
    obtain ⟨rfl, zs⟩ := str_of rx
    obtain rfl := int_of ry
    obtain ⟨cc, hc, ec⟩ := Option.map_eq_some_iff.mp hz
    subst ec
    refine .inl (.inr (.inr ⟨s, _, cc, rfl, rfl, lim_size (okStr_len zs), hc, k _ G H (At.start e l) (.str (okStr_one ?_))⟩))
    obtain ⟨j, _, hj, _⟩ := atI_get hc
    exact okStr_cp zs (by
      have := List.mem_of_getElem? hj
      simpa using this)
  | _ => cases hz
end
end GP

set_option Elab.async false
set_option linter.all false
set_option maxRecDepth 100000
set_option maxHeartbeats 4000000
/-! G17: tuple(d) of a dict: its keys. -/
namespace GP
open PySem PySem.Spec PyProof.Rows PySem.Calls PyProof.V L2
section
variable {prog : Program} {w : World} {A : Around} {E : Value → Shared → Prop} {s : Shared} {r d : Addr} {n : Nat} {P : Nat → Value → Prop} {OK : Heap → Prop}
theorem tuple_new_src {Q1 : Value → Shared → Prop} (S : PySem.W.KdlSrc prog w "dict" r d n P OK) (hh : A.handled = none) (ok : OK s.heap) (hn : n ≤ sizeLine)
    (k : ∀ (h1 : Heap) (tk : Nat) (acc : Array Value), (∀ b o, s.heap.get? b = some o → h1.get? b = some o) → ItemsOf P acc n → Q1 (.ref h1.objs.size) { s with heap := h1.push { cls := .type "tuple", data := .seq acc }, toks := tk }) :
    codeAny (model prog w) A (.call (.builtin "tuple.__new__") ⟨[.type "tuple", .ref r], []⟩) (wants Q1 E) s := by
  refine codeAny_of_tree (wpAny_bind (wpAny_of_eq (F.newCall_tuple_1 _) (wpAny_pure ⟨plainId_quiet F.plain_tuple_new _, codeAny_builtin F.entry_tuple_new ?_⟩)))
  rw [Around.under_plainId F.plain_tuple_new _]
  have h1 := sub_tuple_self
  have h2 := init_tuple_lookup
  have h3 := madeHere_tuple
  have ty : s.TypeIs (.ref r) "dict" := S.type s ok
  have ha : A.in1.handled = none := hh
  wp_walk using wpAny_typeOf ty, PySem.W.kdu_collect (A := A.in1) S ha ok hn
  intro h' tk acc hk hacc
  show wpAny _ _ (Builtin.Tuple.tupleExact acc.toList.toArray >>= fun v => ret v) _ _ _
  unfold Builtin.Tuple.tupleExact
  have ea : acc.toList.toArray = acc := by simp
  rw [ea]
  exact wpAny_bind (wpAny_newObj_type (wpAny_pure (k h' tk acc hk hacc)) (by show acc.size ≤ sizeLine; rw [hacc.1]; exact hn))
/-- tuple(d) -/
theorem tuple_src {Q : Value → Shared → Prop} (S : PySem.W.KdlSrc prog w "dict" r d n P OK) (hh : A.handled = none) (ok : OK s.heap) (hn : n ≤ sizeLine)
    (k : ∀ (h1 : Heap) (tk : Nat) (acc : Array Value), (∀ b o, s.heap.get? b = some o → h1.get? b = some o) → ItemsOf P acc n → Q (.ref h1.objs.size) { s with heap := h1.push { cls := .type "tuple", data := .seq acc }, toks := tk }) :
    wpAny (model prog w) A (call (.type "tuple") [.ref r]) Q E s := by
  have nw := tuple_new_src (E := E) (A := A.in1) (Q1 := fun obj s1 => s1.TypeIs obj "tuple" ∧ Q obj s1) S hh ok hn fun h1 tk acc kp it => ⟨⟨_, Heap.get?_push_size _ rfl, rfl⟩, k h1 tk acc kp it⟩
  refine callType_codes F.called_tuple (F.typeCall_tuple_1 _) F.entry_object_init nw fun obj s1 z => ⟨z.1, F.args_object_init_2 obj _, ?_⟩
  exact object_init_meets F.called_tuple.init.lookup F.called_tuple.made (by decide) prog w A.in1 _ s1 ⟨z.1, rfl, z.2⟩
end
def rTupD : List V → Hp → VK → Prop := fun xs H Q => ∃ p kvs, xs = [.ref p] ∧ Rd H p (.dK kvs) ∧ ∀ q, H q = none → Q (.ref q) (upd H q (.tup (kvs.map fun kv => kV kv.1)))
theorem call_tup_dK {X : Cx} (hc : X.calm = true) : CallR X (.type "tuple") rTupD := by
  intro pins s σ H xs us Q I r h
  obtain ⟨p, kvs, rfl, hk, q⟩ := h
  obtain ⟨u, rfl, rx⟩ := vals1 r
  obtain rfl : u = Value.ref p := rx
  have hobj : ObjOk X.prog X.w H s.heap p (.dK kvs) := hk.ok I.hok
  obtain ⟨z, lo, vs, rk, hd⟩ := hobj
  obtain ⟨ep, at_⟩ := hd.dictAt
  have hl : kvs.length = vs.length := Paired.length rk
  refine tuple_src (PySem.W.kdl_dict (knd := mixKind X.prog X.w) (kvs := vs) (ep := ep) lo) (I.ok.hd hc) at_ (by omega) fun h1 tk acc kp it => ?_
  have I1 : Inv X pins σ H { s with heap := h1, toks := tk } := I.kept kp
  have la : acc.toList.length = vs.length := by rw [Array.length_toList]; exact it.1
  have rv : Vals (kvs.map fun kv => kV kv.1) acc.toList := by
    refine vals_of_at (by rw [List.length_map, la, hl]) fun j x v h2 h3 => ?_
    obtain ⟨key, y, e, hi⟩ := it.2 j v (by rw [← Array.getElem?_toList]; exact h3)
    have e1 : (kvs.map (·.1))[j]? = some key := by
      rw [KV.keys rk, List.getElem?_map, e]
      rfl
    rw [List.getElem?_map] at e1 h2
    cases hj : kvs[j]? with
    | none => rw [hj] at h2; cases h2
    | some kv =>
      rw [hj] at h2 e1
      cases h2
      cases e1
      exact keyIs_rel hi
  have I2 := I1.laid (o := .tup (kvs.map fun kv => kV kv.1)) (t' := tk) (h' := h1.push { cls := .type "tuple", data := .seq acc }) (a := h1.objs.size) (fun b o e => Heap.get?_push_of_some _ e) (Nat.le_refl _) ⟨by rw [List.length_map]; exact z, acc.toList, rv, by rw [Array.toArray_toList]; exact IsTup.new _ _⟩
  exact ⟨.ref h1.objs.size, _, I2, rfl, q _ (I1.hok.fresh (Nat.le_refl _))⟩
end GP

set_option Elab.async false
set_option linter.all false
set_option maxRecDepth 100000
set_option maxHeartbeats 4000000
/-! G6: further readings with their rules: truth, calls of built-ins, slices, texts, stores, keywords; and their data. -/
namespace GP
open PySem PySem.Spec PyProof.Rows L2
/-! ### truth -/
def tTru (K : FK) (te : TE) : TT := fun σ H Q => te σ H fun x H' => ∃ k, TruV K x H' k ∧ Q k H'
theorem pt_tru {X : Cx} {a : Expr} {ta : TE} (ha : PE X a ta) (he : ∀ whole, isTrue a X.env whole = (do let v ← whole; standAt a.pos; holding [v] (truthy v))) : PT X a (tTru X.K ta) := pt_truth ha he
def truD : D → Option Bool
  | .non => some false
  | .bl b => some b
  | .int i => some (i != 0)
  | .str x => some (x.length != 0)
  | .lst xs => some (!xs.isEmpty)
  | .tup xs => some (!xs.isEmpty)
  | _ => none
def dTru (de : DE) : DT := fun δ P => de δ fun d => match truD d with
  | some b => P b
  | none => False
section
variable {Γ : Cn} {L : LS} {c c1 c2 c3 n : Nat} {te ta tb : TE} {de da db : DE} {tt tu : TT} {dt du : DT} {ts tv : TS} {ds dv : DQ} {tA : TA} {dA : DA}
theorem isEmpty_rep {G : Hp} {xs : List V} {ys : List GP.D} (r : RepL Γ L G xs ys) : xs.isEmpty = ys.isEmpty := by cases r <;> rfl
theorem s_tru (h : ST Γ L c te de) : SB Γ L c (tTru Γ.K te) (dTru de) := fun t σ δ B G H l x e hc P hp Q k => by
  refine h t σ δ B G H l x e hc _ hp _ fun v d G1 H1 a1 r1 q1 => ?_
  split at q1
  · rename_i b hb
    refine ⟨b, ?_, k b G1 H1 a1 q1⟩
    cases d with
    | non => obtain rfl := non_of r1; cases hb; rfl
    | bl b' => obtain rfl := bl_of r1; cases hb; rfl
    | int i => obtain rfl := int_of r1; cases hb; rfl
    | str s =>
      obtain ⟨rfl, z⟩ := str_of r1
      cases hb
      refine ⟨lim_size (okStr_len z), ?_⟩
      cases hs : s.length with
      | zero => rfl
      | succ m =>
        have h1 : (m + 1 != 0) = true := by simp
        have h2 : (((m + 1 : Nat) : Int) != 0) = true := by simp; omega
        rw [h1, h2]
    | lst xs =>
      obtain ⟨p, ys, rfl, hp', r, _⟩ := lst_of a1.gh r1
      cases hb
      exact .inl ⟨ys, SqL.of hp', by rw [isEmpty_rep r]⟩
    | tup xs =>
      obtain ⟨p, ys, rfl, hp', r, _⟩ := tup_of a1.gh r1
      cases hb
      exact .inr (.inl ⟨ys, hp', by rw [isEmpty_rep r]⟩)
    | _ => cases hb
  · exact q1.elim
end
/-! ### built-in functions: readings and rules -/
def gLen (K : FK) : List V → Hp → VK → Prop := fun xs H Q => (∃ x n, xs = [x] ∧ LenV K x H n ∧ Q (.int n) H) ∨ ∃ a kvs, xs = [.ref a] ∧ Rd H a (.dK kvs) ∧ Q (.int kvs.length) H
def gIsi (K : FK) : List V → Hp → VK → Prop := fun xs H Q => rIsi K xs H Q ∨ rIsiT K xs H Q ∨ rIsiK K xs H Q
def gList (K : FK) : List V → Hp → VK → Prop := fun xs H Q => (∃ p ys, xs = [.ref p] ∧ (SqL K H p ys ∨ SqT K H p ys) ∧ ∀ l, H l = none → Q (.ref l) (upd H l (.lst ys))) ∨ rListD xs H Q
def gTuple (K : FK) : List V → Hp → VK → Prop := fun xs H Q => (∃ p ys, xs = [.ref p] ∧ ((SqL K H p ys ∧ ∀ l, H l = none → Q (.ref l) (upd H l (.tup ys))) ∨ (SqT K H p ys ∧ Q (.ref p) H))) ∨ rTupD xs H Q
def gMin (K : FK) : List V → Hp → VK → Prop := fun xs H Q => rMin K xs H Q ∨ ∃ i j, xs = [.int i, .int j] ∧ Q (.int (if j < i then j else i)) H
def gMax (K : FK) : List V → Hp → VK → Prop := fun xs H Q => rMax K xs H Q ∨ ∃ i j, xs = [.int i, .int j] ∧ Q (.int (if j > i then j else i)) H
def gStr : List V → Hp → VK → Prop := fun xs H Q => ∃ i, xs = [.int i] ∧ i.natAbs.log2 < 1920 ∧ Q (.str (toString i)) H
def gRepr (K : FK) : List V → Hp → VK → Prop := fun xs H Q => ∃ x d, xs = [x] ∧ Dp K H x d ∧ d.canLay0 = true ∧ d.showable = true ∧ d.depth ≤ 40 ∧ d.shown.length ≤ sizeLine ∧ Q (.str d.shown) H
section
variable {X : Cx}
theorem g_len : CallR X (.builtin "len") (gLen X.K) := call_len.or (by
  intro pins s σ H xs us Q I r h
  obtain ⟨a, kvs, rfl, ha, q⟩ := h
  obtain ⟨u, rfl, ru⟩ := vals1 r
  cases ru
  exact d_len I ha fun t s1 J => ⟨.int kvs.length, H, J, ⟨t, rfl⟩, q⟩)
theorem g_isi : CallR X (.builtin "isinstance") (gIsi X.K) := call_isi.or (call_isiT.or call_isiK)
theorem g_list (hc : X.calm = true) : CallR X (.type "list") (gList X.K) := call_list_of.or (call_list_dK hc)
theorem g_tuple (hc : X.calm = true) : CallR X (.type "tuple") (gTuple X.K) := call_tuple_of.or (call_tup_dK hc)
theorem g_min (hc : X.calm = true) : CallR X (.builtin "min") (gMin X.K) := (cr_min hc).or (call_min2 hc)
theorem g_max (hc : X.calm = true) : CallR X (.builtin "max") (gMax X.K) := (cr_max hc).or (call_max2 hc)
theorem g_str : CallR X (.type "str") gStr := call_str_int
theorem g_repr {k : Nat} (hr : RG k X.A) : CallR X (.builtin "repr") (gRepr X.K) := by
  intro pins s σ H xs us Q I r h
  obtain ⟨x, d, rfl, hd, hl, hs, hdp, hz, q⟩ := h
  obtain ⟨u, rfl, ru⟩ := vals1 r
  have hun := hr.rm.units
  cases hd with
  | non =>
    obtain rfl : u = Value.none := ru
    exact P.repr_of_none ⟨.str "None", H, I.tok _, ⟨_, rfl⟩, q⟩
  | bl b =>
    obtain rfl : u = Value.bool b := ru
    exact P.repr_of_bool ⟨.str (PyData.bool b).shown, H, I.tok _, ⟨s.toks, by cases b <;> rfl⟩, q⟩
  | int i =>
    obtain ⟨t, rfl⟩ := ru
    refine P.repr_of_int ?_ ⟨.str (toString i), H, I.tok _, ⟨_, rfl⟩, q⟩
    exact of_decide_eq_true hs
  | str z =>
    obtain ⟨t, rfl⟩ := ru
    exact P.repr_of_str ⟨.str (reprText z), H, I.tok _, ⟨_, rfl⟩, q⟩ hz
  | lst h1 h2 =>
    rename_i a ys ds
    obtain rfl : u = Value.ref a := ru
    obtain ⟨as, rd⟩ := Dp.reads I _ _ (Value.ref a) (Dp.lst h1 h2) rfl
    exact repr_of_reads' rd hs (PyData.noDict_hsm (PyData.hasDict_of_canLay _ hl)) hr.gd (by omega) (fun _ _ e => e) (fun h1 u tk kk => ⟨.str _, H, I.kept kk, ⟨_, rfl⟩, q⟩) hz
  | tup h1 h2 =>
    rename_i a ys ds
    obtain rfl : u = Value.ref a := ru
    obtain ⟨as, rd⟩ := Dp.reads I _ _ (Value.ref a) (Dp.tup h1 h2) rfl
    exact repr_of_reads' rd hs (PyData.noDict_hsm (PyData.hasDict_of_canLay _ hl)) hr.gd (by omega) (fun _ _ e => e) (fun h1 u tk kk => ⟨.str _, H, I.kept kk, ⟨_, rfl⟩, q⟩) hz
theorem pi_gen {tg e : Expr} {te : TE} (h : PE X e te) : PI X tg e (gIter X.K te) := by
  refine ⟨fun pins s σ H R I hw => thn (h.run pins s σ H _ I hw) fun v s1 z => ?_⟩
  obtain ⟨x, H1, I1, r1, q1⟩ := z
  rcases q1 with ⟨a, rfl, ⟨xs, hq⟩, q⟩ | ⟨a, rfl, ⟨xs, hq⟩, q⟩ | ⟨y, rfl, q⟩
  · obtain rfl : v = Value.ref a := r1
    obtain ⟨its, rv, p, hz⟩ := I1.list hq
    exact wpAny_pyIter_list p.isList (pi_one (tk := s1.toks) I1 _ (turn_list a _) ⟨_, Heap.get?_push_size _ rfl, rfl, rfl⟩ q)
  · obtain rfl : v = Value.ref a := r1
    obtain ⟨its, rv, p, hz⟩ := I1.tuple hq
    exact wpAny_pyIter_tuple (show s1.heap.IsTuple a its.toArray from p) (pi_one (tk := s1.toks) I1 _ (turn_tuple a _) ⟨_, Heap.get?_push_size _ rfl, rfl, rfl⟩ q)
  · obtain ⟨t, rfl⟩ := r1
    by_cases ha : y.cps.all (· < 128) = true
    · exact wpAny_pyIter_ascii ha (pi_one (tk := s1.toks) I1 _ (turn_str _ y t "str_ascii_iterator" (.inl rfl)) ⟨_, Heap.get?_push_size _ rfl, rfl, rfl⟩ q)
    · exact wpAny_pyIter_wide (Bool.not_eq_true _ ▸ ha) (pi_one (tk := s1.toks) I1 _ (turn_str _ y t "str_iterator" (.inr rfl)) ⟨_, Heap.get?_push_size _ rfl, rfl, rfl⟩ q)
end
end GP

set_option Elab.async false
set_option linter.all false
set_option maxRecDepth 100000
set_option maxHeartbeats 4000000
/-! G7: built-in calls, slices, texts, parallel assignments and stores on data; a def by its data. -/
namespace GP
open PySem PySem.Spec PyProof.Rows L2
section
variable {Γ : Cn} {L : LS} {c c1 c2 c3 n : Nat} {te ta tb : TE} {de da db : DE} {tt tu : TT} {dt du : DT} {ts tv : TS} {ds dv : DQ} {tA : TA} {dA : DA}
theorem one_of {G H : Hp} {xs : List V} {d : D} (h : RepTL Γ L G H xs [d]) : ∃ v, xs = [v] ∧ RepT Γ L G H v d := by
  cases h with
  | cons h t => cases t; exact ⟨_, rfl, h⟩
theorem two_of {G H : Hp} {xs : List V} {d e : D} (h : RepTL Γ L G H xs [d, e]) : ∃ v w, xs = [v, w] ∧ RepT Γ L G H v d ∧ RepT Γ L G H w e := by
  cases h with
  | cons h t => cases t with
    | cons h2 t => cases t; exact ⟨_, _, rfl, h, h2⟩
/-! ### len -/
def fLen : List D → Option D
  | [.str x] => some (.int x.length)
  | [.lst xs] => some (.int xs.length)
  | [.tup xs] => some (.int xs.length)
  | [.dct xs] => some (.int xs.length)
  | _ => none
theorem RepK.len {G : Hp} : ∀ {v : List (Key × V)} {d : List (Key × D)}, RepK Γ L G v d → v.length = d.length
  | _, _, .nil => rfl
  | _, _, .cons _ _ t => congrArg (· + 1) (RepK.len t)
theorem k_len : CallS Γ L (gLen Γ.K) fLen := fun t G H xs ds z l e r0 hz Q k => by
  unfold fLen at hz
  split at hz
  · cases hz
    obtain ⟨v, rfl, r⟩ := one_of r0
    obtain ⟨rfl, zs⟩ := str_of r
    exact .inl ⟨_, _, rfl, ⟨lim_size (okStr_len zs), rfl⟩, k _ G H (At.start e l) (.int _)⟩
  · cases hz
    obtain ⟨v, rfl, r⟩ := one_of r0
    obtain ⟨p, ys, rfl, hp, r1, z1⟩ := lst_of e r
    exact .inl ⟨_, _, rfl, .inl ⟨ys, SqL.of hp, rfl⟩, by rw [r1.len]; exact k _ G H (At.start e l) (.int _)⟩
  · cases hz
    obtain ⟨v, rfl, r⟩ := one_of r0
    obtain ⟨p, ys, rfl, hp, r1, z1, _⟩ := tup_of e r
    exact .inl ⟨_, _, rfl, .inr ⟨ys, hp, rfl⟩, by rw [r1.len]; exact k _ G H (At.start e l) (.int _)⟩
  · cases hz
    obtain ⟨v, rfl, r⟩ := one_of r0
    obtain ⟨p, ys, rfl, hp, r1, z1⟩ := dct_of e r
    exact .inr ⟨_, _, rfl, hp, by rw [r1.len]; exact k _ G H (At.start e l) (.int _)⟩
  · cases hz
/-! ### isinstance, of built-in classes -/
def tyNm : D → Option String
  | .non => some "NoneType"
  | .bl _ => some "bool"
  | .int _ => some "int"
  | .str _ => some "str"
  | .lst _ => some "list"
  | .tup _ => some "tuple"
  | .dct _ => some "dict"
  | _ => none
def isTy (a b : String) : Option Bool := if ["str", "int", "bool", "list", "tuple", "dict"].contains b then some (a == b || (a == "bool" && b == "int")) else none
theorem kitB_all : (["NoneType", "bool", "int", "str", "list", "tuple", "dict"].all fun a => ["str", "int", "bool", "list", "tuple", "dict"].all fun b => kitB a b == some (a == b || (a == "bool" && b == "int"))) = true := by decide +kernel
theorem kit_is {K : FK} {a b : String} {r : Bool} (ha : a ∈ ["NoneType", "bool", "int", "str", "list", "tuple", "dict"]) (h : isTy a b = some r) : PySem.W.kitOne K (.type a) (.type b) = some r := by
  unfold isTy at h
  split at h
  · rename_i hb
    have h1 := List.all_eq_true.mp kitB_all a ha
    have h2 := List.all_eq_true.mp h1 b (by simpa using hb)
    have h3 : kitB a b = some (a == b || (a == "bool" && b == "int")) := by simpa using h2
    rw [h] at h3
    exact kit_ty h3
  · cases h
theorem ty_of {G H : Hp} (x : Exf G H) {v : V} {d : D} {a : String} (r : RepT Γ L G H v d) (h : tyNm d = some a) : TyX Γ.K H v (.type a) ∧ a ∈ ["NoneType", "bool", "int", "str", "list", "tuple", "dict"] := by
  cases d with
  | non => obtain rfl := non_of r; cases h; exact ⟨.base .non, by decide⟩
  | bl b => obtain rfl := bl_of r; cases h; exact ⟨.base (.bl b), by decide⟩
  | int i => obtain rfl := int_of r; cases h; exact ⟨.base (.int i), by decide⟩
  | str s => obtain ⟨rfl, _⟩ := str_of r; cases h; exact ⟨.base (.str s), by decide⟩
  | lst xs => obtain ⟨p, ys, rfl, hp, _⟩ := lst_of x r; cases h; exact ⟨.base (.lst hp), by decide⟩
  | tup xs =>
    obtain ⟨p, ys, rfl, hp, _⟩ := tup_of x r
    cases h
    refine ⟨?_, by decide⟩
    rcases hp with (hp | ⟨o, hp⟩) | ⟨o, its, n, hk, hcl, _⟩
    · exact .base (.tup hp)
    · exact .fTuple hp
    · exact .kTuple hk hcl
  | dct xs =>
    obtain ⟨p, ys, rfl, hp, _⟩ := dct_of x r
    cases h
    refine ⟨?_, by decide⟩
    rcases hp with hp | ⟨o, hp⟩
    · exact .base (.dK hp)
    · exact .fDict hp
  | _ => cases h
def tysD : List D → Option (List String)
  | [] => some []
  | .ty a :: r => (tysD r).map (a :: ·)
  | _ => none
def anyTy (a : String) : List String → Option Bool
  | [] => some false
  | b :: r => match isTy a b with
    | some true => some true
    | some false => anyTy a r
    | none => none
def fIsi : List D → Option D
  | [d, .ty b] => match tyNm d with
    | some a => (isTy a b).map .bl
    | none => none
  | [d, .tup cs] => match tyNm d, tysD cs with
    | some a, some bs => (anyTy a bs).map .bl
    | _, _ => none
  | _ => none
theorem tys_rep {G : Hp} : ∀ {vs : List V} {ds : List D} {bs : List String}, RepL Γ L G vs ds → tysD ds = some bs → vs = bs.map V.ty ∧ Paired ClsV vs (bs.map Value.type)
  | _, _, _, .nil, h => by cases h; exact ⟨rfl, .nil⟩
  | _, _, _, .cons (d := d) hr t, h => by
    cases d <;> try (cases h; done)
    obtain ⟨bs', hb, eb⟩ := Option.map_eq_some_iff.mp h
    subst eb
    cases hr
    obtain ⟨e1, p1⟩ := tys_rep t hb
    exact ⟨by rw [e1]; rfl, .cons (.ty _) p1⟩
theorem kit_any {K : FK} {a : String} (ha : a ∈ ["NoneType", "bool", "int", "str", "list", "tuple", "dict"]) : ∀ {bs : List String} {r : Bool}, anyTy a bs = some r → PySem.W.kitAny K (.type a) (bs.map Value.type) = some r
  | [], r, h => by cases h; exact kitAny_nil
  | b :: bs, r, h => by
    unfold anyTy at h
    split at h
    · rename_i hb; cases h; exact kitAny_cons (kit_is ha hb) (fun z => by cases z) (fun _ => rfl)
    · rename_i hb; exact kitAny_cons (kit_is ha hb) (fun _ => kit_any ha h) (fun z => by cases z)
    · cases h
theorem k_isi : CallS Γ L (gIsi Γ.K) fIsi := fun t G H xs ds z l e r0 hz Q k => by
  unfold fIsi at hz
  split at hz
  · split at hz
    · rename_i a ha
      obtain ⟨b, hb, ez⟩ := Option.map_eq_some_iff.mp hz
      subst ez
      obtain ⟨v, w, rfl, r1, r2⟩ := two_of r0
      obtain ⟨ty, hm⟩ := ty_of e r1 ha
      rcases r2 with r2 | ⟨p, _, o, _⟩
      · cases r2
        exact .inl ⟨_, _, _, _, b, rfl, .ty _, ty, kit_is hm hb, k _ G H (At.start e l) (.bl _)⟩
      · cases o
    · cases hz
  · split at hz
    · rename_i a bs ha hbs
      obtain ⟨b, hb, ez⟩ := Option.map_eq_some_iff.mp hz
      subst ez
      obtain ⟨v, w, rfl, r1, r2⟩ := two_of r0
      obtain ⟨ty, hm⟩ := ty_of e r1 ha
      rcases r2 with r2 | ⟨p, _, o, _⟩
      · cases r2 with
        | tup hh rr zz =>
          obtain ⟨e1, p1⟩ := tys_rep rr hbs
          rcases hh with hh | ⟨o, its, n, hk, hcl, hd, _, hv⟩
          · rcases e _ _ hh with q | ⟨_, _, q, _⟩
            · exact .inr (.inl ⟨_, _, _, _, _, b, rfl, q, p1, ty, kit_any hm hb, k _ G H (At.start e l) (.bl _)⟩)
            · cases q
          · obtain ⟨ocl, odd, oda, osl⟩ := o
            dsimp only at hcl hd
            subst hcl
            subst hd
            have eu : its.toList = bs.map Value.type := ClsV.all p1 hv
            have ei : its = (bs.map Value.type).toArray := by rw [← eu]
            rw [ei] at hk
            exact .inr (.inr ⟨_, _, _, bs.map Value.type, _, _, _, b, rfl, hk, ty, kit_any hm hb, k _ G H (At.start e l) (.bl _)⟩)
      · cases o
    · cases hz
  · cases hz
end
end GP

set_option Elab.async false
set_option linter.all false
set_option maxRecDepth 100000
set_option maxHeartbeats 4000000
/-! G8: further built-in calls, slices, texts, stores, a def by its data. -/
namespace GP
open PySem PySem.Spec PyProof.Rows L2
section
variable {Γ : Cn} {L : LS} {c c1 c2 c3 n : Nat} {te ta tb : TE} {de da db : DE} {tt tu : TT} {dt du : DT} {ts tv : TS} {ds dv : DQ} {tA : TA} {dA : DA}
/-! ### list(..), tuple(..) -/
def fList : List D → Option D
  | [.lst xs] => some (.lst xs)
  | [.tup xs] => some (.lst xs)
  | _ => none
theorem k_list : CallF Γ L (gList Γ.K) fList := fun t G H xs ds z l e r0 hz Q k => by
  unfold fList at hz
  split at hz
  · cases hz
    obtain ⟨v, rfl, r⟩ := one_of r0
    obtain ⟨p, ys, rfl, hp, r1, z1⟩ := lst_of e r
    exact .inl ⟨_, _, rfl, .inl (SqL.of hp), fun q nq => k q _ _ (At.newH e l nq) nq (.lst upd_same r1 z1) (e.none nq)⟩
  · cases hz
    obtain ⟨v, rfl, r⟩ := one_of r0
    obtain ⟨p, ys, rfl, hp, r1, z1, _⟩ := tup_of e r
    exact .inl ⟨_, _, rfl, .inr hp, fun q nq => k q _ _ (At.newH e l nq) nq (.lst upd_same r1 z1) (e.none nq)⟩
  · cases hz
def kD : Key → D
  | .inl i => .int i
  | .inr x => .str x
theorem RepK.keys {G : Hp} : ∀ {xs : List (Key × V)} {ds : List (Key × D)}, RepK Γ L G xs ds → RepL Γ L G (xs.map fun kv => kV kv.1) (ds.map fun kv => kD kv.1)
  | _, _, .nil => .nil
  | _, _, .cons (k := k) o _ t => by
    refine .cons ?_ (RepK.keys t)
    cases k with
    | inl i => exact .int i
    | inr x => exact .str o
def fTuple : List D → Option D
  | [.lst xs] => some (.tup xs)
  | [.tup xs] => some (.tup xs)
  | [.dct kvs] => some (.tup (kvs.map fun kv => kD kv.1))
  | _ => none
theorem k_tuple : CallS Γ L (gTuple Γ.K) fTuple := fun t G H xs ds z l e r0 hz Q k => by
  unfold fTuple at hz
  split at hz
  · cases hz
    obtain ⟨v, rfl, r⟩ := one_of r0
    obtain ⟨p, ys, rfl, hp, r1, z1⟩ := lst_of e r
    refine .inl ⟨_, _, rfl, .inl ⟨SqL.of hp, fun q nq => ?_⟩⟩
    have a2 := At.new (o := .tup ys) e l nq
    exact k _ _ _ a2 (.tup (.inl upd_same) (r1.up a2.gg) z1)
  · cases hz
    obtain ⟨v, rfl, r⟩ := one_of r0
    obtain ⟨p, ys, rfl, hp, r1, z1, g1⟩ := tup_of e r
    exact .inl ⟨_, _, rfl, .inr ⟨hp, k _ G H (At.start e l) (.tup g1 r1 z1)⟩⟩
  · cases hz
    obtain ⟨v, rfl, r⟩ := one_of r0
    obtain ⟨p, ys, rfl, hp, r1, z1⟩ := dct_of e r
    refine .inr ⟨p, ys, rfl, hp, fun q nq => ?_⟩
    have a2 := At.new (o := .tup (ys.map fun kv => kV kv.1)) e l nq
    exact k _ _ _ a2 (.tup (.inl upd_same) (r1.keys.up a2.gg) (by rw [List.length_map]; exact z1))
  · cases hz
/-! ### all, any, sum, min, max -/
def blsD : List D → Option (List Bool)
  | [] => some []
  | .bl a :: r => (blsD r).map (a :: ·)
  | _ => none
def intsD : List D → Option (List Int)
  | [] => some []
  | .int a :: r => (intsD r).map (a :: ·)
  | _ => none
def strsD : List D → Option (List Str)
  | [] => some []
  | .str a :: r => (strsD r).map (a :: ·)
  | _ => none
theorem bls_rep {G : Hp} : ∀ {vs : List V} {ds : List D} {bs : List Bool}, RepL Γ L G vs ds → blsD ds = some bs → vs = bs.map V.bl
  | _, _, _, .nil, h => by cases h; rfl
  | _, _, _, .cons (d := d) hr t, h => by
    cases d <;> try (cases h; done)
    obtain ⟨bs', hb, eb⟩ := Option.map_eq_some_iff.mp h
    subst eb
    cases hr
    rw [bls_rep t hb]; rfl
theorem ints_rep {G : Hp} : ∀ {vs : List V} {ds : List D} {bs : List Int}, RepL Γ L G vs ds → intsD ds = some bs → vs = bs.map V.int
  | _, _, _, .nil, h => by cases h; rfl
  | _, _, _, .cons (d := d) hr t, h => by
    cases d <;> try (cases h; done)
    obtain ⟨bs', hb, eb⟩ := Option.map_eq_some_iff.mp h
    subst eb
    cases hr
    rw [ints_rep t hb]; rfl
theorem strs_rep {G : Hp} : ∀ {vs : List V} {ds : List D} {bs : List Str}, RepL Γ L G vs ds → strsD ds = some bs → vs = bs.map V.str ∧ ∀ x ∈ bs, okStr x = true
  | _, _, _, .nil, h => by cases h; exact ⟨rfl, fun _ m => by cases m⟩
  | _, _, _, .cons (d := d) hr t, h => by
    cases d <;> try (cases h; done)
    obtain ⟨bs', hb, eb⟩ := Option.map_eq_some_iff.mp h
    subst eb
    cases hr with
    | str z =>
      obtain ⟨e1, e2⟩ := strs_rep t hb
      refine ⟨by rw [e1]; rfl, fun x m => ?_⟩
      rcases List.mem_cons.mp m with h | h
      · rw [h]; exact z
      · exact e2 x h
def fAll : List D → Option D
  | [.lst xs] => (blsD xs).map fun bs => .bl (bs.all id)
  | _ => none
def fAny : List D → Option D
  | [.lst xs] => (blsD xs).map fun bs => .bl (bs.any id)
  | _ => none
def fSum : List D → Option D
  | [.lst xs] => (intsD xs).map fun bs => .int bs.sum
  | _ => none
def minL : List Int → Option Int
  | [] => none
  | [x] => some x
  | x :: r => (minL r).map fun m => if x ≤ m then x else m
def fMin : List D → Option D
  | [.lst xs] => match intsD xs with
    | some bs => (minL bs).map .int
    | none => none
  | [.int i, .int j] => some (.int (if j < i then j else i))
  | _ => none
def fMax2 : List D → Option D
  | [.int i, .int j] => some (.int (if j > i then j else i))
  | _ => none
theorem k_all : CallS Γ L (rAll Γ.K) fAll := fun t G H xs ds z l e r0 hz Q k => by
  unfold fAll at hz
  split at hz
  · obtain ⟨bs, hb, ez⟩ := Option.map_eq_some_iff.mp hz
    subst ez
    obtain ⟨v, rfl, r⟩ := one_of r0
    obtain ⟨p, ys, rfl, hp, r1, z1⟩ := lst_of e r
    have ey := bls_rep r1 hb
    subst ey
    exact ⟨_, bs, rfl, SqL.of hp, k _ G H (At.start e l) (.bl _)⟩
  · cases hz
theorem k_any : CallS Γ L (rAny Γ.K) fAny := fun t G H xs ds z l e r0 hz Q k => by
  unfold fAny at hz
  split at hz
  · obtain ⟨bs, hb, ez⟩ := Option.map_eq_some_iff.mp hz
    subst ez
    obtain ⟨v, rfl, r⟩ := one_of r0
    obtain ⟨p, ys, rfl, hp, r1, z1⟩ := lst_of e r
    have ey := bls_rep r1 hb
    subst ey
    exact ⟨_, bs, rfl, SqL.of hp, k _ G H (At.start e l) (.bl _)⟩
  · cases hz
theorem k_sum : CallS Γ L (rSum Γ.K) fSum := fun t G H xs ds z l e r0 hz Q k => by
  unfold fSum at hz
  split at hz
  · obtain ⟨bs, hb, ez⟩ := Option.map_eq_some_iff.mp hz
    subst ez
    obtain ⟨v, rfl, r⟩ := one_of r0
    obtain ⟨p, ys, rfl, hp, r1, z1⟩ := lst_of e r
    have ey := ints_rep r1 hb
    subst ey
    exact ⟨_, bs, rfl, SqL.of hp, k _ G H (At.start e l) (.int _)⟩
  · cases hz
theorem minL_le : ∀ {l : List Int} {m : Int}, minL l = some m → m ∈ l ∧ ∀ y ∈ l, m ≤ y
  | [], _, h => by cases h
  | [x], m, h => by
    cases h
    exact ⟨List.mem_singleton.mpr rfl, fun y hy => by rw [List.mem_singleton.mp hy]; exact Int.le_refl _⟩
  | x :: y :: r, m, h => by
    obtain ⟨m', hm, em⟩ := Option.map_eq_some_iff.mp h
    obtain ⟨h1, h2⟩ := minL_le hm
    subst em
    split
    · rename_i hx
      refine ⟨List.mem_cons_self, fun w hw => ?_⟩
      rcases List.mem_cons.mp hw with e | e
      · rw [e]; exact Int.le_refl _
      · exact Int.le_trans hx (h2 w e)
    · rename_i hx
      refine ⟨List.mem_cons_of_mem _ h1, fun w hw => ?_⟩
      rcases List.mem_cons.mp hw with e | e
      · rw [e]; omega
      · exact h2 w e
theorem k_min : CallS Γ L (gMin Γ.K) fMin := fun t G H xs ds z l e r0 hz Q k => by
  unfold fMin at hz
  split at hz
  · split at hz
    · rename_i bs hb
      obtain ⟨m, hm, ez⟩ := Option.map_eq_some_iff.mp hz
      subst ez
      obtain ⟨v, rfl, r⟩ := one_of r0
      obtain ⟨p, ys, rfl, hp, r1, z1⟩ := lst_of e r
      have ey := ints_rep r1 hb
      subst ey
      obtain ⟨h1, h2⟩ := minL_le hm
      refine .inl ⟨_, bs, rfl, SqL.of hp, List.length_pos_of_mem h1, fun w hw hle => ?_⟩
      have ew : w = m := Int.le_antisymm (hle m h1) (h2 w hw)
      subst ew
      exact k _ G H (At.start e l) (.int _)
    · cases hz
  · cases hz
    obtain ⟨v, w, rfl, r1, r2⟩ := two_of r0
    obtain rfl := int_of r1
    obtain rfl := int_of r2
    exact .inr ⟨_, _, rfl, k _ G H (At.start e l) (.int _)⟩
  · cases hz
theorem k_max : CallS Γ L (gMax Γ.K) fMax2 := fun t G H xs ds z l e r0 hz Q k => by
  unfold fMax2 at hz
  split at hz
  · cases hz
    obtain ⟨v, w, rfl, r1, r2⟩ := two_of r0
    obtain rfl := int_of r1
    obtain rfl := int_of r2
    exact .inr ⟨_, _, rfl, k _ G H (At.start e l) (.int _)⟩
  · cases hz
/-! ### str, repr -/
def fStr : List D → Option D
  | [.int i] => if smI i && okStr (toString i) then some (.str (toString i)) else none
  | _ => none
theorem smI_log {i : Int} (h : smI i = true) : i.natAbs.log2 < 1920 := by
  have h1 := smI_ok h
  have h2 : i.natAbs < 2 ^ 64 := by omega
  by_cases z : i.natAbs = 0
  · rw [z]; decide
  · have := (Nat.log2_lt z).mpr h2
    omega
theorem k_str : CallS Γ L gStr fStr := fun t G H xs ds z l e r0 hz Q k => by
  unfold fStr at hz
  split at hz
  · split at hz
    · rename_i hs
      cases hz
      rw [Bool.and_eq_true] at hs
      obtain ⟨v, rfl, r⟩ := one_of r0
      obtain rfl := int_of r
      exact ⟨_, rfl, smI_log hs.1, k _ G H (At.start e l) (.str hs.2)⟩
    · cases hz
  · cases hz
def fRepr : List D → Option D
  | [d] => if plD DEP d && (pyD DEP d).showable && decide ((pyD DEP d).shown.length ≤ sizeLine) then some (.raw (pyD DEP d).shown) else none
  | _ => none
theorem k_repr : CallS Γ L (gRepr Γ.K) fRepr := fun t G H xs ds z l e r0 hz Q k => by
  unfold fRepr at hz
  split at hz
  · split at hz
    · rename_i hs
      cases hz
      rw [Bool.and_eq_true, Bool.and_eq_true, decide_eq_true_eq] at hs
      obtain ⟨⟨h1, h2⟩, h3⟩ := hs
      obtain ⟨v, rfl, r⟩ := one_of r0
      obtain ⟨a1, a2, a3⟩ := dpT_of e r h1
      exact ⟨_, _, rfl, a1, a2, h2, Nat.le_trans a3 (by decide), h3, k _ G H (At.start e l) (.raw _)⟩
    · cases hz
  · cases hz
/-! ### slices -/
abbrev DO := DS → (Option Int → Prop) → Prop
def SO (Γ : Cn) (L : LS) (c : Nat) (to : TO) (d : DO) : Prop := ∀ (t : Nat) (σ : L2.St) (δ : DS) (B G H : Hp), LawAt L t G H → Exf G H → Env Γ L B G H σ δ → t + c ≤ TMAX → ∀ P : Option Int → Prop, d δ P → ∀ Q : Option Int → Hp → Prop,
  (∀ o G' H', At L (t + c) H G G' H' → P o → Q o H') → to σ H Q
def dNoPart : DO := fun _ P => P none
def dPart (d : DE) : DO := fun δ P => d δ fun x => match x with
  | .int i => P (some i)
  | _ => False
theorem s_noPart : SO Γ L 0 tNoPart dNoPart := fun t σ δ B G H l x e hc P hp Q k => k none G H (At.start x l) hp
theorem s_part (h : ST Γ L c te de) : SO Γ L c (tPart te) (dPart de) := fun t σ δ B G H l x e hc P hp Q k => by
  refine h t σ δ B G H l x e hc _ hp _ fun v d G1 H1 a1 r1 q1 => ?_
  cases d with
  | int i => obtain rfl := int_of r1; exact ⟨i, rfl, k _ G1 H1 a1 q1⟩
  | _ => exact q1.elim
def cutD {α : Type} (xs : List α) (lo hi : Option Int) : List α := (xs.drop (HT.sIx xs.length 0 lo)).take (HT.sIx xs.length xs.length hi - HT.sIx xs.length 0 lo)
def fSl (lo hi : Option Int) : D → Option D
  | .lst xs => some (.lst (cutD xs lo hi))
  | .tup xs => some (.tup (cutD xs lo hi))
  | .str s => some (.str ⟨(cutD s.cps.toList lo hi).toArray⟩)
  | _ => none
theorem cutD_len {α : Type} (xs : List α) (lo hi : Option Int) : (cutD xs lo hi).length ≤ xs.length := by
  unfold cutD
  rw [List.length_take, List.length_drop]
  omega
theorem cutD_sub {α : Type} (xs : List α) (lo hi : Option Int) {x : α} (h : x ∈ cutD xs lo hi) : x ∈ xs := List.mem_of_mem_drop (List.mem_of_mem_take h)
theorem cutD_whole {α : Type} (xs : List α) (lo hi : Option Int) (h : HT.sIx xs.length 0 lo = 0 ∧ HT.sIx xs.length xs.length hi = xs.length) : cutD xs lo hi = xs := by
  unfold cutD
  rw [h.1, h.2]
  simp
theorem cut_rep {G : Hp} {vs : List V} {ds : List D} (r : RepL Γ L G vs ds) (lo hi : Option Int) : RepL Γ L G (cutV vs lo hi) (cutD ds lo hi) := by
  unfold cutV cutD
  rw [r.len]
  exact (r.drop _).take _
def dSl (d : DE) (lo hi : DO) : DE := fun δ P => d δ fun x => lo δ fun l => hi δ fun h => match fSl l h x with
  | some z => P z
  | none => False
theorem s_sl {tl th : TO} {dl dh : DO} (h : ST Γ L c1 te de) (hl : SO Γ L c2 tl dl) (hh : SO Γ L c3 th dh) : SE Γ L (c1 + (c2 + c3)) (tSl (gSl Γ.K) te tl th) (dSl de dl dh) := fun t σ δ B G H l x e hc P hp Q k => by
  refine h t σ δ B G H l x e (by omega) _ hp _ fun v d G1 H1 a1 r1 q1 => ?_
  refine hl (t + c1) σ δ B G1 H1 a1.lw a1.gh (e.step a1) (by omega) _ q1 _ fun lo G2 H2 a2 q2 => ?_
  refine hh (t + c1 + c2) σ δ B G2 H2 a2.lw a2.gh ((e.step a1).step a2) (by omega) _ q2 _ fun hi G3 H3 a3 q3 => ?_
  have r3 := (r1.step a2).step a3
  have a := (a1.tr a2).tr a3
  have ec : t + c1 + c2 + c3 = t + (c1 + (c2 + c3)) := by omega
  rw [ec] at a
  split at q3
  · rename_i z hz
    cases d with
    | lst xs =>
      cases hz
      obtain ⟨p, ys, rfl, hp', r, zz⟩ := lst_of a.gh r3
      refine .inl ⟨_, _, rfl, SqL.of hp', fun q nq => ?_⟩
      have a4 := At.new (o := .lst (cutV ys lo hi)) a.gh a.lw nq
      exact k _ _ _ _ (a.tr a4) (.lst upd_same ((cut_rep r lo hi).up a4.gg) (Nat.le_trans (cutD_len _ _ _) zz)) q3
    | tup xs =>
      cases hz
      obtain ⟨p, ys, rfl, hp', r, zz, g0⟩ := tup_of a.gh r3
      refine .inr (.inl ⟨_, _, rfl, hp', fun hw => ?_, fun hw q nq => ?_⟩)
      · rw [r.len] at hw
        rw [cutD_whole _ _ _ hw] at q3
        exact k _ _ _ _ a (.tup g0 r zz) q3
      · have a4 := At.new (o := .tup (cutV ys lo hi)) a.gh a.lw nq
        exact k _ _ _ _ (a.tr a4) (.tup (.inl upd_same) ((cut_rep r lo hi).up a4.gg) (Nat.le_trans (cutD_len _ _ _) zz)) q3
    | str s =>
      cases hz
      obtain ⟨rfl, zs⟩ := str_of r3
      refine .inr (.inr ⟨s, rfl, lim_size (okStr_len zs), ?_⟩)
      have ek : cutS s lo hi = ⟨(cutD s.cps.toList lo hi).toArray⟩ := by
        unfold cutS cutD
        rw [Array.length_toList]
        rfl
      rw [ek]
      refine k _ _ _ _ a (.str (okStr_of ?_ ?_)) q3
      · have h1 := cutD_len s.cps.toList lo hi
        rw [Array.length_toList] at h1
        have h2 := okStr_len zs
        show ((cutD s.cps.toList lo hi).toArray).size ≤ LIM
        rw [List.size_toArray]
        exact Nat.le_trans h1 h2
      · intro cc hcc
        have := cutD_sub _ _ _ (List.mem_toArray.mp hcc)
        exact okStr_cp zs (by simpa using this)
    | _ => cases hz
  · exact q3.elim
/-! ### texts -/
def gSplit : V → List V → Hp → VK → Prop := fun x xs H Q => ∃ a b, x = .str a ∧ xs = [.str b] ∧ (b.length == 0) = false ∧ a.length + 2 ≤ sizeLine ∧ rNewStrs (Txt.split a b) H Q
def gJoin (K : FK) : V → List V → Hp → VK → Prop := fun x xs H Q => ∃ a p, ∃ ys : List Str, x = .str a ∧ xs = [.ref p] ∧ (SqL K H p (ys.map V.str) ∨ SqT K H p (ys.map V.str)) ∧ (ys.map (·.length)).sum + ys.length * a.length ≤ 16777216 ∧ Q (.str (Txt.join a ys)) H
theorem pe_splitG {X : Cx} {o e : Expr} {to te : TE} {apos pos : Pos} (ho : PE X o to) (he : PE X e te) (hs : starEach [e] X.env = [(false, eval e X.env)] := by rfl) (hb : attributeBase o "split" X.env (eval o X.env) = eval o X.env := by rfl) (hl : (apos.endLine == pos.line) = true := by rfl) :
    PE X (.Call (.Attribute o "split" apos) [e] [] pos) (tM1 gSplit to te) := pe_split ho he hs hb hl
theorem pe_joinG {X : Cx} {o e : Expr} {to te : TE} {apos pos : Pos} (ho : PE X o to) (he : PE X e te) (hs : starEach [e] X.env = [(false, eval e X.env)] := by rfl) (hb : attributeBase o "join" X.env (eval o X.env) = eval o X.env := by rfl) (hl : (apos.endLine == pos.line) = true := by rfl) :
    PE X (.Call (.Attribute o "join" apos) [e] [] pos) (tM1 (gJoin X.K) to te) := pe_join ho he hs hb hl
def dM1 (f : Str → D → Option D) (a b : DE) : DE := fun δ P => a δ fun x => match x with
  | .str s => b δ fun y => match f s y with
    | some z => P z
    | none => False
  | _ => False
def MtS (Γ : Cn) (L : LS) (r : V → List V → Hp → VK → Prop) (f : Str → D → Option D) : Prop := ∀ (t : Nat) (G H : Hp) (s : Str) (y : V) (dy z : D), LawAt L t G H → Exf G H → okStr s = true → RepT Γ L G H y dy → f s dy = some z → ∀ Q : VK,
  (∀ v G' H', At L t H G G' H' → Rep Γ L G' v z → Q v H') → r (.str s) [y] H Q
theorem s_m1 {r : V → List V → Hp → VK → Prop} {f : Str → D → Option D} (ho : MtS Γ L r f) (ha : ST Γ L c1 ta da) (hb : ST Γ L c2 tb db) : SE Γ L (c1 + c2) (tM1 r ta tb) (dM1 f da db) := fun t σ δ B G H l x e hc P hp Q k => by
  refine ha t σ δ B G H l x e (by omega) _ hp _ fun v d G1 H1 a1 r1 q1 => ?_
  cases d with
  | str s =>
    obtain ⟨rfl, zs⟩ := str_of r1
    refine ⟨⟨s, rfl⟩, hb (t + c1) σ δ B G1 H1 a1.lw a1.gh (e.step a1) (by omega) _ q1 _ fun w d2 G2 H2 a2 r2 q2 => ?_⟩
    split at q2
    · rename_i z hz
      exact ho (t + c1 + c2) G2 H2 s w d2 z a2.lw a2.gh zs r2 hz Q fun u G3 H3 a3 r3 => k u z G3 H3 (by rw [← Nat.add_assoc]; exact (a1.tr a2).tr a3) r3 q2
    · exact q2.elim
  | _ => exact q1.elim
def fSplit (s : Str) : D → Option D
  | .str b => if (b.length != 0) && (Txt.split s b).all okStr && decide ((Txt.split s b).length ≤ LIM) then some (.lst ((Txt.split s b).map .str)) else none
  | _ => none
theorem RepL.strs {G : Hp} : ∀ {xs : List Str}, xs.all okStr = true → RepL Γ L G (xs.map V.str) (xs.map GP.D.str)
  | [], _ => .nil
  | x :: xs, h => by
    rw [List.all_cons, Bool.and_eq_true] at h
    exact .cons (.str h.1) (RepL.strs h.2)
theorem m_split : MtS Γ L gSplit fSplit := fun t G H s y dy z l e zs ry hz Q k => by
  cases dy <;> try (cases hz; done)
  unfold fSplit at hz
  dsimp only at hz
  split at hz
  · rename_i b hs
    cases hz
    obtain ⟨rfl, zb⟩ := str_of ry
    rw [Bool.and_eq_true, Bool.and_eq_true, decide_eq_true_eq] at hs
    obtain ⟨⟨h1, h2⟩, h3⟩ := hs
    refine ⟨s, b, rfl, rfl, by simpa using h1, ?_, fun p np => ?_⟩
    · have := okStr_len zs
      exact Nat.le_trans (show s.length + 2 ≤ LIM + 2 by omega) (by rw [sizeLine_eq]; decide)
    · have a2 := At.new (o := .lst ((Txt.split s b).map V.str)) e l np
      exact k _ _ _ a2 (.lst upd_same (RepL.strs h2) (by rw [List.length_map]; exact h3))
  · cases hz
def fJoin (s : Str) : D → Option D
  | .lst xs => match strsD xs with
    | some ys => if decide ((ys.map (·.length)).sum + ys.length * s.length ≤ LIM) && okStr (Txt.join s ys) then some (.str (Txt.join s ys)) else none
    | none => none
  | _ => none
theorem m_join : MtS Γ L (gJoin Γ.K) fJoin := fun t G H s y dy z l e zs ry hz Q k => by
  cases dy <;> try (cases hz; done)
  unfold fJoin at hz
  dsimp only at hz
  split at hz
  · rename_i ys hys
    split at hz
    · rename_i hs
      cases hz
      rw [Bool.and_eq_true, decide_eq_true_eq] at hs
      obtain ⟨p, vs, rfl, hp, r, _⟩ := lst_of e ry
      obtain ⟨ev, _⟩ := strs_rep r hys
      subst ev
      exact ⟨s, p, ys, rfl, rfl, .inl (SqL.of hp), Nat.le_trans hs.1 (by decide), k _ G H (At.start e l) (.str hs.2)⟩
    · cases hz
  · cases hz
end
end GP

set_option Elab.async false
set_option linter.all false
set_option maxRecDepth 100000
set_option maxHeartbeats 4000000
/-! G9: parallel assignments, stores into owned things, keywords, a def by its data. -/
namespace GP
open PySem PySem.Spec PyProof.Rows L2
section
variable {Γ : Cn} {L : LS} {c c1 c2 c3 n : Nat} {te ta tb : TE} {de da db : DE} {tt tu : TT} {dt du : DT} {ts tv : TS} {ds dv : DQ} {tA : TA} {dA : DA}
/-- stable (false) or new (true) -/
def SK (Γ : Cn) (L : LS) (k : Bool) (c : Nat) (te : TE) (de : DE) : Prop := if k = true then SF Γ L c te de else SE Γ L c te de
def mkS (k : Bool) (d : D) : Sl := if k = true then .ow d else .sh d
/-- what an evaluated right side is, until it is stored -/
def Got (Γ : Cn) (L : LS) (H0 G H : Hp) (k : Bool) (v : V) (d : D) : Prop := if k = true then ∃ p, v = .ref p ∧ H0 p = none ∧ OwnAt Γ L G H p d ∧ G p = none ∧ notL L p else Rep Γ L G v d
theorem SK.run {k : Bool} (h : SK Γ L k c te de) (t : Nat) (σ : L2.St) (δ : DS) (B G H : Hp) (l : LawAt L t G H) (x : Exf G H) (e : Env Γ L B G H σ δ) (hc : t + c ≤ TMAX) (P : GP.D → Prop) (hp : de δ P) (Q : VK)
    (kk : ∀ v d G' H', At L (t + c) H G G' H' → Got Γ L H G' H' k v d → P d → Q v H') : te σ H Q := by
  cases k with
  | true => exact SF.out h t σ δ B G H l x e hc P hp Q kk
  | false => exact (show SE Γ L c te de from h) t σ δ B G H l x e hc P hp Q fun v d G' H' a r q => kk v d G' H' a r q
where
  SF.out (h : SF Γ L c te de) (t : Nat) (σ : L2.St) (δ : DS) (B G H : Hp) (l : LawAt L t G H) (x : Exf G H) (e : Env Γ L B G H σ δ) (hc : t + c ≤ TMAX) (P : GP.D → Prop) (hp : de δ P) (Q : VK)
    (kk : ∀ v d G' H', At L (t + c) H G G' H' → Got Γ L H G' H' true v d → P d → Q v H') : te σ H Q :=
    h t σ δ B G H l x e hc P hp Q fun p d G' H' a np o g q => kk (.ref p) d G' H' a ⟨p, rfl, np, o, g, l.out np⟩ q
theorem Got.step {t : Nat} {H0 G H G' H' : Hp} {k : Bool} {v : V} {d : D} (g : Got Γ L H0 G H k v d) (a : At L t H G G' H') : Got Γ L H0 G' H' k v d := by
  cases k with
  | false => exact (show Rep Γ L G v d from g).up a.gg
  | true =>
    obtain ⟨p, rfl, np, o, g, n⟩ := g
    refine ⟨p, rfl, np, o.step a n, ?_, n⟩
    cases z : G' p with
    | none => rfl
    | some u =>
      obtain ⟨w, hw⟩ := o.there
      rcases a.nw p u z with y | y
      · rw [g] at y; cases y
      · rw [hw] at y; cases y
/-- what was got is stored -/
theorem Got.store {t : Nat} {B G0 G H H1 G1 : Hp} {σ : L2.St} {δ : DS} {k : Bool} {v : V} {d : D} (a : At L t B G0 G H) (e : Env Γ L B G1 H1 σ δ) (i : Nat) (g : Got Γ L H G1 H1 k v d)
    (hf : k = true → ∀ (j : Nat) (x : GP.D), δ[j]? = some (some (.ow x)) → σ[j]? ≠ some (some v)) : Env Γ L B G1 H1 (σ.set i (some v)) (δ.set i (some (mkS k d))) := by
  cases k with
  | false => exact e.set i g
  | true =>
    obtain ⟨p, rfl, np, o, g, n⟩ := g
    exact e.own i o (a.old np) g n fun j x _ hx => hf rfl j x hx
def dPar (k1 k2 : Bool) (i j : Nat) (d1 d2 : DE) : DQ := fun N δ => d1 δ fun x => d2 δ fun y => N.nx ((δ.set i (some (mkS k1 x))).set j (some (mkS k2 y)))
theorem Env.freshG {H0 B G H : Hp} {t : Nat} {σ : L2.St} {δ : DS} {v : V} {d : GP.D} {G1 H1 : Hp} (e : Env Γ L B G H σ δ) (g : Got Γ L H G1 H1 true v d) (j : Nat) (x : GP.D) (h : δ[j]? = some (some (.ow x))) : σ[j]? ≠ some (some v) := by
  obtain ⟨p, rfl, np, _⟩ := g
  exact e.fresh np j x h
theorem par_core {t u : Nat} {B G0 G H G1 H1 G2 H2 : Hp} {σ : L2.St} {δ : DS} {k1 k2 : Bool} {v w : V} {x y : GP.D} (i j : Nat) (a : At L t B G0 G H) (e : Env Γ L B G H σ δ) (a1 : At L u H G G1 H1) (g1 : Got Γ L H G1 H1 k1 v x) (a2 : At L u H1 G1 G2 H2) (g2 : Got Γ L H1 G2 H2 k2 w y) :
    Env Γ L B G2 H2 ((σ.set i (some v)).set j (some w)) ((δ.set i (some (mkS k1 x))).set j (some (mkS k2 y))) := by
  have e2 := (e.step a1).step a2
  have s1 : Env Γ L B G2 H2 (σ.set i (some v)) (δ.set i (some (mkS k1 x))) := (g1.step a2).store a e2 i fun hk m z hm => by
    subst hk
    exact Env.freshG (H0 := H) (t := t) e g1 m z hm
  refine Got.store (a.tr a1) s1 j g2 fun hk m z hm => ?_
  subst hk
  obtain ⟨q, rfl, nq, _⟩ := g2
  by_cases im : i = m
  · subst im
    intro hs
    rw [List.getElem?_set] at hs hm
    by_cases l1 : i < σ.length
    · simp [l1] at hs
      subst hs
      have l2 : i < δ.length := by rw [e.len]; exact l1
      simp [l2] at hm
      cases k1 with
      | false => cases hm
      | true =>
        obtain ⟨p, ep, _, o, _⟩ := g1
        cases ep
        obtain ⟨ob, ho⟩ := o.there
        rw [nq] at ho; cases ho
    · simp [l1] at hs
  · rw [List.getElem?_set_ne im] at hm ⊢
    exact (e.step a1).fresh nq m z hm
theorem s_par {k1 k2 : Bool} (i j : Nat) (h1 : SK Γ L k1 c1 ta da) (h2 : SK Γ L k2 c2 tb db) : SS Γ L (c1 + c2) (tPar i j (tCons ta (tCons tb tNil))) (dPar k1 k2 i j da db) := fun t σ δ B G0 G H a e hc N hp D E => by
  refine h1.run t σ δ B G H a.lw a.gh e (by omega) _ hp _ fun v x G1 H1 a1 g1 q1 => ?_
  refine h2.run (t + c1) σ δ B G1 H1 a1.lw a1.gh (e.step a1) (by omega) _ q1 _ fun w y G2 H2 a2 g2 q2 => ?_
  refine ⟨v, w, rfl, E.nx _ _ G2 H2 ?_ (par_core i j a e (a1.le (show t + c1 ≤ t + c1 + c2 by omega)) g1 a2 g2) q2⟩
  rw [← Nat.add_assoc]
  exact (a.tr a1).tr a2
/-- the same by a tuple that is made and taken apart -/
theorem s_parT {k1 k2 : Bool} (i j : Nat) (h1 : SK Γ L k1 c1 ta da) (h2 : SK Γ L k2 c2 tb db) : SS Γ L (c1 + c2) (tAsg (tTup (tCons ta (tCons tb tNil))) (gTup Γ.K 2 (gCons (gName i) (gCons (gName j) gNil)))) (dPar k1 k2 i j da db) := fun t σ δ B G0 G H a e hc N hp D E => by
  refine h1.run t σ δ B G H a.lw a.gh e (by omega) _ hp _ fun v x G1 H1 a1 g1 q1 => ?_
  refine h2.run (t + c1) σ δ B G1 H1 a1.lw a1.gh (e.step a1) (by omega) _ q1 _ fun w y G2 H2 a2 g2 q2 => ?_
  refine ⟨by show 2 ≤ sizeLine; rw [sizeLine_eq]; decide, fun p np => ⟨_, _, rfl, SqT.of upd_same, rfl, _, _, rfl, _, _, rfl, rfl, ?_⟩⟩
  have a3 := At.newH (o := .tup [v, w]) a2.gh a2.lw np
  have e3 := (par_core i j a e (a1.le (show t + c1 ≤ t + c1 + c2 by omega)) g1 a2 g2).step a3
  refine E.nx _ _ G2 _ ?_ e3 q2
  rw [← Nat.add_assoc]
  exact ((a.tr a1).tr a2).tr a3
def dPar3 (k1 k2 k3 : Bool) (i j m : Nat) (d1 d2 d3 : DE) : DQ := fun N δ => d1 δ fun x => d2 δ fun y => d3 δ fun z => N.nx (((δ.set i (some (mkS k1 x))).set j (some (mkS k2 y))).set m (some (mkS k3 z)))
/-! ### stores into what a slot owns -/
def gSet : TSet := fun o i v H Q => rSetL o i v H Q ∨ ∃ a H2, o = .ref a ∧ DPut H a i v H2 ∧ Q H2
theorem g_set {X : Cx} (hu : X.A.units + 1 < cLine) : PSet X gSet := by
  intro pins s σ H o i v ov iv u Q I ro ri rv h
  rcases h with h | ⟨a, H2, rfl, g, q⟩
  · exact set_list pins s σ H o i v ov iv u Q I ro ri rv h
  · obtain rfl : ov = Value.ref a := ro
    exact d_setItem hu I g ri rv fun s1 J => ⟨H2, J, q⟩
def putD (kvs : List (Key × D)) (k : Key) (v : D) : List (Key × D) := if kvs.any (fun kv => decide (kv.1 = k)) then kvs.map (fun kv => if kv.1 = k then (kv.1, v) else kv) else kvs ++ [(k, v)]
def setD (o k v : D) : Option D := match o with
  | .dct kvs => match keyD k with
    | some k => if kvs.length < LIM then some (.dct (putD kvs k v)) else none
    | none => none
  | .lst xs => match k with
    | .int i => (ixN xs.length i).map fun j => .lst (xs.set j v)
    | _ => none
  | _ => none
theorem RepK.anyk {G : Hp} (k : Key) : ∀ {xs : List (Key × V)} {ds : List (Key × GP.D)}, RepK Γ L G xs ds → (xs.any fun kv => decide (kv.1 = k)) = ds.any fun kv => decide (kv.1 = k)
  | _, _, .nil => rfl
  | _, _, .cons _ h t => by rw [List.any_cons, List.any_cons, RepK.anyk k t]
theorem RepK.mapk {G : Hp} (k : Key) {v : V} {d : GP.D} (rv : Rep Γ L G v d) : ∀ {xs : List (Key × V)} {ds : List (Key × GP.D)}, RepK Γ L G xs ds → RepK Γ L G (xs.map fun kv => if kv.1 = k then (kv.1, v) else kv) (ds.map fun kv => if kv.1 = k then (kv.1, d) else kv)
  | _, _, .nil => .nil
  | _, _, .cons (k := k') o h t => by
    rw [List.map_cons, List.map_cons]
    by_cases z : k' = k
    · rw [if_pos z, if_pos z]; exact .cons o rv (RepK.mapk k rv t)
    · rw [if_neg z, if_neg z]; exact .cons o h (RepK.mapk k rv t)
theorem RepK.snoc {G : Hp} {k : Key} {v : V} {d : GP.D} (ok : okK k = true) (rv : Rep Γ L G v d) : ∀ {xs : List (Key × V)} {ds : List (Key × GP.D)}, RepK Γ L G xs ds → RepK Γ L G (xs ++ [(k, v)]) (ds ++ [(k, d)])
  | _, _, .nil => .cons ok rv .nil
  | _, _, .cons o h t => .cons o h (RepK.snoc ok rv t)
theorem RepK.put {G : Hp} {xs : List (Key × V)} {ds : List (Key × D)} (r : RepK Γ L G xs ds) (k : Key) (ok : okK k = true) {v : V} {d : GP.D} (rv : Rep Γ L G v d) : RepK Γ L G (putK xs k v) (putD ds k d) := by
  unfold putK putD
  rw [r.anyk k]
  split
  · exact r.mapk k rv
  · exact r.snoc ok rv
theorem putD_len (kvs : List (Key × D)) (k : Key) (v : GP.D) : (putD kvs k v).length ≤ kvs.length + 1 := by
  unfold putD
  split
  · rw [List.length_map]; omega
  · rw [List.length_append]; exact Nat.le_refl _
/-- x[k] = v, x an owned name -/
def dSetO (i : Nat) (dk dv : DE) : DQ := fun N δ => dv δ fun v => match δ[i]? with
  | some (some (.ow o)) => dk δ fun k => match setD o k v with
    | some o2 => N.nx (δ.set i (some (.ow o2)))
    | none => False
  | _ => False
theorem set_core {t : Nat} {B G0 G H : Hp} {σ : L2.St} {δ : DS} {i : Nat} {o o2 dk dv : GP.D} {p : Addr} {kv vv : V} {N : DN} {D : Ends} (a : At L t B G0 G H) (e : Env Γ L B G H σ δ) (hs : δ[i]? = some (some (.ow o))) (hv : σ[i]? = some (some (.ref p)))
    (rk : RepT Γ L G H kv dk) (rv : Rep Γ L G vv dv) (hz : setD o dk dv = some o2) (q : N.nx (δ.set i (some (.ow o2)))) (E : ∀ σ δ G H, At L t B G0 G H → Env Γ L B G H σ δ → N.nx δ → D.nx σ H) : gSet (.ref p) kv vv H fun H3 => D.nx σ H3 := by
  obtain ⟨p1, hv1, ow, hb, hg, hn⟩ := e.ow i o hs
  rw [hv] at hv1; cases hv1
  cases ow with
  | lst hl r zz =>
    rename_i ys xs
    cases dk <;> try (cases hz; done)
    rename_i ix
    obtain rfl := int_of rk
    obtain ⟨j, hj, ej⟩ := Option.map_eq_some_iff.mp hz
    subst ej
    refine .inl ⟨p, ys, ix, j, rfl, rfl, hl, by rw [r.len]; exact hj, ?_⟩
    exact E _ _ G _ (a.write hb hg hn) (e.write hs hv (.lst upd_same (r.set j rv) (by rw [List.length_set]; exact zz))) q
  | dct hl r zz =>
    rename_i ys xs
    unfold setD at hz
    dsimp only at hz
    split at hz
    · rename_i kk hk
      split at hz
      · rename_i hlt
        cases hz
        have ek := key_of' rk hk
        have okk := okK_of rk hk
        subst ek
        have hle : ys.length < sizeLine := Nat.lt_of_lt_of_le (by rw [r.len]; exact hlt) (lim_size (Nat.le_refl _))
        refine .inr ⟨p, _, rfl, DPut.k hl hle, ?_⟩
        refine E _ _ G _ (a.write hb hg hn) (e.write hs hv (.dct upd_same (r.put kk okk rv) ?_)) q
        have := putD_len xs kk dv
        omega
      · cases hz
    · cases hz
theorem s_setO (i : Nat) {tk tv : TE} {dk dv : DE} (h1 : SE Γ L c1 tv dv) (h2 : ST Γ L c2 tk dk) : SS Γ L (c1 + c2) (tAsg tv (L2.gSub (tVar i) tk gSet)) (dSetO i dk dv) := fun t σ δ B G0 G H a e hc N hp D E => by
  refine h1 t σ δ B G H a.lw a.gh e (by omega) _ hp _ fun v x G1 H1 a1 r1 q1 => ?_
  split at q1
  · rename_i o ho
    have e1 := e.step a1
    obtain ⟨p, hv, ow, _⟩ := e1.ow i o ho
    refine ⟨.ref p, hv, h2 (t + c1) σ δ B G1 H1 a1.lw a1.gh e1 (by omega) _ q1 _ fun kv dk G2 H2 a2 r2 q2 => ?_⟩
    split at q2
    · rename_i o2 ho2
      refine set_core ((a.tr a1).tr a2) (e1.step a2) ho hv r2 (r1.up a2.gg) ho2 q2 ?_
      rw [Nat.add_assoc]
      exact E.nx
    · exact q2.elim
  · exact q1.elim
/-- x[k] += v, x an owned dict -/
def dAugO (f : D → D → Option D) (i : Nat) (dk dv : DE) : DQ := fun N δ => match δ[i]? with
  | some (some (.ow (.dct kvs))) => dk δ fun k => match keyD k with
    | some kk => match valD kvs kk with
      | some old => dv δ fun v => match f old v with
        | some z => if kvs.length < LIM then N.nx (δ.set i (some (.ow (.dct (putD kvs kk z))))) else False
        | none => False
      | none => False
    | none => False
  | _ => False
theorem s_augO (i : Nat) {tk tv : TE} {dk dv : DE} {rd : V → V → Hp → VK → Prop} {f : D → D → Option D} (hf : OpS Γ L rd f) (h1 : ST Γ L c1 tk dk) (h2 : ST Γ L c2 tv dv) : SS Γ L (c1 + c2) (sDAug (tVar i) tk tv rd) (dAugO f i dk dv) := fun t σ δ B G0 G H a e hc N hp D E => by
  unfold dAugO at hp
  split at hp
  · rename_i kvs hs
    obtain ⟨p, hv, ow, hb, hg, hn⟩ := e.ow i _ hs
    cases ow with
    | dct hl r zz =>
      rename_i ys
      refine ⟨.ref p, hv, h1 t σ δ B G H a.lw a.gh e (by omega) _ hp _ fun kv dkk G1 H1 a1 r1 q1 => ?_⟩
      split at q1
      · rename_i kk hk
        have ek := key_of' r1 hk
        have okk := okK_of r1 hk
        subst ek
        have r' := r.up a1.gg
        have hl1 := a1.bh p _ hl hn
        rcases r'.val kk with ⟨h3, h4⟩ | ⟨v0, d0, h3, h4, rv0⟩
        · rw [h3] at q1; exact q1.elim
        · rw [h3] at q1
          refine ⟨p, v0, rfl, .inl ⟨ys, kk, .inl hl1, rfl, h4.symm⟩, ?_⟩
          refine h2 (t + c1) σ δ B G1 H1 a1.lw a1.gh (e.step a1) (by omega) _ q1 _ fun v d G2 H2 a2 r2 q2 => ?_
          split at q2
          · rename_i z hz
            split at q2
            · rename_i hlt
              refine hf (t + c1 + c2) G2 H2 v0 v d0 d z a2.lw a2.gh (.inl (rv0.up a2.gg)) r2 hz _ fun w G3 H3 a3 r3 => ?_
              have aa := (a1.tr a2).tr a3
              have hl3 := aa.bh p _ hl hn
              have e3 := ((e.step a1).step a2).step a3
              have hle : ys.length < sizeLine := Nat.lt_of_lt_of_le (by rw [r.len]; exact hlt) (lim_size (Nat.le_refl _))
              refine ⟨_, DPut.k hl3 hle, ?_⟩
              obtain ⟨p3, hv3, _, _, hg3, _⟩ := e3.ow i _ hs
              rw [hv] at hv3; cases hv3
              refine E.nx _ _ G3 _ ?_ (e3.write hs hv (.dct upd_same ((r.up aa.gg).put kk okk r3) ?_)) q2
              · rw [← Nat.add_assoc]; exact (a.tr aa).write hb hg3 hn
              · have := putD_len kvs kk z
                omega
            · exact q2.elim
          · exact q2.elim
      · exact q1.elim
  · exact hp.elim
theorem o_rAdd : OpS Γ L rAdd (fInt fun i j => some (.int (i + j))) := fun t G H x y dx dy z l e rx ry hz Q k => by
  cases dx <;> cases dy <;> try (cases hz; done)
  obtain rfl := int_of rx
  obtain rfl := int_of ry
  cases hz
  exact ⟨_, _, rfl, rfl, k _ G H (At.start e l) (.int _)⟩
theorem o_rSub : OpS Γ L rSub (fInt fun i j => some (.int (i - j))) := fun t G H x y dx dy z l e rx ry hz Q k => by
  cases dx <;> cases dy <;> try (cases hz; done)
  obtain rfl := int_of rx
  obtain rfl := int_of ry
  cases hz
  exact ⟨_, _, rfl, rfl, k _ G H (At.start e l) (.int _)⟩
/-! ### while -/
def dWhile (t : DT) (b : DQ) : DQ := fun N δ => ∃ W : Nat → DS → Prop, (∃ m, W m δ) ∧ ∀ m δ, W m δ → t δ fun x => if x = true then b { N with nx := fun δ' => ∃ m', m' < m ∧ W m' δ', ct := fun δ' => ∃ m', m' < m ∧ W m' δ', bk := N.nx } δ else N.nx δ
theorem s_while (h : SB Γ L 0 tt dt) (hb : SS Γ L 0 ts ds) : SS Γ L 0 (tWhile tt ts) (dWhile dt ds) := fun t σ δ B G0 G H a e hc N hp D E => by
  obtain ⟨W, ⟨m0, w0⟩, hw⟩ := hp
  refine ⟨fun m σ' H' => ∃ δ' G', At L t B G0 G' H' ∧ Env Γ L B G' H' σ' δ' ∧ W m δ', ⟨m0, δ, G, a, e, w0⟩, ?_⟩
  rintro m σ1 H1 ⟨δ1, G1, a1, e1, w1⟩
  refine h t σ1 δ1 B G1 H1 a1.lw a1.gh e1 (by omega) _ (hw m δ1 w1) _ fun b G2 H2 a2 q => ?_
  cases b with
  | false => exact E.nx σ1 δ1 G2 H2 (a1.tr a2) (e1.step a2) q
  | true =>
    refine ⟨fun σ' H' => ∃ m', m' < m ∧ ∃ δ' G', At L t B G0 G' H' ∧ Env Γ L B G' H' σ' δ' ∧ W m' δ', fun σ' H' z => z, ?_⟩
    exact hb t σ1 δ1 B G0 G2 H2 (a1.tr a2) (e1.step a2) hc _ q _ ⟨fun σ3 δ3 G3 H3 a3 e3 ⟨m', hm, w3⟩ => ⟨m', hm, δ3, G3, a3, e3, w3⟩, fun v d G3 H3 a3 r3 q3 => E.rt v d G3 H3 a3 r3 q3, fun σ3 δ3 G3 H3 a3 e3 q3 => E.nx σ3 δ3 G3 H3 a3 e3 q3, fun σ3 δ3 G3 H3 a3 e3 ⟨m', hm, w3⟩ => ⟨m', hm, δ3, G3, a3, e3, w3⟩⟩
/-! ### a def by its data -/
def startD (n : Nat) (ds : List D) : DS := ds.map (fun d => some (Sl.sh d)) ++ List.replicate (n - ds.length) none
theorem env_start {B G H : Hp} {N : List Str} {vs : List V} {ds : List GP.D} (r : RepL Γ L G vs ds) : Env Γ L B G H (start N vs) (startD N.length ds) := by
  have hl := r.len
  refine ⟨fun i d h => ?_, fun i d h => ?_, fun i j d e p _ h => ?_, ?_⟩
  · unfold startD at h
    by_cases hi : i < ds.length
    · rw [List.getElem?_append_left (by rw [List.length_map]; exact hi), List.getElem?_map] at h
      obtain ⟨d', h1, h2⟩ := Option.map_eq_some_iff.mp h
      cases h2
      obtain ⟨v, hv, rv⟩ := r.at_ h1
      refine ⟨v, ?_, rv⟩
      unfold L2.start
      rw [List.getElem?_append_left (by rw [List.length_map]; omega), List.getElem?_map, hv]
      rfl
    · rw [List.getElem?_append_right (by rw [List.length_map]; omega), List.getElem?_replicate] at h
      split at h <;> cases h
  · unfold startD at h
    by_cases hi : i < ds.length
    · rw [List.getElem?_append_left (by rw [List.length_map]; exact hi), List.getElem?_map] at h
      obtain ⟨d', h1, h2⟩ := Option.map_eq_some_iff.mp h
      cases h2
    · rw [List.getElem?_append_right (by rw [List.length_map]; omega), List.getElem?_replicate] at h
      split at h <;> cases h
  · exfalso
    unfold startD at h
    by_cases hi : i < ds.length
    · rw [List.getElem?_append_left (by rw [List.length_map]; exact hi), List.getElem?_map] at h
      obtain ⟨d', h1, h2⟩ := Option.map_eq_some_iff.mp h
      cases h2
    · rw [List.getElem?_append_right (by rw [List.length_map]; omega), List.getElem?_replicate] at h
      split at h <;> cases h
  · unfold startD L2.start
    rw [List.length_append, List.length_append, List.length_map, List.length_map, List.length_replicate, List.length_replicate, hl]
theorem pure_of {s : DSp} {cf cb k : Nat} {t : TS} {d : DQ} {N : List Str} (snd : ∀ L, SS Γ L cb t d) (hc : cb ≤ cf) (hd : ∀ xs P, xs.length = k → s xs P → d { nx := fun _ => P .non, rt := P } (startD N.length xs)) (vs : List V) (H : Hp) (Q : VK) (E : XK) (h : lift Γ k cf s vs H Q E) :
    t { nx := fun _ H2 => Q .non H2, rt := Q } (start N vs) H := by
  obtain ⟨hl, L, tm, xs, G, P, lw, ht, ex, r, hp, kk⟩ := h
  have a := At.start ex lw
  refine snd L tm (start N vs) (startD N.length xs) H G G H a (env_start r) (by omega) _ (hd xs P (by rw [← r.len]; exact hl) hp) _ ⟨fun σ δ G1 H1 a1 _ q => kk _ q _ G1 H1 (a1.le (by omega)) .non, fun v x G1 H1 a1 r1 q => kk x q v G1 H1 (a1.le (by omega)) r1, fun _ _ _ _ _ _ q => q.elim, fun _ _ _ _ _ _ q => q.elim⟩
/-- the promise of a def that returns a new list or dict -/
def liftF (Γ : Cn) (n c : Nat) (s : DSp) : Sp := fun vs H Q _ => vs.length = n ∧ ∃ (L : LS) (t : Nat) (ds : List D) (G : Hp) (P : D → Prop), LawAt L t G H ∧ t + c ≤ TMAX ∧ Exf G H ∧ RepL Γ L G vs ds ∧ s ds P ∧
  ∀ r, P r → ∀ p G' H', At L (t + c) H G G' H' → H p = none → OwnAt Γ L G' H' p r → G' p = none → Q (.ref p) H'
theorem s_fnF {s : DSp} {cf : Nat} {E : XK} (ha : SA Γ L n c tA dA) : SF Γ L (c + cf) (tFn (liftF Γ n cf s) E tA) (dFn s dA) := fun t σ δ B G H l x e hc P hp Q k => by
  refine ha t σ δ B G H l x e (by omega) _ hp _ fun vs ds G1 H1 a1 r1 hl q1 => ⟨by rw [r1.len, hl], L, t + c, ds, G1, P, a1.lw, by omega, a1.gh, r1, q1, fun r hr p G2 H2 a2 n o g => ?_⟩
  exact k p r G2 H2 (by rw [← Nat.add_assoc]; exact a1.tr a2) (a1.old n) o g hr
theorem pure_ofF {s : DSp} {cf cb k : Nat} {t : TS} {d : DQ} {N : List Str} (snd : ∀ L, SS Γ L cb t d) (hc : cb ≤ cf) (hd : ∀ xs P, xs.length = k → s xs P → d { nx := fun _ => False, rt := P, own := true } (startD N.length xs)) (vs : List V) (H : Hp) (Q : VK) (E : XK) (h : liftF Γ k cf s vs H Q E) :
    t { nx := fun _ H2 => Q .non H2, rt := Q } (start N vs) H := by
  obtain ⟨hl, L, tm, xs, G, P, lw, ht, ex, r, hp, kk⟩ := h
  have a := At.start ex lw
  refine snd L tm (start N vs) (startD N.length xs) H G G H a (env_start r) (by omega) _ (hd xs P (by rw [← r.len]; exact hl) hp) _ ⟨fun σ δ G1 H1 a1 _ q => q.elim, fun v x G1 H1 a1 r1 q => ?_, fun _ _ _ _ _ _ q => q.elim, fun _ _ _ _ _ _ q => q.elim⟩
  obtain ⟨p, rfl, hb, o, g, hn⟩ := r1
  exact kk x q p G1 H1 (a1.le (by omega)) hb o g
theorem lift_len {k cf : Nat} {s : DSp} (vs : List V) (H : Hp) (Q : VK) (E : XK) (h : lift Γ k cf s vs H Q E) : vs.length = k := h.1
end
end GP

set_option Elab.async false
set_option linter.all false
set_option maxRecDepth 100000
set_option maxHeartbeats 4000000
/-! G10: the law's draws: begun, mixed, take, pick. A draw is any number in range. -/
namespace GP
open PySem PySem.Spec PyProof.Rows L2
/-! ### steps of readings -/
section
variable {K : FK} {H : Hp} {Q : VK} {i j : Int}
theorem ix_dk {p : Addr} {kvs : List (Key × V)} {k : Str} {v : V} (h : H p = some (.dK kvs)) (hv : valV kvs (.inr k) = some v) (q : Q v H) : gIx K (.ref p) (.str k) H Q := .inr ⟨p, v, rfl, .inl ⟨kvs, .inr k, .inl h, rfl, hv.symm⟩, q⟩
theorem add_i (q : Q (.int (i + j)) H) : gAdd K (.int i) (.int j) H Q := .inl ⟨i, j, rfl, rfl, q⟩
theorem dif_i (q : Q (.int (i - j)) H) : gDif (.int i) (.int j) H Q := ⟨i, j, rfl, rfl, q⟩
theorem mul_i (h : (-(2 ^ 64) < i ∧ i < 2 ^ 64) ∨ (-(2 ^ 64) < j ∧ j < 2 ^ 64)) (q : Q (.int (i * j)) H) : gMul (.int i) (.int j) H Q := .inl ⟨i, j, rfl, rfl, h, q⟩
theorem fdiv_i (h : CDivW i j) (q : Q (.int (i / j)) H) : gFdiv (.int i) (.int j) H Q := ⟨i, j, rfl, rfl, h, q⟩
theorem mod_i (h : 0 < j) (q : Q (.int (i % j)) H) : gMod (.int i) (.int j) H Q := ⟨i, j, rfl, rfl, h, q⟩
theorem pow_i (h : CPow i j) (q : Q (.int (i ^ j.toNat)) H) : gPow (.int i) (.int j) H Q := ⟨i, j, rfl, rfl, h, q⟩
end
theorem kne1 : ¬ ((Sum.inr ("great" : Str) : Key) = Sum.inr ("turn" : Str)) := by decide +kernel
theorem kne2 : ¬ ((Sum.inr ("cells" : Str) : Key) = Sum.inr ("turn" : Str)) := by decide +kernel
theorem kne3 : ¬ ((Sum.inr ("left" : Str) : Key) = Sum.inr ("turn" : Str)) := by decide +kernel
theorem kne4 : ¬ ((Sum.inr ("great" : Str) : Key) = Sum.inr ("left" : Str)) := by decide +kernel
theorem kne5 : ¬ ((Sum.inr ("cells" : Str) : Key) = Sum.inr ("left" : Str)) := by decide +kernel
theorem kne6 : ¬ ((Sum.inr ("great" : Str) : Key) = Sum.inr ("cells" : Str)) := by decide +kernel
theorem kne7 : ¬ ((Sum.inr ("turn" : Str) : Key) = Sum.inr ("left" : Str)) := by decide +kernel
section
variable {g c : Addr} {l t l' t' : Int}
theorem st_great : valV (stK g c l t) (.inr ("great" : Str)) = some (.ref g) := valV_pos (p := (Sum.inr ("great" : Str), V.ref g)) rfl
theorem st_cells : valV (stK g c l t) (.inr ("cells" : Str)) = some (.ref c) := (valV_neg (p := (Sum.inr ("great" : Str), V.ref g)) kne6).trans (valV_pos (p := (Sum.inr ("cells" : Str), V.ref c)) rfl)
theorem st_left : valV (stK g c l t) (.inr ("left" : Str)) = some (.int l) := (valV_neg (p := (Sum.inr ("great" : Str), V.ref g)) kne4).trans ((valV_neg (p := (Sum.inr ("cells" : Str), V.ref c)) kne5).trans (valV_pos (p := (Sum.inr ("left" : Str), V.int l)) rfl))
theorem st_turn : valV (stK g c l t) (.inr ("turn" : Str)) = some (.int t) := (valV_neg (p := (Sum.inr ("great" : Str), V.ref g)) kne1).trans ((valV_neg (p := (Sum.inr ("cells" : Str), V.ref c)) kne2).trans ((valV_neg (p := (Sum.inr ("left" : Str), V.int l)) kne3).trans (valV_pos (p := (Sum.inr ("turn" : Str), V.int t)) rfl)))
theorem st_putT : putK (stK g c l t) (.inr ("turn" : Str)) (.int t') = stK g c l t' := by
  unfold putK stK
  rw [if_pos (by simp)]
  simp only [List.map_cons, List.map_nil]
  rw [if_neg kne1, if_neg kne2, if_neg kne3, if_pos trivial]
theorem st_putL : putK (stK g c l t) (.inr ("left" : Str)) (.int l') = stK g c l' t := by
  unfold putK stK
  rw [if_pos (by simp)]
  simp only [List.map_cons, List.map_nil]
  rw [if_neg kne4, if_neg kne5, if_neg kne7, if_pos trivial]
theorem st_len : (stK g c l t).length < sizeLine := by rw [sizeLine_eq]; show 4 < 16777216; decide
end
theorem set_dk {H : Hp} {p : Addr} {kvs : List (Key × V)} {k : Str} {v : V} {Q : Hp → Prop} (h : H p = some (.dK kvs)) (hl : kvs.length < sizeLine) (q : Q (upd H p (.dK (putK kvs (.inr k) v)))) : gSet (.ref p) (.str k) v H Q :=
  .inr ⟨p, _, rfl, DPut.k (k := Sum.inr k) h hl, q⟩
def primes : List Int := [2147483629, 2147483587, 2147483579, 2147483563, 2147483549, 2147483543]
/-- mixed: any number from 0 on; the turn is one more -/
def sp_law_mixed (Γ : Cn) : Sp := fun vs H Q _ => vs.length = 1 ∧ ∃ (p g c : Addr) (left turn : Int) (cells : List Int), vs = [.ref p] ∧ H p = some (.dK (stK g c left turn)) ∧ H c = some (.lst (cells.map V.int)) ∧ 0 ≤ turn ∧ turn < (TMAX : Int) ∧
  ∀ (r : Int) (H' : Hp), 0 ≤ r → H' p = some (.dK (stK g c left (turn + 1))) → (∀ a o, H a = some o → a ≠ p → H' a = some o) → Q (.int r) H'
def t_law_mixed (Γ : Cn) : TS := tSeq (tAsg (tOp (gAdd Γ.K) (tOp (gIx Γ.K) (tVar 0) (tC (.str "turn"))) (tC (.int 1))) (gSub (tVar 0) (tC (.str "turn")) gSet)) (tSeq (tAsg (tC (.int 0)) (gName 1)) (tSeq (tFor
   (gIter Γ.K (tLst (tCons (tC (.int 2147483629)) (tCons (tC (.int 2147483587)) (tCons (tC (.int 2147483579)) (tCons (tC (.int 2147483563)) (tCons (tC (.int 2147483549)) (tCons (tC
   (.int 2147483543)) (tNil))))))))) (gName 2) (tSeq (tAsg (tOp (gAdd Γ.K) (tOp (gMul) (tC (.int 69997)) (tOp (gIx Γ.K) (tVar 0) (tC (.str "turn")))) (tOp (gFdiv) (tVar 2) (tC
   (.int 11)))) (gName 3)) (tSeq (tFor (gIter Γ.K (tOp (gIx Γ.K) (tVar 0) (tC (.str "cells")))) (gName 4) (tAsg (tOp (gMod) (tOp (gAdd Γ.K) (tOp (gMul) (tVar 3) (tC (.int 48271)))
   (tVar 4)) (tVar 2)) (gName 3))) (tAsg (tOp (gAdd Γ.K) (tOp (gMul) (tVar 1) (tC (.int 2147483647))) (tOp (gMod) (tOp (gPow) (tVar 3) (tC (.int 5))) (tVar 2))) (gName 1))))) (tRet
   (tVar 1))))
theorem pure_mixed {Γ : Cn} (vs : List V) (H : Hp) (Q : VK) (E : XK) (h : sp_law_mixed Γ vs H Q E) : t_law_mixed Γ { nx := fun _ H2 => Q .non H2, rt := Q } (L2.start ["_law_state", "_law_found", "_law_prime", "_law_blend", "_law_cell"] vs) H := by
  obtain ⟨_, p, g, c, left, turn, cells, rfl, hp, hc, h0, h1, k⟩ := h
  have npc : p ≠ c := ne_of hp hc (by intro z; cases z)
  refine ⟨_, rfl, ix_dk hp st_turn (add_i ⟨_, rfl, set_dk hp st_len ?_⟩)⟩
  rw [st_putT]
  refine ⟨by show 6 ≤ sizeLine; rw [sizeLine_eq]; decide, fun q nq => .inl ⟨q, rfl, ⟨_, SqL.of upd_same⟩, ?_⟩⟩
  have nqp : p ≠ q := fun z => by subst z; rw [upd_same] at nq; cases nq
  have nqc : c ≠ q := fun z => by subst z; rw [upd_ne (Ne.symm npc), hc] at nq; cases nq
  generalize hH2 : upd (upd H p (.dK (stK g c left (turn + 1)))) q (.lst _) = H2
  have hp2 : H2 p = some (.dK (stK g c left (turn + 1))) := by rw [← hH2, upd_ne nqp, upd_same]
  have hc2 : H2 c = some (.lst (cells.map V.int)) := by rw [← hH2, upd_ne nqc, upd_ne (Ne.symm npc)]; exact hc
  have hq2 : H2 q = some (.lst (primes.map V.int)) := by rw [← hH2, upd_same]; rfl
  have keep : ∀ a o, H a = some o → a ≠ p → H2 a = some o := fun a o ha na => by
    have nqa : a ≠ q := fun z => by subst z; rw [upd_ne na, ha] at nq; cases nq
    rw [← hH2, upd_ne nqa, upd_ne na]; exact ha
  refine for_list (K := Γ.K) (a := q) (xs := primes.map V.int) (fun i σ H' => H2 = H' ∧ ∃ (f : Int) (v2 v3 v4 : Option V), 0 ≤ f ∧ σ = [some (.ref p), some (.int f), v2, v3, v4])
    ⟨rfl, 0, none, none, none, Int.le_refl _, rfl⟩ (fun i σ H' _ ⟨e, _⟩ => by rw [← e]; exact SqL.of hq2) ?_ ?_
  · rintro i y σ H' hi ⟨rfl, f, v2, v3, v4, hf, rfl⟩
    obtain ⟨pr, hpr, rfl⟩ : ∃ pr, pr ∈ primes ∧ y = V.int pr := by
      have hm := List.mem_of_getElem? hi
      obtain ⟨pr, h1, h2⟩ := List.mem_map.mp hm
      exact ⟨pr, h1, h2.symm⟩
    have hb : 0 < pr ∧ pr < 2147483648 := by
      have hall : ∀ z ∈ primes, 0 < z ∧ z < 2147483648 := by decide
      exact hall pr hpr
    have hT : ((TMAX : Nat) : Int) = 1000000000000 := rfl
    -- blend = 69997 * turn + prime // 11
    refine ⟨_, rfl, ix_dk hp2 st_turn (mul_i (.inl ⟨by decide, by decide⟩) ⟨_, rfl, fdiv_i (wide_div (by decide) (b := 4) (by decide) (by decide) (by decide)) (add_i ?_)⟩)⟩
    -- for cell in cells
    refine ⟨_, rfl, ix_dk hp2 st_cells (.inl ⟨c, rfl, ⟨_, SqL.of hc2⟩, ?_⟩)⟩
    refine for_list (K := Γ.K) (a := c) (xs := cells.map V.int) (fun i σ H' => H2 = H' ∧ ∃ (b : Int) (w4 : Option V), 0 ≤ b ∧ b < 9223372036854775808 ∧ σ = [some (.ref p), some (.int f), some (.int pr), some (.int b), w4])
      ⟨rfl, 69997 * (turn + 1) + pr / 11, v4, by omega, by omega, rfl⟩ (fun i σ H' _ ⟨e, _⟩ => by rw [← e]; exact SqL.of hc2) ?_ ?_
    · rintro i y σ H' hi ⟨rfl, b, w4, hb1, hb2, rfl⟩
      obtain ⟨cc, rfl⟩ : ∃ cc, y = V.int cc := by
        have hm := List.mem_of_getElem? hi
        obtain ⟨cc, _, h2⟩ := List.mem_map.mp hm
        exact ⟨cc, h2.symm⟩
      refine ⟨_, rfl, mul_i (.inr ⟨by decide, by decide⟩) ⟨_, rfl, add_i ⟨_, rfl, mod_i hb.1 ⟨rfl, (b * 48271 + cc) % pr, some (.int cc), ?_, ?_, rfl⟩⟩⟩⟩
      · exact Int.emod_nonneg _ (by omega)
      · have := Int.emod_lt_of_pos (b * 48271 + cc) hb.1
        omega
    · rintro σ H' ⟨rfl, b, w4, hb1, hb2, rfl⟩
      refine ⟨_, rfl, mul_i (.inr ⟨by decide, by decide⟩) ⟨_, rfl, pow_i ⟨by decide, by decide, by omega⟩ ⟨_, rfl, mod_i hb.1 (add_i ⟨rfl, f * 2147483647 + b ^ (5 : Int).toNat % pr, _, _, _, ?_, rfl⟩)⟩⟩⟩
      have := Int.emod_nonneg (b ^ (5 : Int).toNat) (show pr ≠ 0 by omega)
      omega
  · rintro σ H' ⟨rfl, f, v2, v3, v4, hf, rfl⟩
    exact ⟨_, rfl, k f _ hf hp2 keep⟩
/-! ### take -/
def dp_law_take : DSp := fun ds P => ∃ n, ds = [.st, .int n] ∧ 0 < n ∧ n < 18446744073709551616 ∧ ∀ k, 0 ≤ k → k < n → P (.int k)
def sp_law_take (Γ : Cn) : Sp := lift Γ 2 1 dp_law_take
def t_law_take (Γ : Cn) : TS := tSeq (tIfS (tTest (tOp (gEq Γ.K) (tOp (gIx Γ.K) (tVar 0) (tC (.str "left"))) (tC (.int 0)))) (tAsg (tIf (tTest (tOp (gNe Γ.K) (tOp (gIx Γ.K) (tVar 0) (tC (.str "great"))) (tLst
   (tNil)))) (tBM Γ.K "list" rPopAt (tOp (gIx Γ.K) (tVar 0) (tC (.str "great"))) (tCons (tC (.int 0)) (tNil))) (tFn (sp_law_mixed Γ) E0 (tCons (tVar 0) (tNil)))) (gSub (tVar 0) (tC
   (.str "left")) gSet)) (tNext)) (tSeq (tAsg (tOp (gMod) (tOp (gIx Γ.K) (tVar 0) (tC (.str "left"))) (tVar 1)) (gName 2)) (tSeq (tAsg (tOp (gFdiv) (tOp (gIx Γ.K) (tVar 0) (tC
   (.str "left"))) (tVar 1)) (gSub (tVar 0) (tC (.str "left")) gSet)) (tRet (tVar 2))))

/-- the state is changed, all else stands -/
theorem At.law {p g : Addr} {t : Nat} {G H H' : Hp} {c : Addr} {great cells : List Int} {left turn : Int} (x : Exf G H) (l : LawSt p g t G H) (hp : H' p = some (.dK (stK g c left turn))) (hg : H' g = some (.lst (great.map V.int))) (h1 : ∀ z ∈ great, 0 ≤ z) (h2 : 0 ≤ left) (h3 : 0 ≤ turn) (h4 : turn ≤ ((t + 1 : Nat) : Int))
    (hc : G c = some (.lst (cells.map V.int))) (k : ∀ a o, H a = some o → a ≠ p → a ≠ g → H' a = some o) : At (some (p, g)) (t + 1) H G G H' where
  gg := Ex.rfl'
  gh := fun a o h => by
    have n1 : a ≠ p := fun z => by subst z; rw [l.np] at h; cases h
    have n2 : a ≠ g := fun z => by subst z; rw [l.ng] at h; cases h
    rcases x a o h with q | ⟨kvs, od, e, q⟩
    · exact .inl (k a o q n1 n2)
    · exact .inr ⟨kvs, od, e, k a _ q n1 n2⟩
  bh := fun a o h n => k a o h (n p g rfl).1 (n p g rfl).2
  nw := fun a o h => .inl h
  lw := fun q r e => by
    cases e
    exact ⟨l.np, l.ng, l.ne, c, great, cells, left, turn, hp, hg, h1, h2, h3, h4, hc⟩
theorem dp_ints {K : FK} {H : Hp} : ∀ l : List Int, DpAll K H (l.map V.int) (l.map PyData.int)
  | [] => .nil
  | x :: l => .cons (.int x) (dp_ints l)
theorem lay_ints : ∀ l : List Int, PyData.canLayAll0 (l.map PyData.int) = true ∧ PyData.depthAll (l.map PyData.int) = 0
  | [] => ⟨rfl, rfl⟩
  | x :: l => by
    obtain ⟨a, b⟩ := lay_ints l
    refine ⟨?_, ?_⟩
    · show (PyData.canLay0 (.int x) && PyData.canLayAll0 (l.map PyData.int)) = true
      rw [a]; rfl
    · show max (PyData.depth (.int x)) (PyData.depthAll (l.map PyData.int)) = 0
      rw [b]; rfl
theorem shaped_ints (l : List Int) : SeqAt.shaped (.list (l.map PyData.int)) = true := by
  obtain ⟨a, b⟩ := lay_ints l
  refine shaped_of (n := 1) a ?_ (by decide)
  show PyData.depthAll (l.map PyData.int) + 1 ≤ 1
  rw [b]; exact Nat.le_refl _
theorem pure_take {Γ : Cn} (vs : List V) (H : Hp) (Q : VK) (E : XK) (h : sp_law_take Γ vs H Q E) : t_law_take Γ { nx := fun _ H2 => Q .non H2, rt := Q } (L2.start ["_law_state", "_law_size", "_law_found"] vs) H := by
  obtain ⟨hlen, L, t, ds, G, P, lw, ht, ex, r, ⟨n, rfl, hn0, hn1, hP⟩, k⟩ := h
  cases r with
  | cons r1 rr => cases rr with
    | cons r2 rr =>
      cases rr
      cases r2
      cases r1 with
      | st hL =>
        rename_i p g
        subst hL
        have l := lw p g rfl
        obtain ⟨c, great, cells, left, turn, hp, hg, g1, g2, g3, g4, g5⟩ := l.ex
        have hT : ((TMAX : Nat) : Int) = 1000000000000 := rfl
        have hcH : H c = some (.lst (cells.map V.int)) := by
          rcases ex c _ g5 with q | ⟨_, _, q, _⟩
          · exact q
          · cases q
        have ncp : c ≠ p := fun z => by subst z; rw [l.np] at g5; cases g5
        have ncg : c ≠ g := fun z => by subst z; rw [l.ng] at g5; cases g5
        -- what follows the first statement: found = left % size; left = left // size; return found
        have tail : ∀ (left' turn' : Int) (great' : List Int) (H' : Hp), H' p = some (.dK (stK g c left' turn')) → H' g = some (.lst (great'.map V.int)) → (∀ z ∈ great', 0 ≤ z) → 0 ≤ left' → 0 ≤ turn' → turn' ≤ ((t + 1 : Nat) : Int) → (∀ a o, H a = some o → a ≠ p → a ≠ g → H' a = some o) →
            tSeq (tAsg (tOp (gMod) (tOp (gIx Γ.K) (tVar 0) (tC (.str "left"))) (tVar 1)) (gName 2)) (tSeq (tAsg (tOp (gFdiv) (tOp (gIx Γ.K) (tVar 0) (tC (.str "left"))) (tVar 1)) (gSub (tVar 0) (tC (.str "left")) gSet)) (tRet (tVar 2))) { nx := fun _ H2 => Q .non H2, rt := Q } [some (.ref p), some (.int n), none] H' := by
          intro left' turn' great' H' hp' hg' q1 q2 q3 q4 q5
          refine ⟨_, rfl, ix_dk hp' st_left ⟨_, rfl, mod_i hn0 ?_⟩⟩
          refine ⟨_, rfl, ix_dk hp' st_left ⟨_, rfl, fdiv_i (wide_div hn0 (b := 64) (by omega) (by decide) (by decide)) ⟨_, rfl, set_dk hp' st_len ?_⟩⟩⟩
          rw [st_putL]
          have npg : g ≠ p := Ne.symm l.ne
          refine ⟨_, rfl, k (.int (left' % n)) (hP _ (Int.emod_nonneg _ (by omega)) (Int.emod_lt_of_pos _ hn0)) _ G _ ?_ (.int _)⟩
          refine At.law (great := great') ex l upd_same (by rw [upd_ne npg]; exact hg') q1 (Int.ediv_nonneg q2 (Int.le_of_lt hn0)) q3 q4 g5 fun a o ha n1 n2 => ?_
          rw [upd_ne n1]; exact q5 a o ha n1 n2
        show tIfS _ _ _ _ _ _
        refine ⟨_, rfl, ix_dk hp st_left (.inl ⟨rfl, _, rfl, ?_⟩)⟩
        refine ite2 (fun hl => ?_) (fun hl => ?_)
        · -- left is 0
          have e0 : left = 0 := by
            have := of_decide_eq_true hl
            injection this
          refine ⟨_, rfl, ix_dk hp st_great ⟨by show 0 ≤ sizeLine; exact Nat.zero_le _, fun q nq => ?_⟩⟩
          have nqp : p ≠ q := ne_of_none hp nq
          have nqg : g ≠ q := ne_of_none hg nq
          have hp2 : (upd H q (.lst [])) p = some (.dK (stK g c left turn)) := by rw [upd_ne nqp]; exact hp
          have hg2 : (upd H q (.lst [])) g = some (.lst (great.map V.int)) := by rw [upd_ne nqg]; exact hg
          refine .inr ⟨_, _, .lst (SqL.of hg2) (dp_ints great), .lst (SqL.of upd_same) .nil, shaped_ints great, shaped_ints [], _, rfl, ?_⟩
          cases great with
          | nil =>
            refine iteF ⟨_, rfl, rfl, p, g, c, left, turn, cells, rfl, hp2, by rw [upd_ne (ne_of_none hcH nq)]; exact hcH, g3, by omega, fun r H' hr hp3 kp => ?_⟩
            refine ⟨_, rfl, set_dk hp3 st_len ?_⟩
            rw [st_putL]
            refine tail r (turn + 1) [] _ upd_same ?_ (fun _ m => by cases m) hr (by omega) (by omega) fun a o ha n1 n2 => ?_
            · rw [upd_ne (Ne.symm l.ne)]; exact kp g _ hg2 (Ne.symm l.ne)
            · rw [upd_ne n1]; exact kp a o (by rw [upd_ne (ne_of_none ha nq)]; exact ha) n1
          | cons z zs =>
            refine iteT ⟨_, rfl, ix_dk hp2 st_great ⟨.inl ⟨rfl, _, SqL.of hg2⟩, g, _, 0, 0, .int z, rfl, rfl, hg2, by decide, by decide, ?_, rfl, ?_⟩⟩
            · show seqIndex? 0 ((V.int z :: zs.map V.int).length) = some 0
              rw [seqIndex_of (by decide) (by rw [List.length_cons]; omega)]
              rfl
            · have hp3 : (upd (upd H q (.lst [])) g (.lst (((z :: zs).map V.int).eraseIdx 0))) p = some (.dK (stK g c left turn)) := by rw [upd_ne l.ne]; exact hp2
              refine ⟨_, rfl, set_dk hp3 st_len ?_⟩
              rw [st_putL]
              refine tail z turn zs _ upd_same ?_ (fun w m => g1 w (List.mem_cons_of_mem _ m)) (g1 z List.mem_cons_self) g3 (by omega) fun a o ha n1 n2 => ?_
              · rw [upd_ne (Ne.symm l.ne), upd_same]; rfl
              · rw [upd_ne n1, upd_ne n2, upd_ne (ne_of_none ha nq)]; exact ha
        · exact tail left turn great H hp hg g1 g2 g3 (by omega) fun a o ha _ _ => ha
/-! ### pick: any item -/
def dp_law_pick : DSp := fun ds P => ∃ xs d, ds = [.st, d] ∧ seqD d = some xs ∧ xs ≠ [] ∧ xs.length ≤ LIM ∧ ∀ r ∈ xs, P r
def sp_law_pick (Γ : Cn) : Sp := lift Γ 2 1 dp_law_pick
def t_law_pick (Γ : Cn) : TS := tRet (tOp (gIx Γ.K) (tVar 1) (tFn (sp_law_take Γ) E0 (tCons (tVar 0) (tCons (tCB (gLen Γ.K) (tCons (tVar 1) (tNil))) (tNil)))))

end GP

set_option Elab.async false
set_option linter.all false
set_option maxRecDepth 100000
set_option maxHeartbeats 4000000
/-! G11: chains, keyword calls, targets of assignments, enumerate, zip on data. -/
namespace GP
open PySem PySem.Spec PyProof.Rows L2
section
variable {Γ : Cn} {L : LS} {c c1 c2 c3 n : Nat} {te ta tb tc : TE} {de da db dc : DE} {tt tu : TT} {dt du : DT} {ts tv : TS} {ds dv : DQ} {tA : TA} {dA : DA}
def dChain (f g : D → D → Option D) (a b c : DE) : DE := fun δ P => a δ fun x => b δ fun y => match f x y with
  | some (.bl k) => if k = true then c δ fun z => match g y z with
    | some r => P r
    | none => False
    else P (.bl false)
  | _ => False
theorem s_chain {r r' : R2} {f g : D → D → Option D} (hf : OpS Γ L r f) (hg : OpS Γ L r' g) (ha : ST Γ L c1 ta da) (hb : ST Γ L c2 tb db) (hc : ST Γ L c3 tc dc) : SE Γ L (c1 + (c2 + c3)) (tChain r r' ta tb tc) (dChain f g da db dc) := fun t σ δ B G H l x e hm P hp Q k => by
  refine ha t σ δ B G H l x e (by omega) _ hp _ fun v d1 G1 H1 a1 r1 q1 => ?_
  refine hb (t + c1) σ δ B G1 H1 a1.lw a1.gh (e.step a1) (by omega) _ q1 _ fun w d2 G2 H2 a2 r2 q2 => ?_
  have e2 := (e.step a1).step a2
  split at q2
  · rename_i kk hz
    refine hf (t + c1 + c2) G2 H2 v w d1 d2 (.bl kk) a2.lw a2.gh (r1.step a2) r2 hz _ fun u G3 H3 a3 r3 => ⟨kk, bl_of r3.t (H := H3), ?_⟩
    cases kk with
    | false => exact k _ _ G3 H3 (((a1.tr a2).tr a3).le (by omega)) (.bl false) q2
    | true =>
      refine hc (t + c1 + c2) σ δ B G3 H3 a3.lw a3.gh (e2.step a3) (by omega) _ q2 _ fun z d3 G4 H4 a4 r4 q4 => ?_
      split at q4
      · rename_i rr hr
        refine hg (t + c1 + c2 + c3) G4 H4 w z d2 d3 rr a4.lw a4.gh ((r2.step a3).step a4) r4 hr Q fun u2 G5 H5 a5 r5 => k u2 rr G5 H5 ?_ r5 q4
        have := (((a1.tr a2).tr a3).tr a4).tr a5
        have ec : t + c1 + c2 + c3 = t + (c1 + (c2 + c3)) := by omega
        rw [ec] at this; exact this
      · exact q4.elim
  · exact q2.elim
def dAsgG (d : DE) (g : DG) : DQ := fun N δ => d δ fun x => g x δ N.nx
theorem s_asgG {g : TG} {dg : DG} {sl : List Nat} (h : SE Γ L c te de) (hg : SG Γ L g dg sl) : SS Γ L c (tAsg te g) (dAsgG de dg) := fun t σ δ B G0 G H a e hc N hp D E =>
  h t σ δ B G H a.lw a.gh e hc _ hp _ fun v d G1 H1 a1 r1 q => hg (t + c) σ δ B G1 H1 v d a1.lw a1.gh (e.step a1) r1 _ q _ fun σ2 δ2 e2 _ q2 => E.nx σ2 δ2 G1 H1 (a.tr a1) e2 q2
/-! ### f(k = v, ..) -/
def pickL {α : Type} (z : α) (perm : List Nat) (xs : List α) : List α := if xs.length = perm.length then perm.map fun i => xs.getD i z else []
def tFnK (sp : Sp) (perm : List Nat) (E : XK) (t : TA) : TE := fun σ H Q => t σ H fun vs H1 => sp (pickL .non perm vs) H1 Q E
/-- a def that can be called by keywords ks -/
structure CalK (P : Program) (w : World) (K : FK) (mg : Str → Option Value) (base : Heap) (CX : CXT) (x : Str) (k : Nat) (ps ks : List Str) (perm : List Nat) (sp : Sp) : Prop where
  ex : ∃ f fd, FnG P w K mg base CX k f fd ps sp ∧ mg x = some (.ref f) ∧ PySem.W.keepIn K (.ref f) = true ∧ 0 < ps.length ∧ ∀ (s : Shared) (ws : List Value), K.In s.heap → ws.length = perm.length → BindsTo s fd ⟨[], ks.zip ws⟩ (ps.zip (pickL .none perm ws))
theorem vals_getD {vs : List V} {us : List Value} (r : Vals vs us) : ∀ perm : List Nat, Vals (perm.map fun i => vs.getD i .non) (perm.map fun i => us.getD i .none)
  | [] => .nil
  | i :: perm => by
    refine .cons ?_ (vals_getD r perm)
    show RelV (vs.getD i .non) (us.getD i .none)
    rw [List.getD_eq_getElem?_getD, List.getD_eq_getElem?_getD]
    cases h : vs[i]? with
    | none => rw [Vals.none_of r h]; rfl
    | some v =>
      obtain ⟨u, hu, ru⟩ := Vals.get r h
      rw [hu]; exact ru
theorem vals_pick {vs : List V} {us : List Value} (r : Vals vs us) (perm : List Nat) : Vals (pickL .non perm vs) (pickL .none perm us) := by
  unfold pickL
  rw [r.length]
  split
  · exact vals_getD r perm
  · exact .nil
def dFnK (s : DSp) (perm : List Nat) (a : DA) : DE := fun δ P => a δ fun ds => s (pickL .non perm ds) P
theorem RepL.getD {G : Hp} {vs : List V} {xs : List D} (r : RepL Γ L G vs xs) : ∀ perm : List Nat, RepL Γ L G (perm.map fun i => vs.getD i .non) (perm.map fun i => xs.getD i .non)
  | [] => .nil
  | i :: perm => by
    refine .cons ?_ (RepL.getD r perm)
    show Rep Γ L G (vs.getD i .non) (xs.getD i .non)
    rw [List.getD_eq_getElem?_getD, List.getD_eq_getElem?_getD]
    cases h : vs[i]? with
    | none =>
      have hl := r.len
      have h2 : xs[i]? = none := List.getElem?_eq_none_iff.mpr (by have := List.getElem?_eq_none_iff.mp h; omega)
      rw [h2]; exact .non
    | some v =>
      obtain ⟨d, hd, rd⟩ := r.at' h
      rw [hd]; exact rd
theorem RepL.pick {G : Hp} {vs : List V} {xs : List D} (r : RepL Γ L G vs xs) (perm : List Nat) : RepL Γ L G (pickL .non perm vs) (pickL .non perm xs) := by
  unfold pickL
  rw [r.len]
  split
  · exact r.getD perm
  · exact .nil
theorem s_fnK {s : DSp} {cf m : Nat} {E : XK} {perm : List Nat} (ha : SA Γ L n c tA dA) (hm : perm.length = m := by rfl) (hn : n = perm.length := by rfl) : SE Γ L (c + cf) (tFnK (lift Γ m cf s) perm E tA) (dFnK s perm dA) := fun t σ δ B G H l x e hc P hp Q k => by
  refine ha t σ δ B G H l x e (by omega) _ hp _ fun vs xs G1 H1 a1 r1 hl q1 => ⟨by unfold pickL; rw [r1.len, hl, if_pos hn, List.length_map]; exact hm, L, t + c, _, G1, P, a1.lw, by omega, a1.gh, r1.pick perm, q1, fun r hr v G2 H2 a2 r2 => ?_⟩
  exact k v r G2 H2 (by rw [← Nat.add_assoc]; exact a1.tr a2) r2 hr
end
section
variable {X : Cx} {CX : CXT} {k : Nat} {ps ks : List Str} {perm : List Nat} {sp : Sp} {E : XK} {x : Str} {p pos : Pos} {kw : Keyword} {kws : List Keyword} {t : TA}
theorem pe_fnK (c : CalK X.prog X.w X.K X.mg X.base CX x k ps ks perm sp) {j : Nat} (hr : RG j X.A) (hj : k ≤ j) (hg : Gl X x) (hx : Passes CX X E) (ha : PK X (kw :: kws) t) (hdb : (x == ("__debug__" : Str)) = false := by decide)
    (hall : (backToKw pos (keywordEach (kw :: kws) X.env)).all (·.1.isSome) = true := by rfl) (hks : (backToKw pos (keywordEach (kw :: kws) X.env)).filterMap (·.1) = ks := by rfl) (hpl : ((backTo pos (starEach [] X.env)).any (·.1) || (backToKw pos (keywordEach (kw :: kws) X.env)).any (·.1.isNone)) = false := by rfl) : PE X (.Call (.Name x p) [] (kw :: kws) pos) (tFnK sp perm E t) := by
  obtain ⟨f, fd, F, hm, hk, h0, hb⟩ := c.ex
  refine ⟨fun pins s σ H Q I h => wpAny_Call_Name_kw (ld_glob I hg hm ?_ hdb)⟩
  refine PySem.W.callWith_KW0 (h₀ := X.base) I.mod.kin hk hall (thn (ha.run pos pins s σ H _ I h) fun ws s2 z => ?_) hpl
  obtain ⟨vs, H1, I1, r, q⟩ := z
  refine ⟨I1.kIn, ?_⟩
  rw [hks]
  have hl := F.len _ _ _ _ q
  have hv : vs.length = perm.length := by
    by_cases e : vs.length = perm.length
    · exact e
    · unfold pickL at hl
      rw [if_neg e] at hl
      simp at hl
      omega
  exact F.wp (us := []) (hr.mono hj) hx I1 (fun _ => hb _ ws I1.kIn (by rw [← r.length]; exact hv)) (vals_pick r perm) q
end
end GP

set_option Elab.async false
set_option linter.all false
set_option maxRecDepth 100000
set_option maxHeartbeats 4000000
/-! G12: the law's state is begun; a law by its data. -/
namespace GP
open PySem PySem.Spec PyProof.Rows L2
def sp_law_begun (Γ : Cn) : Sp := fun vs H Q _ => vs.length = 1 ∧ ∃ (a : Addr) (ns : List Int), vs = [.ref a] ∧ SqL Γ.K H a (ns.map V.int) ∧ ns.length ≤ 63 ∧
  ∀ (p g c : Addr) (great cells : List Int) (H' : Hp), H p = none → H g = none → H c = none → p ≠ g → p ≠ c → g ≠ c → H' p = some (.dK (stK g c 0 0)) → H' g = some (.lst (great.map V.int)) → (∀ z ∈ great, 0 ≤ z) → H' c = some (.lst (cells.map V.int)) → (∀ b o, H b = some o → H' b = some o) → Q (.ref p) H'
def t_law_begun (Γ : Cn) : TS := tSeq (tAsg (tLc (gIter Γ.K (tVar 0)) (gName 2) (tTest (tOp (gGe) (tVar 2) (tOp (gPow) (tC (.int 10)) (tC (.int 18))))) (tOp (gDif) (tVar 2) (tOp (gPow) (tC (.int 10)) (tC
   (.int 18)))) [2]) (gName 1)) (tRet (tDisp [(tC (.str "great"), tVar 1), (tC (.str "cells"), tCB (gList Γ.K) (tCons (tVar 0) (tNil))), (tC (.str "left"), tC (.int 0)),
   (tC (.str "turn"), tC (.int 0))]))
theorem merge_st (g c : Addr) : mergeK [] [(Sum.inr ("great" : Str), V.ref g), (Sum.inr ("cells" : Str), V.ref c), (Sum.inr ("left" : Str), V.int 0), (Sum.inr ("turn" : Str), V.int 0)] = stK g c 0 0 := by
  have n1 := kne1
  have n2 := kne2
  have n3 := kne3
  have n4 := kne4
  have n5 := kne5
  have n6 := kne6
  have h1 : putK ([] : List (Key × V)) (Sum.inr ("great" : Str)) (V.ref g) = [(Sum.inr ("great" : Str), V.ref g)] := putK_new _ valV_nil
  have h2 : putK [(Sum.inr ("great" : Str), V.ref g)] (Sum.inr ("cells" : Str)) (V.ref c) = [(Sum.inr ("great" : Str), V.ref g), (Sum.inr ("cells" : Str), V.ref c)] := putK_new _ ((valV_neg n6).trans valV_nil)
  have h3 : putK [(Sum.inr ("great" : Str), V.ref g), (Sum.inr ("cells" : Str), V.ref c)] (Sum.inr ("left" : Str)) (V.int 0) = [(Sum.inr ("great" : Str), V.ref g), (Sum.inr ("cells" : Str), V.ref c), (Sum.inr ("left" : Str), V.int 0)] := putK_new _ ((valV_neg n4).trans ((valV_neg n5).trans valV_nil))
  have h4 : putK [(Sum.inr ("great" : Str), V.ref g), (Sum.inr ("cells" : Str), V.ref c), (Sum.inr ("left" : Str), V.int 0)] (Sum.inr ("turn" : Str)) (V.int 0) = stK g c 0 0 := putK_new _ ((valV_neg n1).trans ((valV_neg n2).trans ((valV_neg n3).trans valV_nil)))
  unfold mergeK
  simp only [List.foldl_cons, List.foldl_nil]
  rw [h1, h2, h3, h4]
theorem op_cc {r : R2} {v w : V} {σ : L2.St} {H : Hp} {Q : VK} (h : r v w H Q) : tOp r (tC v) (tC w) σ H Q := h
theorem pure_begun {Γ : Cn} (vs : List V) (H : Hp) (Q : VK) (E : XK) (h : sp_law_begun Γ vs H Q E) : t_law_begun Γ { nx := fun _ H2 => Q .non H2, rt := Q } (L2.start ["_law_script", "_law_great", "_law_cell"] vs) H := by
  obtain ⟨hlen, a, ns, rfl, hS, hn, k⟩ := h
  refine ⟨_, rfl, .inl ⟨a, rfl, ⟨_, hS⟩, fun D hD => ?_⟩⟩
  have ex : ∀ o, Ex H (upd H D o) := fun o => Ex.new hD
  have e18 : (10 : Int) ^ (18 : Int).toNat = 1000000000000000000 := by decide
  refine lc_list (K := Γ.K) (a := a) (xs := ns.map V.int) (fun i H' => ∃ great : List Int, H' = upd H D (.lst (great.map V.int)) ∧ (∀ z ∈ great, 0 ≤ z) ∧ great.length ≤ i) ⟨[], rfl, fun _ m => (by cases m), Nat.le_refl _⟩ (fun i H' _ ⟨gr, e, _⟩ => by rw [e]; exact (ex _).sl hS) ?_ ?_
  · rintro i x H' hi ⟨gr, rfl, hz, hl⟩
    obtain ⟨z, rfl⟩ : ∃ z, x = V.int z := by
      have hm := List.mem_of_getElem? hi
      obtain ⟨z, _, h2⟩ := List.mem_map.mp hm
      exact ⟨z, h2.symm⟩
    have hil : i < 63 := by
      have := (List.getElem?_eq_some_iff.mp hi).1
      rw [List.length_map] at this
      omega
    refine ⟨rfl, _, rfl, op_cc (pow_i ⟨by decide, by decide, by decide⟩ ⟨_, _, rfl, rfl, _, rfl, ?_⟩)⟩
    refine ite2 (fun hc => ?_) (fun hc => ?_)
    · refine ⟨_, rfl, op_cc (pow_i ⟨by decide, by decide, by decide⟩ (dif_i ⟨_, upd_same, by rw [List.length_map, sizeLine_eq]; omega, gr ++ [z - 10 ^ (18 : Int).toNat], ?_, fun w m => ?_, by rw [List.length_append]; show gr.length + 1 ≤ i + 1; omega⟩))⟩
      · rw [upd_upd, List.map_append]; rfl
      · rcases List.mem_append.mp m with h | h
        · exact hz w h
        · have e : w = z - 10 ^ (18 : Int).toNat := List.mem_singleton.mp h
          have := of_decide_eq_true hc
          rw [e18] at e this
          omega
    · exact ⟨gr, rfl, hz, by omega⟩
  · rintro H' ⟨great, rfl, hz, hl⟩
    have hS1 := (ex (.lst (great.map V.int))).sl hS
    -- the display
    intro p np
    have npD : p ≠ D := fun z => by subst z; rw [upd_same] at np; cases np
    have np0 : H p = none := by rw [upd_ne npD] at np; exact np
    refine ⟨_, rfl, _, rfl, .inl ⟨a, _, rfl, .inl ((Ex.new np).sl hS1), fun c nc => ?_⟩⟩
    have ncp : c ≠ p := fun z => by subst z; rw [upd_same] at nc; cases nc
    have ncD : c ≠ D := fun z => by subst z; rw [upd_ne (Ne.symm npD), upd_same] at nc; cases nc
    have nc0 : H c = none := by rw [upd_ne ncp, upd_ne ncD] at nc; exact nc
    refine ⟨by rw [upd_ne (Ne.symm ncp), upd_same], [(Sum.inr ("great" : Str), V.ref D), (Sum.inr ("cells" : Str), V.ref c), (Sum.inr ("left" : Str), V.int 0), (Sum.inr ("turn" : Str), V.int 0)], rfl, by show 4 ≤ 15; decide, ?_⟩
    rw [merge_st]
    refine k p D c great ns _ np0 hD nc0 npD (Ne.symm ncp) (Ne.symm ncD) upd_same ?_ hz ?_ fun b o hb => ?_
    · rw [upd_ne (Ne.symm npD), upd_ne (Ne.symm ncD), upd_ne (Ne.symm npD), upd_same]
    · rw [upd_ne ncp, upd_same]
    · rw [upd_ne (ne_of_none hb np0), upd_ne (ne_of_none hb nc0), upd_ne (ne_of_none hb np0), upd_ne (ne_of_none hb hD)]; exact hb
/-! ### a law: its first statement begins the state, the rest goes by data -/
def sp_law (Γ : Cn) : Sp := fun vs H Q _ => vs.length = 1 ∧ ∃ (a : Addr) (ns : List Int), vs = [.ref a] ∧ SqL Γ.K H a (ns.map V.int) ∧ ns.length ≤ 63 ∧ ∀ H', Q (.bl true) H'
theorem pure_law {Γ : Cn} {c : Nat} {rest : TS} {d : DQ} {N : List Str} (hN : 2 ≤ N.length) (snd : ∀ L, SS Γ L c rest d) (hc : c ≤ TMAX) (hd : d { nx := fun _ => False, rt := fun x => x = .bl true } (none :: some (.sh .st) :: List.replicate (N.length - 2) none)) (vs : List V) (H : Hp) (Q : VK) (E : XK) (h : sp_law Γ vs H Q E) :
    tSeq (tAsg (tFn (sp_law_begun Γ) E0 (tCons (tVar 0) tNil)) (gName 1)) rest { nx := fun _ H2 => Q .non H2, rt := Q } (L2.start N vs) H := by
  obtain ⟨hlen, a, ns, rfl, hS, hn, k⟩ := h
  obtain ⟨m, hm⟩ : ∃ m, N.length = m + 2 := ⟨N.length - 2, by omega⟩
  have es : L2.start N [.ref a] = some (.ref a) :: none :: List.replicate m none := by
    unfold L2.start
    rw [hm]
    show [some (V.ref a)] ++ List.replicate (m + 2 - 1) none = _
    rw [show m + 2 - 1 = m + 1 by omega, List.replicate_succ]
    rfl
  rw [es]
  refine ⟨_, rfl, rfl, a, ns, rfl, hS, hn, fun p g cc great cells H1 np ng nc n1 n2 n3 hp hg hz hcc kp => ?_⟩
  show rest _ ((some (V.ref a) :: none :: List.replicate m none).set 1 (some (.ref p))) H1
  let G : Hp := fun b => if b = p ∨ b = g then none else H1 b
  have gG : ∀ b o, G b = some o → H1 b = some o := fun b o e => by
    have e : (if b = p ∨ b = g then none else H1 b) = some o := e
    split at e
    · cases e
    · exact e
  have lw : LawAt (some (p, g)) 0 G H1 := fun q r e => by
    cases e
    refine ⟨if_pos (.inl rfl), if_pos (.inr rfl), n1, cc, great, cells, 0, 0, hp, hg, hz, Int.le_refl _, Int.le_refl _, Int.le_refl _, ?_⟩
    show (if cc = p ∨ cc = g then none else H1 cc) = _
    rw [if_neg (fun z => z.elim (fun z => n2 z.symm) (fun z => n3 z.symm))]
    exact hcc
  have a0 : At (some (p, g)) 0 H1 G G H1 := At.start (fun b o e => .inl (gG b o e)) lw
  refine snd (some (p, g)) 0 _ _ H1 G G H1 a0 ?_ (by omega) _ hd _ ⟨fun _ _ _ _ _ _ q => q.elim, fun v x G2 H2 a2 r2 q => ?_, fun _ _ _ _ _ _ q => q.elim, fun _ _ _ _ _ _ q => q.elim⟩
  · rw [hm, show m + 2 - 2 = m by omega]
    have nn : ∀ (i : Nat) (s : Sl), (none :: some (Sl.sh D.st) :: List.replicate m none : DS)[i]? = some (some s) → i = 1 ∧ s = .sh .st := fun i s h => by
      match i, h with
      | 0, h => cases h
      | 1, h => cases h; exact ⟨rfl, rfl⟩
      | i + 2, h =>
        have h : (List.replicate m (none : Option Sl))[i]? = some (some s) := h
        rw [List.getElem?_replicate] at h
        split at h <;> cases h
    refine ⟨fun i d h => ?_, fun i d h => ?_, fun i j d e q _ h => ?_, ?_⟩
    · obtain ⟨rfl, e⟩ := nn i _ h
      cases e
      exact ⟨.ref p, rfl, .st rfl⟩
    · obtain ⟨_, e⟩ := nn i _ h
      cases e
    · obtain ⟨_, e⟩ := nn i _ h
      cases e
    · rw [List.length_set]; simp
  · subst q
    cases r2
    exact k H2
end GP

set_option Elab.async false
set_option linter.all false
set_option maxRecDepth 100000
set_option maxHeartbeats 4000000
/-! G13: the law's call from outside, no repr around; the end of a row. -/
namespace GP
open PySem PySem.Spec PyProof.Rows L2
theorem callerG {k : Nat} (h : Room k callerA) : RG k callerA := ⟨h, rfl⟩
theorem callG {P : Program} {w : World} {K : FK} {mg mb : Str → Option Value} {k : Nat} {fa a : Addr} {fd : FuncData} {x : Str} {sp : Sp} {s1 : Shared} {us : List Value} {ns : List Int}
    (kin : K.In s1.heap) (gl : s1.heap.Ns mainGlobals mg) (bl : s1.heap.Ns builtinsNs mb) (bb : ∀ y : Str, y ≠ "__name__" → mb y = bootBuiltins y) (nl : s1.heap.NoLimit) (ge : s1.gens = #[])
    (ha : s1.heap.get? a = some { cls := .type "list", data := .seq us.toArray }) (ai : IntsAre us ns) (sz : ns.length ≤ sizeLine) (rm : Room k callerA)
    (F : ∀ base : Heap, K.In base → base.Ns mainGlobals mg → FnG P w K mg base CX0 k fa fd [x] sp) (bnd : ∀ (s : Shared) (u : Value), BindsTo s fd ⟨[u], []⟩ [(x, u)])
    (pr : ∀ H : Hp, SqL K H a (ns.map V.int) → sp [.ref a] H (fun v _ => v = .bl true) E0) :
    codeAny (model P w) callerA (.call (.ref fa) ⟨[.ref a], []⟩) (fun r s2 => r = .ok (.ret (.bool true)) ∧ OldK s1.heap s2.heap ∧ s2.os = s1.os ∧ AllBare s2.gens) s1 := by
  let ob : Obj := { cls := .type "list", data := .seq us.toArray }
  let H : Hp := fun b => if b = a ∧ K.lookup a = none then some (.frz ob (.lst (ns.map V.int))) else none
  have inv : ∀ b u, H b = some u → b = a ∧ K.lookup a = none ∧ u = .frz ob (.lst (ns.map V.int)) := fun b u z => by
    have z : (if b = a ∧ K.lookup a = none then some (HO.frz ob (.lst (ns.map V.int))) else none) = some u := z
    split at z
    · rename_i q
      cases z
      exact ⟨q.1, q.2, rfl⟩
    · cases z
  have ra : Vals (ns.map V.int) us := vals_ints ai
  have tr : SqL K H a (ns.map V.int) := by
    cases q : K.lookup a with
    | none => exact .inl (.inr ⟨ob, if_pos ⟨rfl, q⟩⟩)
    | some o =>
      have z := kin a o q
      rw [ha] at z
      cases z
      exact .inr ⟨_, us.toArray, _, q, rfl, rfl, rfl, by rw [List.size_toArray, ai.length]; exact sz, by simpa using ra⟩
  have ok : HOk P w H s1.heap := fun b u z => by
    obtain ⟨rfl, _, rfl⟩ := inv b u z
    exact ⟨ha, by rw [List.length_map]; exact sz, us, _, ra, ha⟩
  have no : ∀ {b : Addr} {o : Obj}, s1.heap.get? b = some o → o ≠ ob ∨ K.lookup a ≠ none → H b = none := fun {b o} z c => by
    cases q : H b with
    | none => rfl
    | some u =>
      obtain ⟨rfl, n, _⟩ := inv b u q
      rw [ha] at z
      cases z
      exact c.elim (fun c => (c rfl).elim) fun c => (c n).elim
  have nsB : ∀ {b : Addr} {m : Str → Option Value}, s1.heap.Ns b m → (hidT s1.heap H).Ns b m := fun {b m} ⟨o, es, ep, z, d, r⟩ =>
    ⟨o, es, ep, hidT_get z (no z (.inl fun c => by subst c; have d : Data.seq us.toArray _ = Data.dict es ep := d; cases d)), d, r⟩
  have kB : K.In (hidT s1.heap H) := fun b o z => hidT_get (kin b o z) (by
    cases q : H b with
    | none => rfl
    | some u =>
      obtain ⟨rfl, n, _⟩ := inv b u q
      rw [n] at z; cases z)
  obtain ⟨mc, n1, n2⟩ := nl
  have md : Mod K mg (hidT s1.heap H) := ⟨kB, nsB gl, ⟨mb, nsB bl, bb⟩, mc, nsB n1, n2⟩
  have e0 : Env0 P w K mg (hidT s1.heap H) callerA [] s1 H := by
    refine ⟨rfl, md, fun b o z => of_hidT z, Nat.le_of_eq (hidT_size _ _), trivial, ?_, ok, .of_eq ge⟩
    intro b m
    exact absurd (show b ∈ ([] : List Addr) from m) (by simp)
  have run := (F _ kB (nsB gl)).run callerA [] s1 H ⟨[.ref a], []⟩ [.ref a] [.ref a] _ E0 (callerG rm) e0 (bnd s1 (.ref a)) (.cons rfl .nil) (pr H tr)
  refine codeAny_mono run fun r s2 z => ?_
  match r, z with
  | .error _, z => exact z.elim
  | .ok .next, z => exact z.elim
  | .ok .brk, z => exact z.elim
  | .ok .cont, z => exact z.elim
  | .ok (.ret u), z =>
    obtain ⟨v, H2, os, br, un, ok2, rv, q⟩ := z
    obtain rfl : v = .bl true := q
    obtain rfl : u = Value.bool true := rv
    refine ⟨rfl, OldK.of_keep fun b o eb => ?_, os, br⟩
    cases hb : H b with
    | none => exact un.keep b o eb hb (fun m => absurd (show b ∈ ([] : List Addr) from m) (by simp)) (by simp)
    | some u =>
      obtain ⟨rfl, _, rfl⟩ := inv b u hb
      obtain ⟨g1, _⟩ := ok2 b _ (un.frzs b ob _ hb)
      rw [ha] at eb
      cases eb
      exact g1
/-- the end of a row: from the law's promise -/
theorem walkG {l : PySem.W.OpenLaw} {k : Nat} {q : Program} {loose : List Str} {XP : (Str → Option Value) → Heap → Prop} {YP : World → Heap → Prop} {d : DefRec} {K : Params → PySem.W.Frag} {x : Str}
    (hn : l.most = some 63) (df : d.params.defaults = []) (rm : Room k callerA) (hY : ∀ (w : World) (h : Heap), YP w h → (K w.params).In h)
    (F : ∀ (w : World) (mg : Str → Option Value) (fa : Addr) (h : Heap), (K w.params).In h → h.Ns mainGlobals mg → mg d.name = some (.ref fa) →
      ∃ (Γ : Cn) (fd : FuncData), Γ.K = K w.params ∧ (∀ (s : Shared) (u : Value), BindsTo s fd ⟨[u], []⟩ [(x, u)]) ∧ ∀ base : Heap, (K w.params).In base → base.Ns mainGlobals mg → FnG l.prog w (K w.params) mg base CX0 k fa fd [x] (sp_law Γ)) :
    PySem.W.WalkO q loose XP YP l.row.toRowW d [] (fun f vs => PySem.call f vs) := by
  refine Att.attach_call hn df fun w s0 s1 mg mb fa o pm cd doc a us ns Gr Y _ _ _ hmg hobj hi hle hg => ?_
  obtain ⟨Γ, fd, gk, hb, hF⟩ := F w mg fa _ (hY w _ Y) Gr.T.g hmg
  refine callG (hY w _ Y) Gr.T.g Gr.T.b Gr.T.builtins Gr.T.nolimit hg hobj hi (Nat.le_trans hle (by rw [sizeLine_eq]; decide)) rm hF hb fun H hS => ?_
  exact ⟨rfl, a, ns, rfl, by rw [gk]; exact hS, hle, fun _ => rfl⟩
/-- a constant of the module -/
theorem pe_con {X : Cx} {x : Str} {v : V} {pos : Pos} (hg : Gl X x) (h : ∃ u, X.mg x = some u ∧ RelV v u) (hd : (x == ("__debug__" : Str)) = false := by decide) : PE X (.Name x pos) (tC v) := by
  obtain ⟨u, hm, r⟩ := h
  exact pe_glob hg hm r hd
/-- a tuple that the top has made -/
theorem rep_top {Γ : Cn} {L : LS} {G : Hp} {a : Addr} {oq : Option Addr} {its : Array Value} {n : Nat} {sq : Array (Option Value)} {xs : List V} {ds : List D} (y : Γ.K.lookup a = some ⟨.type "tuple", oq, .seq its n, sq⟩) (hz : its.size ≤ 1000) (v : Vals xs its.toList) (r : RepL Γ L G xs ds) (z : ds.length ≤ LIM) : Rep Γ L G (.ref a) (.tup ds) :=
  .tup (.inr ⟨_, its, n, y, rfl, rfl, Nat.le_trans hz (by rw [sizeLine_eq]; decide), v⟩) r z
theorem cal_mk {P : Program} {w : World} {K : FK} {mg : Str → Option Value} {base : Heap} {x qual : Str} {st : Stmt} {f : Addr} {fd : FuncData} {k : Nat} {ps : List Str} {sp : Sp} (F : Fun K x qual st f fd) (m : mg x = some (.ref f)) (b : Binds K fd ps []) (o : FnG P w K mg base CX0 k f fd ps sp) : Cal P w K mg base CX0 x k ps sp := ⟨f, fd, o, m, F.kp, b⟩
end GP

set_option Elab.async false
set_option linter.all false
set_option maxRecDepth 100000
set_option maxHeartbeats 4000000
/-! G14: comprehensions over data in one step; pick; words. -/
namespace GP
open PySem PySem.Spec PyProof.Rows L2
theorem lcL_yes {i : Nat} {de : DE} {P : D → Prop} {δ : DS} (f : D → D) : ∀ (items acc : List D), (∀ x ∈ items, ∀ R : D → Prop, R (f x) → de (δ.set i (some (.sh x))) R) → P (.lst (acc ++ items.map f)) → dLcL (dName i) dYes de P δ items acc
  | [], acc, _, h => by
    rw [List.map_nil, List.append_nil] at h
    exact h
  | x :: items, acc, hf, h => by
    show if true = true then de (δ.set i (some (.sh x))) (fun y => dLcL (dName i) dYes de P δ items (acc ++ [y])) else dLcL (dName i) dYes de P δ items acc
    rw [if_pos rfl]
    refine hf x List.mem_cons_self _ (lcL_yes f items _ (fun y m => hf y (List.mem_cons_of_mem _ m)) ?_)
    rw [List.append_assoc]
    exact h
theorem lcL_if {i : Nat} {dt : DT} {de : DE} {P : D → Prop} {δ : DS} (p : D → Bool) (f : D → D) : ∀ (items acc : List D), (∀ x ∈ items, ∀ R : Bool → Prop, R (p x) → dt (δ.set i (some (.sh x))) R) → (∀ x ∈ items, ∀ R : D → Prop, R (f x) → de (δ.set i (some (.sh x))) R) → P (.lst (acc ++ (items.filter p).map f)) → dLcL (dName i) dt de P δ items acc
  | [], acc, _, _, h => by
    rw [List.filter_nil, List.map_nil, List.append_nil] at h
    exact h
  | x :: items, acc, hp, hf, h => by
    refine hp x List.mem_cons_self _ ?_
    by_cases e : p x = true
    · rw [if_pos e]
      rw [List.filter_cons_of_pos e, List.map_cons] at h
      refine hf x List.mem_cons_self _ (lcL_if p f items _ (fun y m => hp y (List.mem_cons_of_mem _ m)) (fun y m => hf y (List.mem_cons_of_mem _ m)) ?_)
      rw [List.append_assoc]
      exact h
    · rw [if_neg e]
      rw [List.filter_cons_of_neg e] at h
      exact lcL_if p f items _ (fun y m => hp y (List.mem_cons_of_mem _ m)) (fun y m => hf y (List.mem_cons_of_mem _ m)) h
theorem lcL_any {i : Nat} {de : DE} {P : D → Prop} {δ : DS} (S : D → Prop) : ∀ (items acc : List D), (∀ x ∈ items, ∀ R : D → Prop, (∀ y, S y → R y) → de (δ.set i (some (.sh x))) R) → (∀ ys : List D, ys.length = items.length → (∀ y ∈ ys, S y) → P (.lst (acc ++ ys))) → dLcL (dName i) dYes de P δ items acc
  | [], acc, _, h => by
    have := h [] rfl (fun _ m => by cases m)
    rw [List.append_nil] at this
    exact this
  | x :: items, acc, hf, h => by
    show if true = true then de (δ.set i (some (.sh x))) (fun y => dLcL (dName i) dYes de P δ items (acc ++ [y])) else dLcL (dName i) dYes de P δ items acc
    rw [if_pos rfl]
    refine hf x List.mem_cons_self _ fun y sy => lcL_any S items _ (fun y m => hf y (List.mem_cons_of_mem _ m)) fun ys hl hs => ?_
    have := h (y :: ys) (by rw [List.length_cons, List.length_cons, hl]) (fun z m => (List.mem_cons.mp m).elim (fun e => e ▸ sy) (hs z))
    rw [List.append_assoc]
    exact this
/-- a loop by an invariant of the number of turns -/
theorem for_inv {dg : DG} {db : DQ} {N : DN} (I : Nat → DS → Prop) : ∀ (items : List D) (k : Nat) (δ : DS), I k δ → (∀ j x δ, items[j]? = some x → I (k + j) δ → dg x δ fun δ' => ∀ M : DN, M.rt = N.rt → M.own = N.own → (∀ δ2, I (k + j + 1) δ2 → M.nx δ2) → (∀ δ2, I (k + j + 1) δ2 → M.ct δ2) → M.bk = N.nx → db M δ') → (∀ (x : D) (δ : DS) (P Q : DS → Prop), (∀ δ2, P δ2 → Q δ2) → dg x δ P → dg x δ Q) → (∀ δ, I (k + items.length) δ → N.nx δ) → dForL dg db N items δ
  | [], k, δ, h0, _, _, h => h δ h0
  | x :: items, k, δ, h0, hs, mono, h => by
    have rest : ∀ δ2, I (k + 1) δ2 → dForL dg db N items δ2 := fun δ2 h2 => for_inv I items (k + 1) δ2 h2 (fun j y δ3 hj h3 => by
      have := hs (j + 1) y δ3 (by simpa using hj) (by rw [show k + (j + 1) = k + 1 + j by omega]; exact h3)
      rw [show k + (j + 1) = k + 1 + j by omega] at this
      exact this) mono (fun δ3 h3 => h δ3 (by rw [List.length_cons, show k + (items.length + 1) = k + 1 + items.length by omega]; exact h3))
    exact mono x δ _ _ (fun δ2 h2 => h2 _ rfl rfl (fun δ3 h3 => rest δ3 h3) (fun δ3 h3 => rest δ3 h3) rfl) (hs 0 x δ rfl h0)
theorem name_mono (i : Nat) (x : D) (δ : DS) (P Q : DS → Prop) (h : ∀ δ2, P δ2 → Q δ2) (q : dName i x δ P) : dName i x δ Q := h _ q
/-! ### pick -/
def d_law_pick : DQ := dRet (dOp fIx (dVar 1) (dFn dp_law_take (dCons (dVarS 0) (dCons (dCB fLen (dCons (dVar 1) (dNil))) (dNil)))))
theorem snd_law_pick {Γ : Cn} {L : LS} : SS Γ L 1 (t_law_pick Γ) d_law_pick := by
  unfold t_law_pick d_law_pick
  exact s_ret (s_op o_ix (s_var 1) (SE.t (s_fn (s := dp_law_take) (cf := 1) (s_cons (s_varS 0) (s_cons (s_cb k_len (s_consT (s_var 1) (s_nilT))) (s_nil))))))
theorem fLen_seq {d : D} {xs : List D} (h : seqD d = some xs) : fLen [d] = some (.int xs.length) := by
  cases d <;> first | (cases h; done) | skip
  · cases h
    rename_i x
    show some (D.int (x.length : Int)) = _
    rw [List.length_map]
    rfl
  · cases h; rfl
  · cases h; rfl
theorem atI_map {α β : Type} (f : α → β) (xs : List α) (i : Int) : atI (xs.map f) i = (atI xs i).map f := by
  unfold atI
  rw [List.length_map]
  cases ixN xs.length i with
  | none => rfl
  | some j => show (xs.map f)[j]? = (xs[j]?).map f; rw [List.getElem?_map]
theorem fIx_seq {d : D} {xs : List D} (h : seqD d = some xs) (i : Int) : fIx d (.int i) = atI xs i := by
  cases d <;> first | (cases h; done) | skip
  · cases h
    rw [atI_map]
    rfl
  · cases h; rfl
  · cases h; rfl
theorem atI_nat {α : Type} {xs : List α} {i : Int} (h0 : 0 ≤ i) (h1 : i < xs.length) : ∃ x, atI xs i = some x ∧ x ∈ xs ∧ xs[i.toNat]? = some x := by
  have hi : i.toNat < xs.length := by omega
  refine ⟨xs[i.toNat], ?_, List.getElem_mem _, List.getElem?_eq_getElem hi⟩
  unfold atI ixN
  rw [if_pos h0, if_pos h1]
  exact List.getElem?_eq_getElem hi
theorem dd_law_pick : ∀ xs P, xs.length = 2 → dp_law_pick xs P → d_law_pick { nx := fun _ => P .non, rt := P } (startD 2 xs) := by
  intro xs P _ h
  rcases h with ⟨ys, d, h0, hs, hne, hl, h⟩
  subst h0
  refine ⟨rfl, ?_⟩
  show match fLen [d] with
    | some z => dp_law_take [.st, z] fun y => match fIx d y with
      | some z => P z
      | none => False
    | none => False
  rw [fLen_seq hs]
  have hL : ((LIM : Nat) : Int) = 1000000 := rfl
  have h1 : 0 < ys.length := List.length_pos_iff.mpr hne
  refine ⟨_, rfl, by omega, by omega, fun k k0 k1 => ?_⟩
  show match fIx d (.int k) with
    | some z => P z
    | none => False
  obtain ⟨x, hx, hm, _⟩ := atI_nat k0 k1
  rw [fIx_seq hs, hx]
  exact h x hm
theorem pure_pick {Γ : Cn} (vs : List V) (H : Hp) (Q : VK) (E : XK) (h : sp_law_pick Γ vs H Q E) : t_law_pick Γ { nx := fun _ H2 => Q .non H2, rt := Q } (L2.start ["_law_state", "_law_some"] vs) H := pure_of (N := ["_law_state", "_law_some"]) (fun _ => snd_law_pick) (Nat.le_refl _) dd_law_pick vs H Q E h
end GP

set_option Elab.async false
set_option linter.all false
set_option maxRecDepth 100000
set_option maxHeartbeats 4000000
/-! G15: names, and the words that a law draws: so many names, all different. -/
namespace GP
open PySem PySem.Spec PyProof.Rows L2
def isLow (c : Nat) : Bool := decide (97 ≤ c) && decide (c ≤ 122)
def isNm (w : Str) : Bool := decide (1 ≤ w.length) && decide (w.length ≤ 8) && w.cps.toList.all isLow
theorem isNm_iff {w : Str} : isNm w = true ↔ 1 ≤ w.cps.toList.length ∧ w.cps.toList.length ≤ 8 ∧ ∀ c ∈ w.cps.toList, 97 ≤ c ∧ c ≤ 122 := by
  unfold isNm isLow Str.length
  rw [Bool.and_eq_true, Bool.and_eq_true, decide_eq_true_eq, decide_eq_true_eq, List.all_eq_true, Array.length_toList, and_assoc]
  simp only [Bool.and_eq_true, decide_eq_true_eq]
theorem isNm_ok {w : Str} (h : isNm w = true) : okStr w = true := by
  obtain ⟨_, h2, h3⟩ := isNm_iff.mp h
  refine okStr_of ?_ fun c m => ?_
  · show w.cps.size ≤ LIM
    have : w.cps.toList.length = w.cps.size := by simp
    have e : LIM = 1000000 := rfl
    omega
  · have := h3 c (by simpa using m)
    omega
def letters : Str := "abcdefghijklmnopqrstuvwxyz"
theorem letters_list : letters.cps.toList = (List.range 26).map (97 + ·) := by decide +kernel
def spare (w : Str) (c : Nat) : Str := (⟨(cutD w.cps.toList none (some 6)).toArray⟩ : Str) ++ ("z" : Str) ++ ⟨#[c]⟩
theorem z_cps : ("z" : Str).cps.toList = [122] := by decide +kernel
theorem app_cps (a b : Str) : (a ++ b).cps.toList = a.cps.toList ++ b.cps.toList := by
  show (a.cps ++ b.cps).toList = _
  simp
theorem spare_list (w : Str) (c : Nat) : (spare w c).cps.toList = cutD w.cps.toList none (some 6) ++ [122] ++ [c] := by
  unfold spare
  rw [app_cps, app_cps, z_cps]
theorem cut6_len {α : Type} (l : List α) : (cutD l none (some 6)).length ≤ 6 := by
  unfold cutD
  rw [List.length_take]
  have e : HT.sIx l.length l.length (some 6) = min 6 l.length := HT.sIx_nat l.length l.length 6
  have e0 : HT.sIx l.length 0 none = 0 := rfl
  rw [e, e0]
  omega
theorem spare_nm {w : Str} {c : Nat} (h : isNm w = true) (hc : 97 ≤ c ∧ c ≤ 122) : isNm (spare w c) = true := by
  obtain ⟨_, _, h3⟩ := isNm_iff.mp h
  rw [isNm_iff, spare_list]
  have := cut6_len w.cps.toList
  refine ⟨by simp, by rw [List.length_append, List.length_append]; simp; omega, fun d m => ?_⟩
  rcases List.mem_append.mp m with m | m
  · rcases List.mem_append.mp m with m | m
    · exact h3 d (cutD_sub _ _ _ m)
    · have : d = 122 := List.mem_singleton.mp m
      omega
  · have : d = c := List.mem_singleton.mp m
    omega
theorem spare_inj {w : Str} {c d : Nat} (h : spare w c = spare w d) : c = d := by
  have := congrArg (fun s : Str => s.cps.toList) h
  simp only [spare_list] at this
  have := List.append_cancel_left this
  simpa using this
theorem nodup_map {α β : Type} {f : α → β} (hf : ∀ a b, f a = f b → a = b) : ∀ {l : List α}, l.Nodup → (l.map f).Nodup
  | [], _ => List.nodup_nil
  | x :: l, h => by
    rw [List.nodup_cons] at h
    rw [List.map_cons, List.nodup_cons]
    refine ⟨fun m => ?_, nodup_map hf h.2⟩
    obtain ⟨y, hy, e⟩ := List.mem_map.mp m
    exact h.1 (hf _ _ e ▸ hy)
theorem spares_free (w : Str) (ws : List Str) (h : ws.length ≤ 8) : ∃ s r, (letters.cps.toList.map (spare w)).filter (fun s => !ws.contains s) = s :: r := by
  cases e : (letters.cps.toList.map (spare w)).filter (fun s => !ws.contains s) with
  | cons s r => exact ⟨s, r, rfl⟩
  | nil =>
    exfalso
    have sub : letters.cps.toList.map (spare w) ⊆ ws := fun s m => by
      have := List.filter_eq_nil_iff.mp e s m
      simpa using this
    have nd : (letters.cps.toList.map (spare w)).Nodup := by
      refine nodup_map (fun _ _ => spare_inj) ?_
      rw [letters_list]
      decide +kernel
    have := nd.length_le_of_subset sub
    rw [List.length_map, letters_list] at this
    simp at this
    omega
theorem in_strs (w : Str) (ws : List Str) : inD (.str w) (.lst (ws.map .str)) = some (ws.contains w) := by
  have hp : plD (DEP + 1) (.lst (ws.map .str)) = true := by
    show (ws.map D.str).all (plD DEP) = true
    rw [List.all_eq_true]
    intro x m
    obtain ⟨y, _, rfl⟩ := List.mem_map.mp m
    rfl
  show (if (plD DEP (.str w) && plD (DEP + 1) (.lst (ws.map .str))) = true then some ((ws.map D.str).any fun y => deq DEP y (.str w)) else none) = _
  rw [hp, if_pos (by rfl), List.any_map]
  congr 1
  rw [Bool.eq_iff_iff, List.any_eq_true, List.contains_iff_mem]
  constructor
  · rintro ⟨x, m, e⟩
    have e : (x == w) = true := e
    rw [beq_iff_eq] at e
    exact e ▸ m
  · intro m
    exact ⟨w, m, by show (w == w) = true; exact beq_self_eq_true w⟩
theorem join0_mem : ∀ (ys : List Str) (c : Nat), c ∈ (Str.join ("" : Str) ys).cps.toList → ∃ y ∈ ys, c ∈ y.cps.toList
  | [], c, h => by
    have h : c ∈ ([] : List Nat) := h
    cases h
  | [y], c, h => ⟨y, List.mem_cons_self, h⟩
  | x :: y :: r, c, h => by
    have e : Str.join ("" : Str) (x :: y :: r) = x ++ ("" : Str) ++ Str.join ("" : Str) (y :: r) := rfl
    have z : ("" : Str).cps.toList = [] := by decide +kernel
    rw [e, app_cps, app_cps, z, List.append_nil] at h
    rcases List.mem_append.mp h with h | h
    · exact ⟨x, List.mem_cons_self, h⟩
    · obtain ⟨u, hu, hc⟩ := join0_mem (y :: r) c h
      exact ⟨u, List.mem_cons_of_mem _ hu, hc⟩
theorem sum_ones : ∀ (cs : List Nat), ((cs.map fun c => (⟨#[c]⟩ : Str)).map (·.length)).sum = cs.length
  | [] => rfl
  | c :: cs => by
    rw [List.map_cons, List.map_cons, List.sum_cons, sum_ones cs, List.length_cons]
    show 1 + cs.length = _
    omega
theorem join_nm {cs : List Nat} (h1 : 1 ≤ cs.length) (h2 : cs.length ≤ 8) (h : ∀ c ∈ cs, 97 ≤ c ∧ c ≤ 122) : isNm (Txt.join ("" : Str) (cs.map fun c => (⟨#[c]⟩ : Str))) = true := by
  rw [isNm_iff]
  have hl : (Txt.join ("" : Str) (cs.map fun c => (⟨#[c]⟩ : Str))).cps.toList.length = cs.length := by
    have := size_glued ("" : Str) (cs.map fun c => (⟨#[c]⟩ : Str))
    rw [sum_ones] at this
    have z : ("" : Str).length = 0 := by decide +kernel
    rw [z, Nat.mul_zero, Nat.add_zero] at this
    exact (Array.length_toList).trans this
  refine ⟨by omega, by omega, fun c m => ?_⟩
  have e : Txt.join ("" : Str) (cs.map fun c => (⟨#[c]⟩ : Str)) = Str.join ("" : Str) (cs.map fun c => (⟨#[c]⟩ : Str)) := StrLaws.glued_eq_join _ _
  rw [e] at m
  obtain ⟨y, hy, hc⟩ := join0_mem _ c m
  obtain ⟨d, hd, rfl⟩ := List.mem_map.mp hy
  have : c = d := List.mem_singleton.mp hc
  subst this
  exact h c hd
theorem strsD_map : ∀ ws : List Str, strsD (ws.map .str) = some ws
  | [] => rfl
  | w :: ws => by
    show (strsD (ws.map .str)).map (w :: ·) = _
    rw [strsD_map ws]
    rfl
end GP

set_option Elab.async false
set_option linter.all false
set_option maxRecDepth 100000
set_option maxHeartbeats 4000000
/-! G14b: steps over data, one a construct. -/
namespace GP
open PySem PySem.Spec PyProof.Rows L2
def oP (o : Option D) (P : D → Prop) : Prop := match o with
  | some z => P z
  | none => False
def oL (o : Option (List D)) (P : List D → Prop) : Prop := match o with
  | some z => P z
  | none => False
def oB (o : Option Bool) (P : Bool → Prop) : Prop := match o with
  | some z => P z
  | none => False
def bP (d : D) (R : Bool → Prop) : Prop := match d with
  | .bl b => R b
  | _ => False
def sP (d : D) (R : Str → Prop) : Prop := match d with
  | .str b => R b
  | _ => False
def nP (d : D) (R : Int → Prop) : Prop := match d with
  | .int b => R b
  | _ => False
def rP (ds : List D) (R : Int → Prop) : Prop := match ds with
  | [.int n] => R n
  | _ => False
theorem i_some {o : Option D} {z : D} {P : D → Prop} (h : o = some z) (p : P z) : oP o P := by
  subst h
  exact p
theorem i_sm {o : Option (List D)} {z : List D} {P : List D → Prop} (h : o = some z) (p : P z) : oL o P := by
  subst h
  exact p
theorem i_sb {o : Option Bool} {z : Bool} {P : Bool → Prop} (h : o = some z) (p : P z) : oB o P := by
  subst h
  exact p
theorem i_bl {b : Bool} {R : Bool → Prop} (h : R b) : bP (.bl b) R := h
theorem i_str {b : Str} {R : Str → Prop} (h : R b) : sP (.str b) R := h
theorem i_int {b : Int} {R : Int → Prop} (h : R b) : nP (.int b) R := h
theorem i_r1 {b : Int} {R : Int → Prop} (h : R b) : rP [.int b] R := h
section
variable {δ : DS} {P : D → Prop} {N : DN} {a b c : DE} {t u : DT} {f g : D → D → Option D} {x y z d : D} {i j : Nat} {A B : DQ}
theorem i_var (h : rdS δ i = some d) (p : P d) : dVar i δ P := by
  unfold dVar
  rw [h]
  exact p
theorem i_varS (h : shS δ i = some d) (p : P d) : dVarS i δ P := by
  unfold dVarS
  rw [h]
  exact p
theorem i_c (p : P d) : dC d δ P := p
theorem i_op (h : a δ fun x => b δ fun y => oP (f x y) P) : dOp f a b δ P := h
theorem i_un {f : D → Option D} (h : a δ fun x => oP (f x) P) : dUn f a δ P := h
theorem i_cb {f : List D → Option D} {r : DA} (h : r δ fun ds => oP (f ds) P) : dCB f r δ P := h
theorem i_test {R : Bool → Prop} (h : a δ fun d => bP d R) : dTest a δ R := h
theorem i_tru {R : Bool → Prop} (h : a δ fun d => oB (truD d) R) : dTru a δ R := h
theorem i_not {R : Bool → Prop} (h : t δ fun b => R (!b)) : dNot t δ R := h
theorem i_and {R : Bool → Prop} (h : t δ fun b => if b = true then u δ R else R false) : dAnd t u δ R := h
theorem i_or {R : Bool → Prop} (h : t δ fun b => if b = true then R true else u δ R) : dOr t u δ R := h
theorem i_if (h : t δ fun x => if x = true then a δ P else b δ P) : dIf t a b δ P := h
theorem i_ifS (h : t δ fun x => if x = true then A N δ else B N δ) : dIfS t A B N δ := h
theorem i_seq (h : A { N with nx := B N } δ) : dSeq A B N δ := h
theorem i_asg (h : a δ fun x => N.nx (δ.set i (some (.sh x)))) : dAsg a i N δ := h
theorem i_asgO (h : a δ fun x => N.nx (δ.set i (some (.ow x)))) : dAsgO a i N δ := h
theorem i_ret (h : a δ N.rt) (ho : N.own = false := by rfl) : dRet a N δ := ⟨ho, h⟩
theorem i_retN (h : N.rt .non) (ho : N.own = false := by rfl) : dRetN N δ := ⟨ho, h⟩
theorem i_retF (h : a δ N.rt) : dRetF a N δ := h
theorem i_retV (h0 : δ[i]? = some (some (.ow d))) (h : N.rt d) : dRetV i N δ := by
  unfold dRetV
  rw [h0]
  exact h
theorem i_drop (h : a δ fun _ => N.nx δ) : dDrop a N δ := h
theorem i_next (h : N.nx δ) : dNext N δ := h
theorem i_nil {R : List D → Prop} (h : R []) : dNil δ R := h
theorem i_cons {r : DA} {R : List D → Prop} (h : a δ fun x => r δ fun xs => R (x :: xs)) : dCons a r δ R := h
theorem i_tup {r : DA} (h : r δ fun ds => P (.tup ds)) : dTup r δ P := h
theorem i_lst {r : DA} (h : r δ fun ds => P (.lst ds)) : dLst r δ P := h
theorem i_fn {s : DSp} {r : DA} (h : r δ fun ds => s ds P) : dFn s r δ P := h
theorem i_fnK {s : DSp} {r : DA} {perm : List Nat} (h : r δ fun ds => s (pickL .non perm ds) P) : dFnK s perm r δ P := h
theorem i_app {xs : List D} (h0 : δ[i]? = some (some (.ow (.lst xs)))) (h : a δ fun x => xs.length < LIM ∧ N.nx (δ.set i (some (.ow (.lst (xs ++ [x])))))) : dApp i a N δ := by
  unfold dApp
  rw [h0]
  exact h
theorem i_frz (h : A N (frz δ i)) : dFrz i A N δ := h
theorem i_for {di : DI} {dg : DG} (h : di δ fun items => dForL dg A N items δ) : dFor di dg A N δ := h
theorem i_forN {n : Nat} {di : DI} {dg : DG} (h : di δ fun items => items.length ≤ n ∧ dForL dg A N items δ) : dForN n di dg A N δ := h
theorem i_lc {di : DI} {dg : DG} {vs : List Nat} (h : di δ fun items => dLcL dg t a P (wipeD δ vs) items []) : dLc di dg t a vs δ P := h
theorem i_lcN {n : Nat} {di : DI} {dg : DG} {vs : List Nat} (h : di δ fun items => items.length ≤ n ∧ dLcL dg t a P (wipeD δ vs) items []) : dLcN n di dg t a vs δ P := h
theorem i_iter {R : List D → Prop} (h : a δ fun d => oL (seqD d) R) : dIter a δ R := h
theorem i_rng {r : DA} {R : List D → Prop} (h : r δ fun ds => rP ds fun n => n ≤ LIM ∧ -LIM ≤ n ∧ R ((List.range n.toNat).map fun (i : Nat) => D.int (i : Int))) : dRng1 r δ R := h
theorem i_sl {lo hi : DO} (h : a δ fun x => lo δ fun l => hi δ fun h => oP (fSl l h x) P) : dSl a lo hi δ P := h
theorem i_m1 {f : Str → D → Option D} (h : a δ fun x => sP x fun s => b δ fun y => oP (f s y) P) : dM1 f a b δ P := h
theorem i_noPart {R : Option Int → Prop} (h : R none) : dNoPart δ R := h
theorem i_part {R : Option Int → Prop} (h : a δ fun x => nP x fun i => R (some i)) : dPart a δ R := h
theorem i_orV (h : a δ fun d => bP d fun x => if x = true then P (.bl true) else b δ P) : dOrV a b δ P := h
theorem i_andV (h : a δ fun d => bP d fun x => if x = true then b δ P else P (.bl false)) : dAndV a b δ P := h
theorem i_notV (h : a δ fun d => bP d fun x => P (.bl (!x))) : dNotV a δ P := h
theorem i_par {k1 k2 : Bool} (h : a δ fun x => b δ fun y => N.nx ((δ.set i (some (mkS k1 x))).set j (some (mkS k2 y)))) : dPar k1 k2 i j a b N δ := h
theorem i_par3 {k1 k2 k3 : Bool} {m : Nat} (h : a δ fun x => b δ fun y => c δ fun z => N.nx (((δ.set i (some (mkS k1 x))).set j (some (mkS k2 y))).set m (some (mkS k3 z)))) : dPar3 k1 k2 k3 i j m a b c N δ := h
/-- both sides of a test -/
theorem i_b {b : Bool} {X Y : Prop} (h1 : b = true → X) (h2 : b = false → Y) : if b = true then X else Y := by
  cases b with
  | true => exact h1 rfl
  | false => exact h2 rfl
/-- the law's take and pick -/
theorem i_take {n : Int} (h0 : 0 < n) (h1 : n < 18446744073709551616) (h : ∀ k, 0 ≤ k → k < n → P (.int k)) : dp_law_take [.st, .int n] P := ⟨n, rfl, h0, h1, h⟩
theorem i_pick {xs : List D} (hs : seqD d = some xs) (hn : xs ≠ []) (hl : xs.length ≤ LIM) (h : ∀ r ∈ xs, P r) : dp_law_pick [.st, d] P := ⟨xs, d, rfl, hs, hn, hl, h⟩
end
end GP

set_option Elab.async false
set_option linter.all false
set_option maxRecDepth 100000
set_option maxHeartbeats 4000000
/-! G16: the words that a law draws. -/
namespace GP
open PySem PySem.Spec PyProof.Rows L2
/-- so many names, all different -/
def dp_law_words : DSp := fun ds P => ∃ n : Nat, ds = [.st, .int n] ∧ n ≤ 9 ∧ ∀ ws : List Str, ws.length = n → ws.Nodup → (∀ w ∈ ws, isNm w = true) → P (.lst (ws.map .str))
def sp_law_words (Γ : Cn) : Sp := lift Γ 2 99 dp_law_words
/-! _law_words: slots 0 _law_state 1 _law_size 2 _law_own 3 _law_letters 4 _law_found 5 _law_k 6 _law_word 7 _law_j 8 _law_letter 9 _law_spare; calls _law_pick _law_take; cost 99 -/
def t_law_words (Γ : Cn) : TS := tSeq (tAsg (tM1 (gSplit) (tC (.str "account in join ask deposit release send lose copy withdraw arrive spent ideal total over")) (tC (.str " "))) (gName 2)) (tSeq (tAsg
   (tTup (tCons (tC (.str "abcdefghijklmnopqrstuvwxyz")) (tCons (tLst (tNil)) (tNil)))) (gTup Γ.K 2 (gCons (gName 3) (gCons (gName 4) (gNil))))) (tSeq (tFor (iRng1 (tCons
   (tVar 1) (tNil))) (gName 5) (tSeq (tAsg (tFn (sp_law_pick Γ) E0 (tCons (tVar 0) (tCons (tVar 2) (tNil)))) (gName 6)) (tSeq (tIfS (tTest (tOp (gGt) (tFn (sp_law_take Γ)
   E0 (tCons (tVar 0) (tCons (tC (.int 3)) (tNil)))) (tC (.int 0)))) (tAsg (tM1 (gJoin Γ.K) (tC (.str "")) (tLc (iRng1 (tCons (tFn (sp_law_pick Γ) E0 (tCons (tVar 0)
   (tCons (tLst (tCons (tC (.int 1)) (tCons (tC (.int 1)) (tCons (tC (.int 2)) (tCons (tC (.int 8)) (tNil)))))) (tNil)))) (tNil))) (gName 7) (tYes) (tFn (sp_law_pick Γ)
   E0 (tCons (tVar 0) (tCons (tVar 3) (tNil)))) [7])) (gName 6)) (tNext)) (tSeq (tIfS (tTest (tOp (gIn Γ.K) (tVar 6) (tVar 4))) (tAsg (tOp (gIx Γ.K) (tLc (gIter Γ.K (tLc
   (gIter Γ.K (tVar 3)) (gName 8) (tYes) (tOp (gAdd Γ.K) (tOp (gAdd Γ.K) (tSl (gSl Γ.K) (tVar 6) (tNoPart) (tPart (tC (.int 6)))) (tC (.str "z"))) (tVar 8)) [8])) (gName
   9) (tTest (tOp (gNotIn Γ.K) (tVar 9) (tVar 4))) (tVar 9) [9]) (tC (.int 0))) (gName 6)) (tNext)) (tDrop (tBM Γ.K "list" rAppend (tVar 4) (tCons (tVar 6) tNil)))))))
   (tRet (tVar 4))))
def d_law_words_b1 : DQ := dSeq (dAsg (dFn dp_law_pick (dCons (dVarS 0) (dCons (dVarS 2) (dNil)))) 6) (dSeq (dIfS (dTest (dOp fGt (dFn dp_law_take (dCons (dVarS 0) (dCons (dC (.int 3)) (dNil))))
   (dC (.int 0)))) (dAsg (dM1 fJoin (dC (.str "")) (dLcN 8 (dRng1 (dCons (dFn dp_law_pick (dCons (dVarS 0) (dCons (dLst (dCons (dC (.int 1)) (dCons (dC (.int 1)) (dCons
   (dC (.int 2)) (dCons (dC (.int 8)) (dNil)))))) (dNil)))) (dNil))) (dName 7) (dYes) (dFn dp_law_pick (dCons (dVarS 0) (dCons (dVarS 3) (dNil)))) [7])) 6) (dNext)) (dSeq
   (dIfS (dTest (dOp fIn (dVar 6) (dVar 4))) (dAsg (dOp fIx (dLc (dIter (dLc (dIter (dVar 3)) (dName 8) (dYes) (dOp fAdd (dOp fAdd (dSl (dVar 6) (dNoPart) (dPart (dC
   (.int 6)))) (dC (.str "z"))) (dVar 8)) [8])) (dName 9) (dTest (dOp fNotIn (dVar 9) (dVar 4))) (dVarS 9) [9]) (dC (.int 0))) 6) (dNext)) (dApp 4 (dVarS 6))))
def d_law_words : DQ := dSeq (dAsg (dM1 fSplit (dC (.str "account in join ask deposit release send lose copy withdraw arrive spent ideal total over")) (dC (.str " "))) 2) (dSeq (dPar false true
   3 4 (dC (.str "abcdefghijklmnopqrstuvwxyz")) (dLst (dNil))) (dSeq (dForN 9 (dRng1 (dCons (dVar 1) (dNil))) (dName 5) (d_law_words_b1)) (dRetV 4)))
theorem snd_law_words {Γ : Cn} {L : LS} : SS Γ L 99 (t_law_words Γ) d_law_words := by
  unfold t_law_words d_law_words d_law_words_b1
  exact s_seq (s_asg 2 (s_m1 m_split (SE.t (s_c fun _ => .str (by decide +kernel))) (SE.t (s_c fun _ => .str (by decide +kernel))))) (s_seq (s_parT (k1 := false) (k2 := true) 3 4
   (s_c fun _ => .str (by decide +kernel)) (s_lst (s_nil))) (s_seq (s_forN 9 (s_rng1 (s_consT (s_var 1) (s_nilT))) (s_name 5) (s_seq (s_asg 6 (s_fn (s := dp_law_pick) (cf
   := 1) (s_cons (s_varS 0) (s_cons (s_varS 2) (s_nil))))) (s_seq (s_if (s_test (SE.t (s_op o_gt (SE.t (s_fn (s := dp_law_take) (cf := 1) (s_cons (s_varS 0) (s_cons (s_c
   fun _ => .int _) (s_nil))))) (SE.t (s_c fun _ => .int _))))) (s_asg 6 (s_m1 m_join (SE.t (s_c fun _ => .str (by decide +kernel))) (SF.t (s_lcN 8 (s_rng1 (s_consT (SE.t
   (s_fn (s := dp_law_pick) (cf := 1) (s_cons (s_varS 0) (s_cons (SF.e (s_lst (s_cons (s_c fun _ => .int _) (s_cons (s_c fun _ => .int _) (s_cons (s_c fun _ => .int _)
   (s_cons (s_c fun _ => .int _) (s_nil))))))) (s_nil))))) (s_nilT))) (s_name 7) (s_yes) (s_fn (s := dp_law_pick) (cf := 1) (s_cons (s_varS 0) (s_cons (s_varS 3)
   (s_nil)))))))) (s_next)) (s_seq (s_if (s_test (SE.t (s_op o_in (s_var 6) (s_var 4)))) (s_asg 6 (s_op o_ix (SF.t (s_lc (s_iterT (SF.t (s_lc (s_iterT (s_var 3)) (s_name
   8) (s_yes) (s_op o_add (SE.t (s_op o_add (SE.t (s_sl (s_var 6) (s_noPart) (s_part (SE.t (s_c fun _ => .int _))))) (SE.t (s_c fun _ => .str (by decide +kernel)))))
   (s_var 8))))) (s_name 9) (s_test (SE.t (s_op o_notIn (s_var 9) (s_var 4)))) (s_varS 9))) (SE.t (s_c fun _ => .int _)))) (s_next)) (s_app 4 (s_varS 6)))))) (s_retV 4)))
theorem ix_head (x : D) (xs : List D) : fIx (.lst (x :: xs)) (.int 0) = some x := by
  obtain ⟨y, hy, _, h2⟩ := atI_nat (xs := x :: xs) (i := 0) (by omega) (by rw [List.length_cons]; omega)
  rw [fIx_seq (xs := x :: xs) rfl, hy]
  exact h2.symm
def ownW : List Str := [("account" : Str), ("in" : Str), ("join" : Str), ("ask" : Str), ("deposit" : Str), ("release" : Str), ("send" : Str), ("lose" : Str), ("copy" : Str), ("withdraw" : Str), ("arrive" : Str), ("spent" : Str), ("ideal" : Str), ("total" : Str), ("over" : Str)]
theorem split_own : fSplit "account in join ask deposit release send lose copy withdraw arrive spent ideal total over" (.str " ") = some (.lst (ownW.map .str)) := by
  have e : Txt.split ("account in join ask deposit release send lose copy withdraw arrive spent ideal total over" : Str) (" " : Str) = ownW := by decide +kernel
  unfold fSplit
  dsimp only
  rw [e, if_pos (by decide +kernel)]
theorem own_nm : ∀ w ∈ ownW, isNm w = true := by
  have : ownW.all isNm = true := by decide +kernel
  exact List.all_eq_true.mp this
def wS (n : Int) (ws : List Str) (x5 x6 x7 x8 x9 : Option Sl) : DS := [some (.sh .st), some (.sh (.int n)), some (.sh (.lst (ownW.map .str))), some (.sh (.str letters)), some (.ow (.lst (ws.map .str))), x5, x6, x7, x8, x9]
/-- the part behind the draw: another word, if it is there, then appended -/
theorem words_tail (N : DN) (n : Int) (ws : List Str) (x5 x7 x8 x9 : Option Sl) (w : Str) (hw : isNm w = true) (hl : ws.length ≤ 8) (h : ∀ u x6, isNm u = true → u ∉ ws → N.nx (wS n (ws ++ [u]) x5 x6 x7 x8 x9)) :
    dSeq (dIfS (dTest (dOp fIn (dVar 6) (dVar 4))) (dAsg (dOp fIx (dLc (dIter (dLc (dIter (dVar 3)) (dName 8) (dYes) (dOp fAdd (dOp fAdd (dSl (dVar 6) (dNoPart) (dPart (dC (.int 6)))) (dC (.str "z"))) (dVar 8)) [8])) (dName 9) (dTest (dOp fNotIn (dVar 9) (dVar 4))) (dVarS 9) [9]) (dC (.int 0))) 6) (dNext)) (dApp 4 (dVarS 6)) N (wS n ws x5 (some (.sh (.str w))) x7 x8 x9) := by
  have app : ∀ u, isNm u = true → u ∉ ws → dApp 4 (dVarS 6) N (wS n ws x5 (some (.sh (.str u))) x7 x8 x9) := fun u hu hn => by
    refine (show (ws.map D.str).length < LIM ∧ N.nx [some (.sh .st), some (.sh (.int n)), some (.sh (.lst (ownW.map .str))), some (.sh (.str letters)), some (.ow (.lst (ws.map .str ++ [.str u]))), x5, some (.sh (.str u)), x7, x8, x9] from ⟨?_, ?_⟩)
    · rw [List.length_map]
      have : LIM = 1000000 := rfl
      omega
    · have := h u (some (.sh (.str u))) hu hn
      unfold wS at this
      rw [List.map_append] at this
      exact this
  refine i_seq (i_ifS (i_test (i_op (i_var rfl (i_var rfl (i_some (congrArg (Option.map D.bl) (in_strs w ws)) (i_bl (i_b (fun hc => ?_) fun hc => ?_))))))))
  · -- the spare words
    refine i_asg (i_op (i_lc (i_iter (i_lc (i_iter (i_var rfl (i_sm rfl ?_)))))))
    refine lcL_yes (fun d => match d with
      | .str u => .str (spare w (u.cps.getD 0 0))
      | d => d) _ _ (fun x m R hR => ?_) ?_
    · obtain ⟨c, hc, rfl⟩ := List.mem_map.mp m
      have hc2 : 97 ≤ c ∧ c ≤ 122 := by
        rw [letters_list] at hc
        obtain ⟨k, hk, rfl⟩ := List.mem_map.mp hc
        have := List.mem_range.mp hk
        omega
      have k1 := isNm_ok (spare_nm hw hc2)
      have k0 : okStr ((⟨(cutD w.cps.toList none (some 6)).toArray⟩ : Str) ++ ("z" : Str)) = true := by
        refine okStr_of ?_ fun d md => okStr_cp k1 ?_
        · have l1 := okStr_len k1
          have l2 : (spare w c).length = ((⟨(cutD w.cps.toList none (some 6)).toArray⟩ : Str) ++ ("z" : Str)).length + 1 := by
            show (((⟨(cutD w.cps.toList none (some 6)).toArray⟩ : Str) ++ ("z" : Str)).cps ++ #[c]).size = _
            rw [Array.size_append]
            rfl
          omega
        · show d ∈ ((⟨(cutD w.cps.toList none (some 6)).toArray⟩ : Str) ++ ("z" : Str)).cps ++ #[c]
          exact Array.mem_append.mpr (.inl md)
      refine i_op (i_op (i_sl (i_var rfl (i_noPart (i_part (i_c (i_int (i_some rfl (i_c (i_some (if_pos k0) (i_var rfl (i_some (if_pos k1) hR))))))))))))
    · obtain ⟨s, r, hs⟩ := spares_free w ws hl
      rw [List.nil_append, List.map_map]
      have em : (letters.cps.toList.map ((fun d => match d with
        | .str u => .str (spare w (u.cps.getD 0 0))
        | d => d) ∘ fun c => D.str ⟨#[c]⟩)) = (letters.cps.toList.map (spare w)).map D.str := by
        rw [List.map_map]
        rfl
      rw [em]
      refine i_sm rfl ?_
      refine lcL_if (fun d => match d with
        | .str u => !ws.contains u
        | _ => false) (fun d => d) _ _ (fun x m R hR => ?_) (fun x m R hR => i_varS rfl hR) ?_
      · obtain ⟨u, _, rfl⟩ := List.mem_map.mp m
        exact i_test (i_op (i_var rfl (i_var rfl (i_some (congrArg (Option.map fun b => D.bl (!b)) (in_strs u ws)) (i_bl hR)))))
      · rw [List.nil_append, List.map_id', List.filter_map]
        have ef : (letters.cps.toList.map (spare w)).filter ((fun d => match d with
          | .str u => !ws.contains u
          | _ => false) ∘ D.str) = s :: r := hs
        rw [ef]
        have ms : s ∈ s :: r := List.mem_cons_self
        rw [← hs] at ms
        obtain ⟨m1, m2⟩ := List.mem_filter.mp ms
        obtain ⟨c, hc, rfl⟩ := List.mem_map.mp m1
        refine i_c (i_some (ix_head _ _) (app _ (spare_nm hw ?_) (by simpa using m2)))
        rw [letters_list] at hc
        obtain ⟨k, hk, rfl⟩ := List.mem_map.mp hc
        have := List.mem_range.mp hk
        omega
  · exact app w hw (by simpa using hc)
theorem words_body (N : DN) (n : Int) (ws : List Str) (x5 x6 x7 x8 x9 : Option Sl) (hl : ws.length ≤ 8) (h : ∀ u x6, isNm u = true → u ∉ ws → N.nx (wS n (ws ++ [u]) x5 x6 x7 x8 x9)) : d_law_words_b1 N (wS n ws x5 x6 x7 x8 x9) := by
  unfold d_law_words_b1
  refine i_seq (i_asg (i_fn (i_cons (i_varS rfl (i_cons (i_varS rfl (i_nil (i_pick rfl ?_ ?_ fun r hr => ?_))))))))
  · exact fun z => by cases z
  · rw [List.length_map]; decide
  obtain ⟨w, hw, rfl⟩ := List.mem_map.mp hr
  have hw := own_nm w hw
  dsimp only
  refine i_seq (i_ifS (i_test (i_op (i_fn (i_cons (i_varS rfl (i_cons (i_c (i_nil (i_take (by decide) (by decide) fun k k0 k3 => i_c (i_some rfl (i_bl (i_b (fun hk => ?_) fun hk => ?_)))))))))))))
  · refine i_asg (i_m1 (i_c (i_str (i_lcN (i_rng (i_cons (i_fn (i_cons (i_varS rfl (i_cons (i_lst (i_cons (i_c (i_cons (i_c (i_cons (i_c (i_cons (i_c (i_nil (i_nil (i_pick rfl ?_ ?_ fun r hr => i_nil ?_))))))))))))))))))))))
    · exact fun z => by cases z
    · decide
    obtain ⟨m, em, m1, m8⟩ : ∃ m : Nat, r = .int m ∧ 1 ≤ m ∧ m ≤ 8 := by
      rcases List.mem_cons.mp hr with rfl | hr
      · exact ⟨1, rfl, by omega, by omega⟩
      rcases List.mem_cons.mp hr with rfl | hr
      · exact ⟨1, rfl, by omega, by omega⟩
      rcases List.mem_cons.mp hr with rfl | hr
      · exact ⟨2, rfl, by omega, by omega⟩
      rcases List.mem_cons.mp hr with rfl | hr
      · exact ⟨8, rfl, by omega, by omega⟩
      cases hr
    subst em
    have hL : ((LIM : Nat) : Int) = 1000000 := rfl
    refine i_r1 ⟨by omega, by omega, by rw [List.length_map, List.length_range]; omega, ?_⟩
    refine lcL_any (fun d => ∃ c : Nat, d = .str ⟨#[c]⟩ ∧ 97 ≤ c ∧ c ≤ 122) _ _ (fun x hx R hR => ?_) fun ys hys hs => ?_
    · refine i_fn (i_cons (i_varS rfl (i_cons (i_varS rfl (i_nil (i_pick rfl ?_ ?_ fun r hr => ?_))))))
      · rw [letters_list]; exact fun z => by cases z
      · rw [List.length_map, letters_list]; decide
      · obtain ⟨c, hc, rfl⟩ := List.mem_map.mp hr
        rw [letters_list] at hc
        obtain ⟨k, hk, rfl⟩ := List.mem_map.mp hc
        have := List.mem_range.mp hk
        exact hR _ ⟨_, rfl, by omega, by omega⟩
    · rw [List.length_map, List.length_range, Int.toNat_natCast] at hys
      obtain ⟨cs, ec, hcs⟩ : ∃ cs : List Nat, ys = (cs.map fun c => (⟨#[c]⟩ : Str)).map D.str ∧ ∀ c ∈ cs, 97 ≤ c ∧ c ≤ 122 := by
        clear hys
        induction ys with
        | nil => exact ⟨[], rfl, fun _ m => by cases m⟩
        | cons y ys ih =>
          obtain ⟨cs, e, h⟩ := ih fun z m => hs z (List.mem_cons_of_mem _ m)
          obtain ⟨c, rfl, c1, c2⟩ := hs y List.mem_cons_self
          refine ⟨c :: cs, by rw [e]; rfl, fun d m => ?_⟩
          rcases List.mem_cons.mp m with rfl | m
          · exact ⟨c1, c2⟩
          · exact h d m
      have hlen : cs.length = m := by rw [ec, List.length_map, List.length_map] at hys; exact hys
      have nm : isNm (Txt.join ("" : Str) (cs.map fun c => (⟨#[c]⟩ : Str))) = true := join_nm (by omega) (by omega) hcs
      have ej : fJoin "" (.lst ys) = some (.str (Txt.join ("" : Str) (cs.map fun c => (⟨#[c]⟩ : Str)))) := by
        unfold fJoin
        dsimp only
        rw [ec, strsD_map]
        dsimp only
        rw [sum_ones, isNm_ok nm, List.length_map]
        have z : ("" : Str).length = 0 := by decide +kernel
        rw [z, Nat.mul_zero, if_pos]
        rw [Bool.and_true, decide_eq_true_eq, Nat.add_zero]
        have e : LIM = 1000000 := rfl
        omega
      rw [List.nil_append]
      refine i_some ej ?_
      exact words_tail N n ws x5 x7 x8 x9 _ nm hl h
  · exact words_tail N n ws x5 x7 x8 x9 w hw hl h
theorem dd_law_words : ∀ xs P, xs.length = 2 → dp_law_words xs P → d_law_words { nx := fun _ => P .non, rt := P } (startD 10 xs) := by
  intro xs P _ h
  rcases h with ⟨n, h0, hn, h⟩
  subst h0
  have hL : ((LIM : Nat) : Int) = 1000000 := rfl
  unfold d_law_words
  refine i_seq (i_asg (i_m1 (i_c (i_str (i_c (i_some split_own ?_))))))
  dsimp only
  refine i_seq (i_par (i_c (i_lst (i_nil ?_))))
  show dSeq (dForN 9 (dRng1 (dCons (dVar 1) dNil)) (dName 5) d_law_words_b1) (dRetV 4) _ (wS n [] none none none none none)
  refine i_seq (i_forN (i_rng (i_cons (i_var rfl (i_nil (i_r1 ⟨by omega, by omega, by rw [List.length_map, List.length_range]; omega, ?_⟩))))))
  refine for_inv (fun k δ => ∃ ws x5 x6 x7 x8 x9, ws.length = k ∧ ws.Nodup ∧ (∀ w ∈ ws, isNm w = true) ∧ δ = wS n ws x5 x6 x7 x8 x9) _ 0 _ ⟨[], none, none, none, none, none, rfl, List.nodup_nil, (fun _ m => by cases m), rfl⟩ ?_ (name_mono 5) ?_
  · rintro j x δ hj ⟨ws, x5, x6, x7, x8, x9, e1, e2, e3, rfl⟩ M hr ho hnx hct hbk
    have hjn : j < n := by
      have := (List.getElem?_eq_some_iff.mp hj).1
      rw [List.length_map, List.length_range] at this
      omega
    refine words_body M n ws (some (.sh x)) x6 x7 x8 x9 (by omega) fun u x6' hu hn => hnx _ ?_
    refine ⟨ws ++ [u], some (.sh x), x6', x7, x8, x9, by rw [List.length_append, e1]; simp, ?_, ?_, rfl⟩
    · rw [List.nodup_append]
      refine ⟨e2, by simp, fun a ha b hb => ?_⟩
      have : b = u := List.mem_singleton.mp hb
      subst this
      exact fun z => hn (z ▸ ha)
    · intro w m
      rcases List.mem_append.mp m with m | m
      · exact e3 w m
      · exact (List.mem_singleton.mp m) ▸ hu
  · rintro δ ⟨ws, x5, x6, x7, x8, x9, e1, e2, e3, rfl⟩
    show P (.lst (ws.map .str))
    refine h ws ?_ e2 e3
    rw [e1, List.length_map, List.length_range]
    omega
theorem pure_words {Γ : Cn} (N : List Str) (hN : N.length = 10) (vs : List V) (H : Hp) (Q : VK) (E : XK) (h : sp_law_words Γ vs H Q E) : t_law_words Γ { nx := fun _ H2 => Q .non H2, rt := Q } (L2.start N vs) H := pure_of (N := N) (fun _ => snd_law_words) (Nat.le_refl _) (by rw [hN]; exact dd_law_words) vs H Q E h
end GP

set_option Elab.async false
set_option linter.all false
set_option maxRecDepth 100000
set_option maxHeartbeats 4000000
/-! G18: objects on data: fields, methods, properties. -/
namespace GP
open PySem PySem.Spec PyProof.Rows L2
def Cn.adr (Γ : Cn) (c : String) : Addr := (Γ.cls c).getD 0
/-- no class of data hides the field f -/
def FldOk (Γ : Cn) (f : Str) : Prop := ∀ c A, Γ.cls c = some A → Cls Γ.K A ∧ NoAttr Γ.K A f
section
variable {Γ : Cn} {L : LS} {c c1 c2 c3 n : Nat} {te ta tb : TE} {de da db : DE} {tA : TA} {dA : DA}
def dFld (f : Str) (d : DE) : DE := fun δ P => d δ fun x => match x with
  | .ins _ fs => match fs.lookup f with
    | some v => P v
    | none => False
  | _ => False
theorem RepF.look {G : Hp} (f : Str) : ∀ {xs : List (Str × V)} {ds : List (Str × GP.D)}, RepF Γ L G xs ds → (ds.lookup f = none ∧ xs.lookup f = none) ∨ ∃ v d, ds.lookup f = some d ∧ xs.lookup f = some v ∧ Rep Γ L G v d
  | _, _, .nil => .inl ⟨rfl, rfl⟩
  | _, _, .cons (k := k) (v := v) (d := d) (vs := vs) (ds := ds) h t => by
    by_cases e : f = k
    · subst e
      refine .inr ⟨v, d, ?_, ?_, h⟩
      · exact List.lookup_cons_self
      · exact List.lookup_cons_self
    · have eb : (f == k) = false := beq_eq_false_iff_ne.mpr e
      have e1 : ((k, d) :: ds).lookup f = ds.lookup f := by rw [List.lookup_cons, eb]
      have e2 : ((k, v) :: vs).lookup f = vs.lookup f := by rw [List.lookup_cons, eb]
      rw [e1, e2]
      exact RepF.look f t
theorem ins_of {G H : Hp} (x : Exf G H) {v : V} {cn : String} {ds : List (Str × GP.D)} (r : RepT Γ L G H v (.ins cn ds)) : ∃ a C dx xs, v = .ref a ∧ H a = some (.ins C dx xs) ∧ Γ.cls cn = some C ∧ RepF Γ L G xs ds ∧ Rep Γ L G v (.ins cn ds) := by
  rcases r with r | ⟨p, rfl, o, _⟩
  · cases r with
    | ins h hd hc rf => exact ⟨_, _, _, _, rfl, x.ins h, hc, rf, .ins h hd hc rf⟩
  · cases o
theorem s_fld {f : Str} (hf : FldOk Γ f) (h : ST Γ L c te de) : SE Γ L c (tFld Γ.K te f) (dFld f de) := fun t σ δ B G H l x e hc P hp Q k => by
  refine h t σ δ B G H l x e hc _ hp _ fun v d G1 H1 a1 r1 q1 => ?_
  cases d <;> try exact q1.elim
  rename_i cn ds
  obtain ⟨a, C, dx, xs, rfl, ha, hcl, rf, _⟩ := ins_of a1.gh r1
  obtain ⟨k1, k2⟩ := hf cn C hcl
  dsimp only at q1
  rcases rf.look f with ⟨h1, _⟩ | ⟨w, d2, h1, h2, rw_⟩
  · rw [h1] at q1; exact q1.elim
  · rw [h1] at q1
    exact ⟨a, C, dx, xs, w, rfl, ha, k1, k2, h2, k w d2 G1 H1 a1 rw_ q1⟩
/-- o.m(..) -/
def dMt (cn : String) (m : Str) (s : DSp) (d : DE) (a : DA) : DE := fun δ P => d δ fun x => match x with
  | .ins c fs => c = cn ∧ fs.lookup m = none ∧ a δ fun ds => s (.ins c fs :: ds) P
  | _ => False
theorem s_mt {cn : String} {m : Str} {s : DSp} {cf : Nat} {E : XK} (hC : Γ.cls cn = some (Γ.adr cn)) (h : SE Γ L c1 ta da) (hA : SA Γ L n c2 tA dA) : SE Γ L (c1 + (c2 + cf)) (tMt (Γ.adr cn) m (lift Γ (n + 1) cf s) E ta tA) (dMt cn m s da dA) := fun t σ δ B G H l x e hc P hp Q k => by
  refine h t σ δ B G H l x e (by omega) _ hp _ fun v d G1 H1 a1 r1 q1 => ?_
  cases d <;> try exact q1.elim
  rename_i cc ds
  obtain ⟨ec, hm, q1⟩ := q1
  subst ec
  obtain ⟨a, C, dx, xs, rfl, ha, hcl, rf, r2⟩ := ins_of a1.gh (H := H1) (.inl r1)
  rw [hC] at hcl
  cases hcl
  have nm : xs.lookup m = none := by
    rcases rf.look m with ⟨_, h2⟩ | ⟨_, _, h1, _⟩
    · exact h2
    · rw [hm] at h1; cases h1
  refine ⟨a, dx, xs, rfl, ha, nm, ?_⟩
  refine hA (t + c1) σ δ B G1 H1 a1.lw a1.gh (e.step a1) (by omega) _ q1 _ fun vs es G2 H2 a2 r3 hl q2 => ?_
  refine ⟨by show vs.length + 1 = n + 1; rw [r3.len, hl], L, t + c1 + c2, _, G2, P, a2.lw, by omega, a2.gh, .cons (r2.up a2.gg) r3, q2, fun r hr v G3 H3 a3 r4 => ?_⟩
  have ec : t + c1 + c2 + cf = t + (c1 + (c2 + cf)) := by omega
  rw [ec] at a3
  exact k v r G3 H3 ((a1.tr a2).tr a3) r4 hr
/-- o.m(..), a new list or dict -/
theorem s_mtF {cn : String} {m : Str} {s : DSp} {cf : Nat} {E : XK} (hC : Γ.cls cn = some (Γ.adr cn)) (h : SE Γ L c1 ta da) (hA : SA Γ L n c2 tA dA) : SF Γ L (c1 + (c2 + cf)) (tMt (Γ.adr cn) m (liftF Γ (n + 1) cf s) E ta tA) (dMt cn m s da dA) := fun t σ δ B G H l x e hc P hp Q k => by
  refine h t σ δ B G H l x e (by omega) _ hp _ fun v d G1 H1 a1 r1 q1 => ?_
  cases d <;> try exact q1.elim
  rename_i cc ds
  obtain ⟨ec, hm, q1⟩ := q1
  subst ec
  obtain ⟨a, C, dx, xs, rfl, ha, hcl, rf, r2⟩ := ins_of a1.gh (H := H1) (.inl r1)
  rw [hC] at hcl
  cases hcl
  have nm : xs.lookup m = none := by
    rcases rf.look m with ⟨_, h2⟩ | ⟨_, _, h1, _⟩
    · exact h2
    · rw [hm] at h1; cases h1
  refine ⟨a, dx, xs, rfl, ha, nm, ?_⟩
  refine hA (t + c1) σ δ B G1 H1 a1.lw a1.gh (e.step a1) (by omega) _ q1 _ fun vs es G2 H2 a2 r3 hl q2 => ?_
  refine ⟨by show vs.length + 1 = n + 1; rw [r3.len, hl], L, t + c1 + c2, _, G2, P, a2.lw, by omega, a2.gh, .cons (r2.up a2.gg) r3, q2, fun r hr p G3 H3 a3 np o g => ?_⟩
  have ec : t + c1 + c2 + cf = t + (c1 + (c2 + cf)) := by omega
  rw [ec] at a3
  exact k p r G3 H3 ((a1.tr a2).tr a3) ((a1.tr a2).old np) o g hr
/-- o.f, a property -/
def dPr (cn : String) (s : DSp) (d : DE) : DE := fun δ P => d δ fun x => match x with
  | .ins c fs => c = cn ∧ s [.ins c fs] P
  | _ => False
theorem s_pr {cn : String} {s : DSp} {cf : Nat} {E : XK} (hC : Γ.cls cn = some (Γ.adr cn)) (h : SE Γ L c1 ta da) : SE Γ L (c1 + cf) (tProp (Γ.adr cn) (lift Γ 1 cf s) [] E ta) (dPr cn s da) := fun t σ δ B G H l x e hc P hp Q k => by
  refine h t σ δ B G H l x e (by omega) _ hp _ fun v d G1 H1 a1 r1 q1 => ?_
  cases d <;> try exact q1.elim
  rename_i cc ds
  obtain ⟨ec, q1⟩ := q1
  subst ec
  obtain ⟨a, C, dx, xs, rfl, ha, hcl, rf, r2⟩ := ins_of a1.gh (H := H1) (.inl r1)
  rw [hC] at hcl
  cases hcl
  refine ⟨a, dx, xs, rfl, ha, rfl, L, t + c1, _, G1, P, a1.lw, by omega, a1.gh, .cons r2 .nil, q1, fun r hr v G3 H3 a3 r4 => ?_⟩
  rw [Nat.add_assoc] at a3
  exact k v r G3 H3 (a1.tr a3) r4 hr
end
end GP

set_option Elab.async false
set_option linter.all false
set_option maxRecDepth 100000
set_option maxHeartbeats 4000000
/-! G19: going through a dict: it is locked meanwhile. -/
namespace GP
open PySem PySem.Spec PyProof.Rows L2
section
variable {Γ : Cn} {L : LS} {c c1 c2 c3 n : Nat} {te ta tb : TE} {de da db : DE} {tt : TT} {dt : DT}
theorem LawAt.lock {t : Nat} {G H : Hp} {a : Addr} {u o : HO} (l : LawAt L t G H) (h : G a = some u) : LawAt L t G (upd H a o) := fun p g e => by
  obtain ⟨h1, h2, h3, cc, gr, cs, lf, tn, k1, k2, k3, k4, k5, k6, k7⟩ := l p g e
  have n1 : p ≠ a := fun z => by subst z; rw [h1] at h; cases h
  have n2 : g ≠ a := fun z => by subst z; rw [h2] at h; cases h
  exact ⟨h1, h2, h3, cc, gr, cs, lf, tn, by rw [upd_ne n1]; exact k1, by rw [upd_ne n2]; exact k2, k3, k4, k5, k6, k7⟩
theorem Exf.lock {G H : Hp} {a : Addr} {xs : List (Key × V)} (x : Exf G H) (h : G a = some (.dK xs)) (od : Obj) : Exf G (upd H a (.frz od (.dK xs))) := fun b o hb => by
  by_cases z : b = a
  · subst z
    rw [h] at hb
    cases hb
    exact .inr ⟨xs, od, rfl, upd_same⟩
  · rw [upd_ne z]; exact x b o hb
theorem Exf.unlock {G H : Hp} {a : Addr} {xs : List (Key × V)} (x : Exf G H) (h : G a = some (.dK xs)) : Exf G (upd H a (.dK xs)) := fun b o hb => by
  by_cases z : b = a
  · subst z
    rw [h] at hb
    cases hb
    exact .inl upd_same
  · rw [upd_ne z]; exact x b o hb
theorem OwnAt.moved {G H H2 : Hp} {p : Addr} {d : GP.D} (o : OwnAt Γ L G H p d) (e : H2 p = H p) : OwnAt Γ L G H2 p d := by
  cases o with
  | lst h r z => exact .lst (by rw [e]; exact h) r z
  | dct h r z => exact .dct (by rw [e]; exact h) r z
theorem Env.lock {B G H : Hp} {σ : L2.St} {δ : DS} {a : Addr} {u o : HO} (e : Env Γ L B G H σ δ) (h : G a = some u) : Env Γ L B G (upd H a o) σ δ :=
  ⟨e.sh, fun i d hi => by
    obtain ⟨p, h1, h2, h3, h4, h5⟩ := e.ow i d hi
    exact ⟨p, h1, h2.moved (upd_ne (fun z => by subst z; rw [h4] at h; cases h)), h3, h4, h5⟩, e.dj, e.len⟩
theorem G_notL {t : Nat} {G H : Hp} {a : Addr} {u : HO} (l : LawAt L t G H) (h : G a = some u) : notL L a := fun p g e =>
  ⟨fun z => (by subst z; rw [(l a g e).np] at h; cases h), fun z => (by subst z; rw [(l p a e).ng] at h; cases h)⟩
/-- what was reached from the locked heap, unlocked -/
theorem At.unlock {t : Nat} {G H G2 H2 : Hp} {a : Addr} {xs : List (Key × V)} {od : Obj} (hG : G a = some (.dK xs)) (hH : H a = some (.dK xs)) (x : At L t (upd H a (.frz od (.dK xs))) G G2 H2) : At L t H G G2 (upd H2 a (.dK xs)) where
  gg := x.gg
  gh := x.gh.unlock (x.gg a _ hG)
  bh := fun b o h nl => by
    by_cases z : b = a
    · subst z
      rw [hH] at h
      cases h
      exact upd_same
    · rw [upd_ne z]
      exact x.bh b o (by rw [upd_ne z]; exact h) nl
  nw := fun b o h => (x.nw b o h).imp id fun q => by
    by_cases z : b = a
    · subst z; rw [upd_same] at q; cases q
    · rw [upd_ne z] at q; exact q
  lw := x.lw.lock (x.gg a _ hG)
/-- an iterable whose dict is known before it is evaluated -/
def SLoc (Γ : Cn) (L : LS) (te : TE) (de : DE) : Prop := ∀ (t : Nat) (σ : L2.St) (δ : DS) (B G H : Hp), LawAt L t G H → Exf G H → Env Γ L B G H σ δ → ∀ R : List (Key × D) → Prop, (de δ fun d => match d with
    | .dct kvs => R kvs
    | _ => False) → ∃ a xs ds, G a = some (.dK xs) ∧ RepK Γ L G xs ds ∧ ds.length ≤ LIM ∧ R ds ∧ ∀ H2 : Hp, (∀ b o, H b = some o → b ≠ a → H2 b = some o) → ∀ Q : VK, Q (.ref a) H2 → te σ H2 Q
theorem loc_var (i : Nat) : SLoc Γ L (tVar i) (dVarS i) := fun t σ δ B G H l x e R h => by
  unfold dVarS at h
  split at h
  · rename_i d hd
    obtain ⟨v, hv, r⟩ := e.sh i d (shS_some hd)
    cases r with
    | dct hg rk z => exact ⟨_, _, _, hg, rk, z, h, fun H2 _ Q q => ⟨_, hv, q⟩⟩
    | _ => exact h.elim
  · exact h.elim
theorem loc_fld (i : Nat) {f : Str} (hf : FldOk Γ f) : SLoc Γ L (tFld Γ.K (tVar i) f) (dFld f (dVarS i)) := fun t σ δ B G H l x e R h => by
  unfold dFld dVarS at h
  split at h
  · rename_i d hd
    obtain ⟨v, hv, r⟩ := e.sh i d (shS_some hd)
    cases r with
    | ins hg hdx hc rf =>
      rename_i a C dx cn xs ds
      obtain ⟨k1, k2⟩ := hf cn C hc
      dsimp only at h
      rcases rf.look f with ⟨h1, _⟩ | ⟨w, d2, h1, h2, rw_⟩
      · rw [h1] at h; exact h.elim
      · rw [h1] at h
        cases rw_ with
        | dct hg2 rk z =>
          rename_i b ys ks
          refine ⟨_, _, _, hg2, rk, z, h, fun H2 kp Q q => ⟨_, hv, a, C, dx, xs, _, rfl, kp a _ (x.ins hg) ?_, k1, k2, h2, q⟩⟩
          intro z; subst z; rw [hg] at hg2; cases hg2
        | _ => exact h.elim
    | _ => exact h.elim
  · exact h.elim
/-! ### the keys -/
def dKeys (de : DE) : DI := fun δ P => de δ fun d => match d with
  | .dct kvs => P (kvs.map fun kv => kD kv.1)
  | _ => False
theorem its_keys {kp : Addr → Prop} {a : Addr} {od : Obj} {xs : List (Key × V)} {ds : List (Key × GP.D)} {G1 H1 : Hp} (hk : kp a) (hn : notL L a) (h1 : H1 a = some (.frz od (.dK xs))) (r : RepK Γ L G1 xs ds) (z : ds.length ≤ LIM) : ItsOf Γ L kp (Itk a od xs) (ds.map fun kv => kD kv.1) G1 H1 where
  lim := by rw [List.length_map]; exact z
  go := fun i G H hi g x kk => ⟨kk a _ hk h1 hn, by rw [List.length_map] at hi; rw [r.len]; exact hi⟩
  st := fun G H g x kk => ⟨kk a _ hk h1 hn, by rw [List.length_map, r.len]; exact Nat.le_refl _⟩
  yl := fun t i x d G H H2 hd l g xf kk y => by
    obtain ⟨e1, k, v, hkv, rfl⟩ := y
    subst e1
    refine ⟨G, At.start xf l, ?_⟩
    obtain ⟨w, hw, rw'⟩ := (r.keys).at_ hd
    rw [List.getElem?_map, hkv] at hw
    cases hw
    exact rw'.up g
/-- locked, or as it is (where it is locked by now) -/
def tLk (t : TE) : TE := fun σ H Q => tLockE t σ H Q ∨ t σ H Q
def tLkS (t : TS) : TS := fun D σ H => tLock t D σ H ∨ t D σ H
theorem pe_lk {X : Cx} {e : Expr} {t : TE} (h : PE X e t) : PE X e (tLk t) := pe_or (pe_lock h) h
theorem ps_lk {X : Cx} {e : Stmt} {t : TS} (h : PS X e t) : PS X e (tLkS t) := ps_or (ps_lock h) h
theorem s_lcK {g : TG} {dg : DG} {sl vs : List Nat} (hi : SLoc Γ L ta da) (hg : SG Γ L g dg sl) (ht : SB Γ L 0 tt dt) (he : SE Γ L 0 te de) (hsl : ∀ i ∈ sl, i ∈ vs := by decide) : SF Γ L 0 (tLk (tLc (iKeys ta) g tt te vs)) (dLc (dKeys da) dg dt de vs) := fun t σ δ B G H l x e hc P hp Q k => by
  obtain ⟨a, xs, ds, hG, rk, z, q, loc⟩ := hi t σ δ B G H l x e _ hp
  have hn := G_notL l hG
  rcases x a _ hG with hH | ⟨_, od, e1, hH⟩
  · refine .inl ⟨a, _, hH, trivial, fun od => ?_⟩
    refine loc _ (fun b o h nb => by rw [upd_ne nb]; exact h) _ ⟨a, od, rfl, .inl ⟨xs, upd_same, ?_⟩⟩
    refine lc_core' (kp := fun _ => True) (T := t) (Q := fun v H' => H' a = some (.frz od (.dK xs)) ∧ Q v (upd H' a (.dK xs))) hsl hg ht he (l.lock hG) (x.lock hG od) (e.lock hG) (by omega) hc (its_keys trivial hn upd_same rk z) q fun p d G2 H2 a2 np o gp q2 => ?_
    have e2 := a2.bh a _ upd_same hn
    have np2 : p ≠ a := fun y => by subst y; rw [upd_same] at np; cases np
    refine ⟨e2, k p d G2 _ (a2.unlock hG hH) (by rw [upd_ne np2] at np; exact np) (o.moved (upd_ne np2)) gp q2⟩
  · cases e1
    refine .inr (loc _ (fun b o h nb => h) _ ⟨a, od, rfl, .inl ⟨xs, hH, ?_⟩⟩)
    exact lc_core' (kp := fun _ => True) (T := t) hsl hg ht he l x e (by omega) hc (its_keys trivial hn hH rk z) q fun p d G2 H2 a2 np o gp q2 => k p d G2 H2 a2 np o gp q2
/-- a base that also holds the locked dict -/
theorem At.based {t : Nat} {B G0 G H H2 : Hp} {a : Addr} {f : HO} (x : At L t B G0 G H) (h2 : ∀ b, b ≠ a → H2 b = H b) (ha : H2 a = some f) (gh : Exf G H2) (lw : LawAt L t G H2) : At L t (upd B a f) G G H2 where
  gg := Ex.rfl'
  gh := gh
  bh := fun b o h nl => by
    by_cases z : b = a
    · subst z; rw [upd_same] at h; rw [ha]; exact h
    · rw [upd_ne z] at h; rw [h2 b z]; exact x.bh b o h nl
  nw := fun _ _ h => .inl h
  lw := lw
theorem At.back {t u : Nat} {B G0 G H G4 H4 H5 : Hp} {a : Addr} {f o0 : HO} (x : At L t B G0 G H) (y : At L u (upd B a f) G G4 H4) (hH : H a = some o0) (h5 : ∀ b, b ≠ a → H5 b = H4 b) (ha : H5 a = some o0) (gh : Exf G4 H5) (lw : LawAt L u G4 H5) : At L u B G0 G4 H5 where
  gg := x.gg.tr y.gg
  gh := gh
  bh := fun b o h nl => by
    by_cases z : b = a
    · subst z
      have := x.bh b o h nl
      rw [hH] at this
      rw [ha]; exact this
    · rw [h5 b z]; exact y.bh b o (by rw [upd_ne z]; exact h) nl
  nw := fun b o h => (y.nw b o h).elim (fun q => x.nw b o q) fun q => by
    by_cases z : b = a
    · subst z; rw [upd_same] at q; cases q
    · rw [upd_ne z] at q; exact .inr q
  lw := lw
theorem Env.rebase {B B2 G H H2 : Hp} {σ : L2.St} {δ : DS} (e : Env Γ L B G H σ δ) (f : ∀ p, B p = none → G p = none → B2 p = none ∧ H2 p = H p) : Env Γ L B2 G H2 σ δ :=
  ⟨e.sh, fun i d hi => by
    obtain ⟨p, h1, h2, h3, h4, h5⟩ := e.ow i d hi
    obtain ⟨f1, f2⟩ := f p h3 h4
    exact ⟨p, h1, h2.moved f2, f1, h4, h5⟩, e.dj, e.len⟩
theorem Ret.rebase {own : Bool} {B B2 G H H2 : Hp} {v : V} {d : GP.D} (r : Ret Γ L own B G H v d) (f : ∀ p, B p = none → G p = none → B2 p = none ∧ H2 p = H p) : Ret Γ L own B2 G H2 v d := by
  cases own with
  | false => exact r
  | true =>
    obtain ⟨p, h1, h3, h2, h4, h5⟩ := r
    obtain ⟨f1, f2⟩ := f p h3 h4
    exact ⟨p, h1, f1, h2.moved f2, h4, h5⟩
theorem s_forK {g : TG} {dg : DG} {sl : List Nat} {tbd : TS} {dbd : DQ} (hi : SLoc Γ L ta da) (hg : SG Γ L g dg sl) (hb : SS Γ L 0 tbd dbd) : SS Γ L 0 (tLkS (tFor (iKeys ta) g tbd)) (dFor (dKeys da) dg dbd) := fun t σ δ B G0 G H at_ e hc N hp D E => by
  obtain ⟨a, xs, ds, hG, rk, z, q, loc⟩ := hi t σ δ B G H at_.lw at_.gh e _ hp
  have hn := G_notL at_.lw hG
  have other : ∀ {G2 : Hp} {p : Addr}, Ex G G2 → G2 p = none → p ≠ a := fun {G2 p} x h y => by subst y; rw [x p _ hG] at h; cases h
  rcases at_.gh a _ hG with hH | ⟨_, od, e1, hH⟩
  · refine .inl ⟨a, _, hH, trivial, fun od => ?_⟩
    refine loc _ (fun b o h nb => by rw [upd_ne nb]; exact h) _ ⟨a, od, rfl, .inl ⟨xs, upd_same, ?_⟩⟩
    have a0 : At L t (upd B a (.frz od (.dK xs))) G G (upd H a (.frz od (.dK xs))) := at_.based (fun b nb => upd_ne nb) upd_same (at_.gh.lock hG od) (at_.lw.lock hG)
    have e0 : Env Γ L (upd B a (.frz od (.dK xs))) G (upd H a (.frz od (.dK xs))) σ δ := e.rebase fun p h1 h2 => by
      have np := other Ex.rfl' h2
      exact ⟨by rw [upd_ne np]; exact h1, upd_ne np⟩
    have back : ∀ {G4 H4 : Hp}, At L t (upd B a (.frz od (.dK xs))) G G4 H4 → H4 a = some (.frz od (.dK xs)) ∧ At L t B G0 G4 (upd H4 a (.dK xs)) := fun {G4 H4} y =>
      ⟨y.bh a _ upd_same hn, at_.back y hH (fun b nb => upd_ne nb) upd_same (y.gh.unlock (y.gg a _ hG)) (y.lw.lock (y.gg a _ hG))⟩
    have re : ∀ {G4 H4 : Hp}, At L t (upd B a (.frz od (.dK xs))) G G4 H4 → ∀ p, (upd B a (.frz od (.dK xs))) p = none → G4 p = none → B p = none ∧ (upd H4 a (.dK xs)) p = H4 p := fun {G4 H4} y p h1 h2 => by
      have np := other y.gg h2
      rw [upd_ne np] at h1
      exact ⟨h1, upd_ne np⟩
    refine for_core (wi := iKeys ta) (di := dKeys da) (kp := fun b => b = a) (T := t + 0) (fun b o hb h => ?_) hg hb a0 e0 (by omega) hc (its_keys rfl hn upd_same rk z) q ⟨fun σ4 δ4 G4 H4 y e4 q4 => ⟨(back y).1, E.nx σ4 δ4 G4 _ (back y).2 (e4.rebase (re y)) q4⟩, fun v d4 G4 H4 y r4 q4 => ⟨(back y).1, E.rt v d4 G4 _ (back y).2 (r4.rebase (re y)) q4⟩, fun σ4 δ4 G4 H4 y e4 q4 => ⟨(back y).1, E.bk σ4 δ4 G4 _ (back y).2 (e4.rebase (re y)) q4⟩, fun σ4 δ4 G4 H4 y e4 q4 => ⟨(back y).1, E.ct σ4 δ4 G4 _ (back y).2 (e4.rebase (re y)) q4⟩⟩
    subst hb
    rw [upd_same] at h ⊢
    exact h
  · cases e1
    refine .inr (loc _ (fun b o h nb => h) _ ⟨a, od, rfl, .inl ⟨xs, hH, ?_⟩⟩)
    have a0 : At L t (upd B a (.frz od (.dK xs))) G G H := at_.based (fun b nb => rfl) hH at_.gh at_.lw
    have e0 : Env Γ L (upd B a (.frz od (.dK xs))) G H σ δ := e.rebase fun p h1 h2 => by
      have np := other Ex.rfl' h2
      exact ⟨by rw [upd_ne np]; exact h1, rfl⟩
    have back : ∀ {G4 H4 : Hp}, At L t (upd B a (.frz od (.dK xs))) G G4 H4 → At L t B G0 G4 H4 := fun {G4 H4} y => at_.back y hH (fun b nb => rfl) (y.bh a _ upd_same hn) y.gh y.lw
    have re : ∀ {G4 H4 : Hp}, At L t (upd B a (.frz od (.dK xs))) G G4 H4 → ∀ p, (upd B a (.frz od (.dK xs))) p = none → G4 p = none → B p = none ∧ H4 p = H4 p := fun {G4 H4} y p h1 h2 => by
      have np := other y.gg h2
      rw [upd_ne np] at h1
      exact ⟨h1, rfl⟩
    refine for_core (wi := iKeys ta) (di := dKeys da) (kp := fun b => b = a) (T := t + 0) (fun b o hb h => ?_) hg hb a0 e0 (by omega) hc (its_keys rfl hn hH rk z) q ⟨fun σ4 δ4 G4 H4 y e4 q4 => E.nx σ4 δ4 G4 _ (back y) (e4.rebase (re y)) q4, fun v d4 G4 H4 y r4 q4 => E.rt v d4 G4 _ (back y) (r4.rebase (re y)) q4, fun σ4 δ4 G4 H4 y e4 q4 => E.bk σ4 δ4 G4 _ (back y) (e4.rebase (re y)) q4, fun σ4 δ4 G4 H4 y e4 q4 => E.ct σ4 δ4 G4 _ (back y) (e4.rebase (re y)) q4⟩
    subst hb
    rw [upd_same, ← h, hH]
end
end GP

set_option Elab.async false
set_option linter.all false
set_option maxRecDepth 100000
set_option maxHeartbeats 4000000
/-! G20: dict comprehensions on data. -/
namespace GP
open PySem PySem.Spec PyProof.Rows L2
section
variable {Γ : Cn} {L : LS} {c c1 c2 c3 n : Nat} {te ta tb tk tv : TE} {de da db dk dv : DE} {tt : TT} {dt : DT}
def dDcL (dg : DG) (dt : DT) (dk dv : DE) (P : D → Prop) (δ : DS) : List D → List (Key × D) → Prop
  | [], acc => P (.dct acc)
  | x :: xs, acc => dg x δ fun δ2 => dt δ2 fun b => if b = true then dk δ2 fun y => dv δ2 fun z => match keyD y with
    | some k => dDcL dg dt dk dv P δ xs (putD acc k z)
    | none => False
    else dDcL dg dt dk dv P δ xs acc
def dDc (di : DI) (dg : DG) (dt : DT) (dk dv : DE) (vs : List Nat) : DE := fun δ P => di δ fun items => dDcL dg dt dk dv P (wipeD δ vs) items []
theorem stays_none {t : Nat} {G H G2 H2 : Hp} {p : Addr} {o : HO} (a : At L t H G G2 H2) (g : G p = none) (h : H p = some o) : G2 p = none := by
  cases z : G2 p with
  | none => rfl
  | some u =>
    rcases a.nw p u z with y | y
    · rw [g] at y; cases y
    · rw [h] at y; cases y
theorem dc_core' {g : TG} {dg : DG} {sl vs : List Nat} {kp : Addr → Prop} {t : Nat} {σ : L2.St} {δ : DS} {B G H : Hp} {items : List GP.D} {J : It} {P : GP.D → Prop} {Q : VK}
    (hsl : ∀ i ∈ sl, i ∈ vs) (hg : SG Γ L g dg sl) (ht : SB Γ L 0 tt dt) (hk : ST Γ L 0 tk dk) (hv : SE Γ L 0 tv dv) (l : LawAt L t G H) (x : Exf G H) (e : Env Γ L B G H σ δ) (hM : t ≤ TMAX) (hI : ItsOf Γ L kp J items G H)
    (hp : dDcL dg dt dk dv P (wipeD δ vs) items []) (k : ∀ p d G2 H2, At L t H G G2 H2 → H p = none → OwnAt Γ L G2 H2 p d → G2 p = none → P d → Q (.ref p) H2) :
    ∀ D, H D = none → ∃ W : Nat → Nat → Hp → Prop, (∃ m, W 0 m (upd H D (.dK []))) ∧ ∀ i m H, W i m H →
      (J.stop i H ∧ Q (.ref D) H) ∨ (J.go i H ∧ ∃ Nx : Hp → Prop, (∀ H2, Nx H2 → ∃ m2, m2 < m ∧ W (i + 1) m2 H2) ∧ ∀ x H2, J.yld i H x H2 → g x (wipe σ vs) H2 fun σ2 H2 => wipe σ2 vs = wipe σ vs ∧ tt σ2 H2 fun b H3 =>
        if b = true then tk σ2 H3 fun y H4 => tv σ2 H4 fun z H5 => ∃ kvs k, y = kV k ∧ H5 D = some (.dK kvs) ∧ kvs.length < sizeLine ∧ Nx (upd H5 D (.dK (putK kvs k z))) else Nx H3) := by
  intro D hD
  have hz := hI.lim
  have hGD : G D = none := x.none hD
  have hnD : notL L D := l.out hD
  let W : Nat → Nat → Hp → Prop := fun i m H1 => m = items.length - i ∧ i ≤ items.length ∧ ∃ (G1 : Hp) (acc : List (Key × V)) (ds : List (Key × GP.D)), At L t H G G1 H1 ∧ H1 D = some (.dK acc) ∧ G1 D = none ∧ RepK Γ L G1 acc ds ∧ ds.length ≤ i ∧ dDcL dg dt dk dv P (wipeD δ vs) (items.drop i) ds
  refine ⟨W, ⟨items.length, by simp, Nat.zero_le _, G, [], [], At.newH x l hD, upd_same, hGD, .nil, Nat.le_refl _, by simpa using hp⟩, ?_⟩
  rintro i m H1 ⟨rfl, hi, G1, acc, ds, a1, hacc, hg1, racc, hds, q1⟩
  have kept : ∀ a o, kp a → H a = some o → notL L a → H1 a = some o := fun b o _ h nl => a1.bh b o h nl
  by_cases hlt : i < items.length
  · right
    obtain ⟨d, hd⟩ : ∃ d, items[i]? = some d := ⟨items[i], by simp [hlt]⟩
    have hdrop : items.drop i = d :: items.drop (i + 1) := by
      rw [List.drop_eq_getElem_cons hlt]
      rw [List.getElem?_eq_getElem hlt] at hd
      rw [Option.some.inj hd]
    rw [hdrop] at q1
    refine ⟨hI.go i G1 H1 hlt a1.gg a1.gh kept, fun H2 => W (i + 1) (items.length - (i + 1)) H2, fun H2 w => ⟨_, by omega, w⟩, fun xv H2 y => ?_⟩
    obtain ⟨G2, a2, r2⟩ := hI.yl t i xv d G1 H1 H2 hd a1.lw a1.gg a1.gh kept y
    have hD2 := a2.bh D _ hacc hnD
    have hg2 := stays_none a2 hg1 hacc
    have e2 : Env Γ L B G2 H2 (wipe σ vs) (wipeD δ vs) := ((e.wipe vs).step a1).step a2
    refine hg t (wipe σ vs) (wipeD δ vs) B G2 H2 xv d a2.lw a2.gh e2 r2 _ q1 _ fun σ3 δ3 e3 hw q3 => ⟨by rw [hw vs hsl]; exact wipe_wipe σ vs, ?_⟩
    refine ht t σ3 δ3 B G2 H2 a2.lw a2.gh e3 hM _ q3 _ fun b G3 H3 a3 q4 => ?_
    have hD3 := a3.bh D _ hD2 hnD
    have hg3 := stays_none a3 hg2 hD2
    have a13 : At L t H G G3 H3 := (a1.tr a2).tr a3
    cases b with
    | false => exact ⟨rfl, hlt, G3, acc, ds, a13, hD3, hg3, racc.up (a2.gg.tr a3.gg), by omega, q4⟩
    | true =>
      refine hk t σ3 δ3 B G3 H3 a3.lw a3.gh (e3.step a3) hM _ q4 _ fun kv kd G4 H4 a4 r4 q5 => ?_
      have hD4 := a4.bh D _ hD3 hnD
      have hg4 := stays_none a4 hg3 hD3
      refine hv t σ3 δ3 B G4 H4 a4.lw a4.gh ((e3.step a3).step a4) hM _ q5 _ fun zv zd G5 H5 a5 r5 q6 => ?_
      have hD5 := a5.bh D _ hD4 hnD
      have hg5 := stays_none a5 hg4 hD4
      split at q6
      · rename_i key hkey
        have ek := key_of' r4 hkey
        have ok := okK_of r4 hkey
        have hlen := racc.len
        have r6 := (racc.up (((a2.gg.tr a3.gg).tr a4.gg).tr a5.gg)).put key ok r5
        refine ⟨acc, key, ek, hD5, ?_, rfl, hlt, G5, putK acc key zv, putD ds key zd, ((a13.tr a4).tr a5).write hD hg5 hnD, upd_same, hg5, r6, ?_, q6⟩
        · have : acc.length < LIM := by omega
          exact Nat.lt_of_lt_of_le this (lim_size (Nat.le_refl _))
        · have := putD_len ds key zd
          omega
      · exact q6.elim
  · left
    have hi2 : i = items.length := by omega
    subst hi2
    rw [List.drop_length] at q1
    exact ⟨hI.st G1 H1 a1.gg a1.gh kept, k D _ G1 H1 a1 hD (.dct hacc racc (by omega)) hg1 q1⟩
theorem s_dc {wi : TI} {di : DI} {g : TG} {dg : DG} {sl vs : List Nat} (hi : SI Γ L (fun _ => True) c1 wi di) (hg : SG Γ L g dg sl) (ht : SB Γ L 0 tt dt) (hk : ST Γ L 0 tk dk) (hv : SE Γ L 0 tv dv) (hsl : ∀ i ∈ sl, i ∈ vs := by decide) : SF Γ L c1 (tDc wi g tt tk tv vs) (dDc di dg dt dk dv vs) := fun t σ δ B G H l x e hc P hp Q k => by
  refine hi t σ δ B G H l x e hc _ hp _ fun J items G1 H1 a1 hI q => ?_
  exact dc_core' (kp := fun _ => True) hsl hg ht hk hv a1.lw a1.gh (e.step a1) hc hI q fun p d G2 H2 a2 n o g q2 => k p d G2 H2 (a1.tr a2) (a1.old n) o g q2
theorem s_dcK {g : TG} {dg : DG} {sl vs : List Nat} (hi : SLoc Γ L ta da) (hg : SG Γ L g dg sl) (ht : SB Γ L 0 tt dt) (hk : ST Γ L 0 tk dk) (hv : SE Γ L 0 tv dv) (hsl : ∀ i ∈ sl, i ∈ vs := by decide) : SF Γ L 0 (tLk (tDc (iKeys ta) g tt tk tv vs)) (dDc (dKeys da) dg dt dk dv vs) := fun t σ δ B G H l x e hc P hp Q k => by
  obtain ⟨a, xs, ds, hG, rk, z, q, loc⟩ := hi t σ δ B G H l x e _ hp
  have hn := G_notL l hG
  rcases x a _ hG with hH | ⟨_, od, e1, hH⟩
  · refine .inl ⟨a, _, hH, trivial, fun od => ?_⟩
    refine loc _ (fun b o h nb => by rw [upd_ne nb]; exact h) _ ⟨a, od, rfl, .inl ⟨xs, upd_same, ?_⟩⟩
    refine dc_core' (kp := fun _ => True) (t := t) (Q := fun v H2 => H2 a = some (.frz od (.dK xs)) ∧ Q v (upd H2 a (.dK xs))) hsl hg ht hk hv (l.lock hG) (x.lock hG od) (e.lock hG) (by omega) (its_keys trivial hn upd_same rk z) q fun p d G2 H2 a2 np o gp q2 => ?_
    have np2 : p ≠ a := fun y => by subst y; rw [upd_same] at np; cases np
    exact ⟨a2.bh a _ upd_same hn, k p d G2 _ (a2.unlock hG hH) (by rw [upd_ne np2] at np; exact np) (o.moved (upd_ne np2)) gp q2⟩
  · cases e1
    refine .inr (loc _ (fun b o h nb => h) _ ⟨a, od, rfl, .inl ⟨xs, hH, ?_⟩⟩)
    exact dc_core' (kp := fun _ => True) (t := t) hsl hg ht hk hv l x e (by omega) (its_keys trivial hn hH rk z) q fun p d G2 H2 a2 np o gp q2 => k p d G2 H2 a2 np o gp q2
end
end GP

set_option Elab.async false
set_option linter.all false
set_option maxRecDepth 100000
set_option maxHeartbeats 4000000
/-! G21: dict(..), d.get(k, x), enumerate, zip on data. -/
namespace GP
open PySem PySem.Spec PyProof.Rows L2
def gDict (K : FK) : List V → Hp → VK → Prop := fun xs H Q => (∃ (a : Addr) (ps : List Addr) (kvs : List (Key × V)), xs = [.ref a] ∧ SqL K H a (ps.map V.ref) ∧ Paired (fun p kv => SqT K H p [kV kv.1, kv.2]) ps kvs ∧ ∀ p, H p = none → Q (.ref p) (upd H p (.dK (mergeK [] kvs)))) ∨
  ∃ (a : Addr) (kvs : List (Key × V)), xs = [.ref a] ∧ Rd H a (.dK kvs) ∧ ∀ p, H p = none → Q (.ref p) (upd H p (.dK kvs))
theorem g_dict {X : Cx} (hc : X.calm = true) : CallR X (.type "dict") (gDict X.K) := (call_dictP hc).or call_dictD
section
variable {Γ : Cn} {L : LS} {c c1 c2 c3 n : Nat} {te ta tb tc : TE} {de da db dc : DE} {tA : TA} {dA : DA}
def pairsD : List D → Option (List (Key × D))
  | [] => some []
  | .tup [k, v] :: r => match keyD k with
    | some k => (pairsD r).map ((k, v) :: ·)
    | none => none
  | _ => none
def mergeD (acc : List (Key × D)) (kvs : List (Key × D)) : List (Key × D) := kvs.foldl (fun a kv => putD a kv.1 kv.2) acc
theorem mergeD_len : ∀ (kvs acc : List (Key × D)), (mergeD acc kvs).length ≤ acc.length + kvs.length
  | [], acc => Nat.le_refl _
  | kv :: r, acc => by
    have h1 := mergeD_len r (putD acc kv.1 kv.2)
    have h2 := putD_len acc kv.1 kv.2
    show (mergeD (putD acc kv.1 kv.2) r).length ≤ acc.length + (r.length + 1)
    omega
theorem RepK.merge {G : Hp} : ∀ {ys : List (Key × V)} {es : List (Key × GP.D)} {xs : List (Key × V)} {ds : List (Key × GP.D)}, RepK Γ L G xs ds → RepK Γ L G ys es → RepK Γ L G (mergeK xs ys) (mergeD ds es)
  | _, _, _, _, h, .nil => h
  | _, _, xs, ds, h, .cons (k := k) (v := v) (d := d) (vs := vs) (ds := es) o r t => by
    have := RepK.merge (h.put k o r) t
    exact this
theorem pairs_rep {G H : Hp} (x : Exf G H) : ∀ {vs : List V} {ds : List GP.D} {ks : List (Key × GP.D)}, RepL Γ L G vs ds → pairsD ds = some ks → ∃ (ps : List Addr) (kvs : List (Key × V)), vs = ps.map V.ref ∧ Paired (fun p kv => SqT Γ.K H p [kV kv.1, kv.2]) ps kvs ∧ RepK Γ L G kvs ks
  | _, _, _, .nil, h => by
    cases h
    exact ⟨[], [], rfl, .nil, .nil⟩
  | _, _, _, .cons (d := d) (ds := dr) r t, h => by
    unfold pairsD at h
    split at h
    · rename_i e; cases e
    · rename_i k w rr e
      cases e
      split at h
      · rename_i key hk
        obtain ⟨kr, h1, h2⟩ := Option.map_eq_some_iff.mp h
        subst h2
        obtain ⟨ps, kvs, e1, e2, e3⟩ := pairs_rep x t h1
        cases r with
        | tup hg rl z =>
          cases rl with
          | cons r1 rl => cases rl with
            | cons r2 rl =>
              cases rl
              have ek := key_of' (H := H) (.inl r1) hk
              have ok := okK_of (H := H) (.inl r1) hk
              subst ek
              rename_i pa wv
              exact ⟨pa :: ps, (key, wv) :: kvs, by rw [e1]; rfl, .cons (x.tp hg).sq e2, .cons ok r2 e3⟩
      · cases h
    · cases h
def fDict : List D → Option D
  | [.lst xs] => match pairsD xs with
    | some kvs => some (.dct (mergeD [] kvs))
    | none => none
  | [.dct kvs] => some (.dct kvs)
  | _ => none
theorem pairsD_len : ∀ {xs : List GP.D} {ks : List (Key × GP.D)}, pairsD xs = some ks → ks.length = xs.length
  | [], _, h => by cases h; rfl
  | d :: r, _, h => by
    unfold pairsD at h
    split at h
    · rename_i e; cases e
    · rename_i e
      cases e
      split at h
      · obtain ⟨kr, h1, h2⟩ := Option.map_eq_some_iff.mp h
        subst h2
        rw [List.length_cons, List.length_cons, pairsD_len h1]
      · cases h
    · cases h
theorem k_dict : CallF Γ L (gDict Γ.K) fDict := fun t G H xs ds z l e r0 hz Q k => by
  unfold fDict at hz
  split at hz
  · obtain ⟨v, rfl, r⟩ := one_of r0
    obtain ⟨p, ys, rfl, hp, r1, z1⟩ := lst_of e r
    split at hz
    · rename_i kvs hk
      cases hz
      obtain ⟨ps, kv, e1, e2, e3⟩ := pairs_rep e r1 hk
      refine .inl ⟨p, ps, kv, rfl, by rw [← e1]; exact SqL.of hp, e2, fun q nq => ?_⟩
      have a2 := At.newH (o := .dK (mergeK [] kv)) e l nq
      refine k q G _ a2 nq (.dct upd_same (RepK.merge .nil e3) ?_) (e.none nq)
      have h1 := mergeD_len kvs []
      have h2 := pairsD_len hk
      rw [List.length_nil] at h1
      omega
    · cases hz
  · cases hz
    obtain ⟨v, rfl, r⟩ := one_of r0
    obtain ⟨p, ys, rfl, hp, r1, z1⟩ := dct_of e r
    exact .inr ⟨p, ys, rfl, hp, fun q nq => k q G _ (At.newH e l nq) nq (.dct upd_same r1 z1) (e.none nq)⟩
  · cases hz
/-- d.get(k, x) -/
def dGet2 (d k x : DE) : DE := fun δ P => d δ fun o => match o with
  | .dct kvs => k δ fun y => match keyD y with
    | some key => x δ fun z => P ((valD kvs key).getD z)
    | none => False
  | _ => False
theorem s_get2 (h1 : ST Γ L c1 ta da) (h2 : ST Γ L c2 tb db) (h3 : SE Γ L c3 tc dc) : SE Γ L (c1 + (c2 + c3)) (tDGet2 ta tb tc) (dGet2 da db dc) := fun t σ δ B G H l x e hc P hp Q k => by
  refine h1 t σ δ B G H l x e (by omega) _ hp _ fun v d G1 H1 a1 r1 q1 => ?_
  cases d <;> try exact q1.elim
  rename_i kvs
  obtain ⟨p, ys, rfl, hp1, rk, z1⟩ := dct_of a1.gh r1
  refine ⟨p, rfl, .inl ⟨ys, hp1⟩, ?_⟩
  refine h2 (t + c1) σ δ B G1 H1 a1.lw a1.gh (e.step a1) (by omega) _ q1 _ fun w dk G2 H2 a2 r2 q2 => ?_
  split at q2
  · rename_i key hk
    have ek := key_of' r2 hk
    subst ek
    refine h3 (t + c1 + c2) σ δ B G2 H2 a2.lw a2.gh ((e.step a1).step a2) (by omega) _ q2 _ fun u du G3 H3 a3 r3 q3 => ?_
    obtain ⟨p3, ys3, e3, hp3, rk3, _⟩ := dct_of a3.gh ((r1.step a2).step a3)
    cases e3
    have ec : t + c1 + c2 + c3 = t + (c1 + (c2 + c3)) := by omega
    have a123 : At L (t + (c1 + (c2 + c3))) H G G3 H3 := by rw [← ec]; exact (a1.tr a2).tr a3
    rcases rk3.val key with ⟨h4, h5⟩ | ⟨v0, d0, h4, h5, rv0⟩
    · refine ⟨none, .inl ⟨ys3, key, hp3, rfl, h5.symm⟩, k u _ G3 H3 a123 ?_ q3⟩
      rw [h4]; exact r3
    · refine ⟨some v0, .inl ⟨ys3, key, hp3, rfl, h5.symm⟩, k v0 _ G3 H3 a123 ?_ q3⟩
      rw [h4]; exact rv0
  · exact q2.elim
/-! ### enumerate, zip: of lists that are stable -/
def dEnum (a : DA) : DI := fun δ P => a δ fun ds => match ds with
  | [.lst xs] => P ((List.range xs.length).zipWith (fun (i : Nat) x => GP.D.tup [.int i, x]) xs)
  | _ => False
theorem rng_zip {α β : Type} (f : Nat → α → β) (xs : List α) (i : Nat) : ((List.range xs.length).zipWith f xs)[i]? = (xs[i]?).map (f i) := by
  rw [List.getElem?_zipWith]
  by_cases h : i < xs.length
  · rw [List.getElem?_range h, List.getElem?_eq_getElem h]; rfl
  · rw [List.getElem?_eq_none (by rw [List.length_range]; omega), List.getElem?_eq_none (by omega)]; rfl
theorem s_enum (h : SA Γ L 1 c tA dA) {kp : Addr → Prop} : SI Γ L kp c (iEnum Γ.K tA) (dEnum dA) := fun t σ δ B G H l x e hc P hp R k => by
  refine h t σ δ B G H l x e hc _ hp _ fun vs ds G1 H1 a1 r1 hl q => ?_
  split at q
  · rename_i xs
    cases r1 with
    | cons r1 rr =>
      cases rr
      cases r1 with
      | lst hg rl z =>
        rename_i a ys
        have sq : ∀ (G2 H2 : Hp), Ex G1 G2 → Exf G2 H2 → SqL Γ.K H2 a ys := fun G2 H2 g x2 => x2.sl (SqL.of (g a _ hg))
        have hlen := rl.len
        refine ⟨a, ys, rfl, a1.gh.sl (SqL.of hg), k _ _ G1 H1 a1 ?_ q⟩
        refine ⟨by rw [List.length_zipWith, List.length_range]; omega, fun i G2 H2 hi g x2 _ => ?_, fun G2 H2 g x2 _ => ⟨ys, sq G2 H2 g x2, by rw [List.length_zipWith, List.length_range]; omega⟩, fun u i v d G2 H2 H3 hd l2 g x2 _ y => ?_⟩
        · rw [List.length_zipWith, List.length_range] at hi
          exact ⟨ys, ys[i]'(by omega), sq G2 H2 g x2, by simp⟩
        · obtain ⟨T, w, rfl, nT, rfl, hw⟩ := y
          have hw := hw ys (sq G2 H2 g x2)
          rw [rng_zip] at hd
          obtain ⟨d0, h0, rfl⟩ := Option.map_eq_some_iff.mp hd
          obtain ⟨w2, hw2, rw2⟩ := rl.at_ h0
          rw [hw] at hw2
          cases hw2
          have a3 := At.new (o := .tup [.int (i : Nat), w]) x2 l2 nT
          exact ⟨_, a3, .tup (.inl upd_same) (.cons (.int _) (.cons (rw2.up (g.tr a3.gg)) .nil)) (show 2 ≤ LIM by decide)⟩
      | _ => rename_i h2; cases h2
  · exact q.elim
def dZip (a : DA) : DI := fun δ P => a δ fun ds => match ds with
  | [.lst xs, .lst ys] => P (xs.zipWith (fun x y => GP.D.tup [x, y]) ys)
  | _ => False
theorem s_zip (h : SA Γ L 2 c tA dA) {kp : Addr → Prop} : SI Γ L kp c (iZip Γ.K tA) (dZip dA) := fun t σ δ B G H l x e hc P hp R k => by
  refine h t σ δ B G H l x e hc _ hp _ fun vs ds G1 H1 a1 r1 hl q => ?_
  split at q
  · rename_i xs ys
    cases r1 with
    | cons r1 rr => cases rr with
      | cons r2 rr =>
        cases rr
        cases r1 with
        | lst hg rl z => cases r2 with
          | lst hg2 rl2 z2 =>
            rename_i a vs1 b vs2
            have sq : ∀ (G2 H2 : Hp), Ex G1 G2 → Exf G2 H2 → SqL Γ.K H2 a vs1 := fun G2 H2 g x2 => x2.sl (SqL.of (g a _ hg))
            have sq2 : ∀ (G2 H2 : Hp), Ex G1 G2 → Exf G2 H2 → SqL Γ.K H2 b vs2 := fun G2 H2 g x2 => x2.sl (SqL.of (g b _ hg2))
            have hlen := rl.len
            have hlen2 := rl2.len
            refine ⟨a, b, vs1, vs2, rfl, a1.gh.sl (SqL.of hg), a1.gh.sl (SqL.of hg2), k _ _ G1 H1 a1 ?_ q⟩
            refine ⟨by rw [List.length_zipWith]; omega, fun i G2 H2 hi g x2 _ => ?_, fun G2 H2 g x2 _ => ⟨vs1, vs2, sq G2 H2 g x2, sq2 G2 H2 g x2, by rw [List.length_zipWith]; omega⟩, fun u i v d G2 H2 H3 hd l2 g x2 _ y => ?_⟩
            · rw [List.length_zipWith] at hi
              exact ⟨vs1, vs2, vs1[i]'(by omega), vs2[i]'(by omega), sq G2 H2 g x2, sq2 G2 H2 g x2, by simp, by simp⟩
            · obtain ⟨T, w, w', rfl, nT, rfl, hw, hw'⟩ := y
              have hw := hw vs1 (sq G2 H2 g x2)
              have hw' := hw' vs2 (sq2 G2 H2 g x2)
              obtain ⟨d0, h0, r0⟩ := rl.at' hw
              obtain ⟨d1, h1, r1'⟩ := rl2.at' hw'
              rw [List.getElem?_zipWith, h0, h1] at hd
              cases hd
              have a3 := At.new (o := .tup [w, w']) x2 l2 nT
              exact ⟨_, a3, .tup (.inl upd_same) (.cons (r0.up (g.tr a3.gg)) (.cons (r1'.up (g.tr a3.gg)) .nil)) (show 2 ≤ LIM by decide)⟩
          | _ => rename_i h2; cases h2
        | _ => rename_i h2; cases h2
  · exact q.elim
end
end GP

set_option Elab.async false
set_option linter.all false
set_option maxRecDepth 100000
set_option maxHeartbeats 4000000
/-! G22: defs that draw nothing: what they compute, as a function to Option; a run that ends gives the data's promise. -/
namespace GP
open PySem PySem.Spec PyProof.Rows L2
abbrev RE := DS → Option D
abbrev RT := DS → Option Bool
abbrev RA := DS → Option (List D)
abbrev RO := DS → Option (Option Int)
abbrev RGt := D → DS → Option DS
inductive Out where
  | nx (δ : DS) | rt (d : D) | bk (δ : DS) | ct (δ : DS)
abbrev RQ := DS → Option Out
def DN.fits (N : DN) : Out → Prop
  | .nx δ => N.nx δ
  | .rt d => N.rt d
  | .bk δ => N.bk δ
  | .ct δ => N.ct δ
def AgE (d : DE) (r : RE) : Prop := ∀ δ z (P : D → Prop), r δ = some z → P z → d δ P
def AgT (d : DT) (r : RT) : Prop := ∀ δ z (P : Bool → Prop), r δ = some z → P z → d δ P
def AgA (d : DA) (r : RA) : Prop := ∀ δ z (P : List D → Prop), r δ = some z → P z → d δ P
def AgO (d : DO) (r : RO) : Prop := ∀ δ z (P : Option Int → Prop), r δ = some z → P z → d δ P
def AgG (d : DG) (r : RGt) : Prop := ∀ x δ z (P : DS → Prop), r x δ = some z → P z → d x δ P
def AgQ (b : Bool) (d : DQ) (r : RQ) : Prop := ∀ N δ o, N.own = b → r δ = some o → N.fits o → d N δ
def AgF (s : DSp) (R : List D → Option D) : Prop := ∀ ds z (P : D → Prop), R ds = some z → P z → s ds P
section
variable {da db dc de : DE} {ra rb rc re : RE} {dt du : DT} {rt ru : RT} {dA : DA} {rA : RA} {dl dh : DO} {rl rh : RO} {b : Bool} {dq dv : DQ} {rq rv : RQ} {dg : DG} {rg : RGt} {i j m : Nat}
theorem bnd {α β : Type} {o : Option α} {f : α → Option β} {z : β} (h : o.bind f = some z) : ∃ x, o = some x ∧ f x = some z := by
  cases o with
  | none => cases h
  | some x => exact ⟨x, rfl, h⟩
/-! ### expressions -/
def rVar (i : Nat) : RE := fun δ => rdS δ i
def rVarS (i : Nat) : RE := fun δ => shS δ i
def rC (d : D) : RE := fun _ => some d
def rOp (f : D → D → Option D) (a b : RE) : RE := fun δ => (a δ).bind fun x => (b δ).bind fun y => f x y
def rUn (f : D → Option D) (a : RE) : RE := fun δ => (a δ).bind f
def blD : D → Option Bool
  | .bl b => some b
  | _ => none
def intD : D → Option Int
  | .int b => some b
  | _ => none
def strD : D → Option Str
  | .str b => some b
  | _ => none
def rTest (a : RE) : RT := fun δ => (a δ).bind blD
def rTru (a : RE) : RT := fun δ => (a δ).bind truD
def rNot (a : RT) : RT := fun δ => (a δ).map (!·)
def rAnd (a b : RT) : RT := fun δ => (a δ).bind fun x => if x = true then b δ else some false
def rOr (a b : RT) : RT := fun δ => (a δ).bind fun x => if x = true then some true else b δ
def rAndV (a b : RE) : RE := fun δ => ((a δ).bind blD).bind fun x => if x = true then b δ else some (.bl false)
def rOrV (a b : RE) : RE := fun δ => ((a δ).bind blD).bind fun x => if x = true then some (.bl true) else b δ
def rNotV (a : RE) : RE := fun δ => ((a δ).bind blD).map fun x => .bl (!x)
def rIf (t : RT) (a b : RE) : RE := fun δ => (t δ).bind fun x => if x = true then a δ else b δ
def rNil : RA := fun _ => some []
def rCons (a : RE) (r : RA) : RA := fun δ => (a δ).bind fun x => (r δ).map fun xs => x :: xs
def rTup (a : RA) : RE := fun δ => (a δ).map .tup
def rLst (a : RA) : RE := fun δ => (a δ).map .lst
def rNewD : RE := fun _ => some (.dct [])
def rCB (f : List D → Option D) (a : RA) : RE := fun δ => (a δ).bind f
def rFn (R : List D → Option D) (a : RA) : RE := fun δ => (a δ).bind R
def rFnK (R : List D → Option D) (perm : List Nat) (a : RA) : RE := fun δ => (a δ).bind fun ds => R (pickL .non perm ds)
def rChain (f g : D → D → Option D) (a b c : RE) : RE := fun δ => (a δ).bind fun x => (b δ).bind fun y => ((f x y).bind blD).bind fun k => if k = true then (c δ).bind fun z => g y z else some (.bl false)
def rNoPart : RO := fun _ => some none
def rPart (a : RE) : RO := fun δ => ((a δ).bind intD).map some
def rSl (a : RE) (l h : RO) : RE := fun δ => (a δ).bind fun x => (l δ).bind fun lo => (h δ).bind fun hi => fSl lo hi x
def rM1 (f : Str → D → Option D) (a b : RE) : RE := fun δ => ((a δ).bind strD).bind fun s => (b δ).bind fun y => f s y
def fldD (f : Str) : D → Option D
  | .ins _ fs => fs.lookup f
  | _ => none
def rFld (f : Str) (a : RE) : RE := fun δ => (a δ).bind (fldD f)
def metD (cn : String) (m : Str) (x : D) : Option D := match x with
  | .ins c fs => if c = cn ∧ (fs.lookup m).isNone = true then some x else none
  | _ => none
def rMt (cn : String) (m : Str) (R : List D → Option D) (a : RE) (r : RA) : RE := fun δ => ((a δ).bind (metD cn m)).bind fun x => (r δ).bind fun xs => R (x :: xs)
def insD (cn : String) (x : D) : Option D := match x with
  | .ins c fs => if c = cn then some x else none
  | _ => none
def rPr (cn : String) (R : List D → Option D) (a : RE) : RE := fun δ => ((a δ).bind (insD cn)).bind fun x => R [x]
def get2D (o y z : D) : Option D := match o with
  | .dct kvs => (keyD y).map fun k => (valD kvs k).getD z
  | _ => none
def rGet2 (a b c : RE) : RE := fun δ => (a δ).bind fun o => (b δ).bind fun y => (c δ).bind fun z => get2D o y z
theorem a_var (i : Nat) : AgE (dVar i) (rVar i) := fun δ z P h p => by
  unfold dVar
  rw [show rdS δ i = some z from h]
  exact p
theorem a_varS (i : Nat) : AgE (dVarS i) (rVarS i) := fun δ z P h p => by
  unfold dVarS
  rw [show shS δ i = some z from h]
  exact p
theorem a_c (d : D) : AgE (dC d) (rC d) := fun δ z P h p => by cases h; exact p
theorem a_op {f : D → D → Option D} (ha : AgE da ra) (hb : AgE db rb) : AgE (dOp f da db) (rOp f ra rb) := fun δ z P h p => by
  obtain ⟨x, h1, h⟩ := bnd h
  obtain ⟨y, h2, h⟩ := bnd h
  refine ha δ x _ h1 (hb δ y _ h2 ?_)
  rw [h]
  exact p
theorem a_un {f : D → Option D} (ha : AgE da ra) : AgE (dUn f da) (rUn f ra) := fun δ z P h p => by
  obtain ⟨x, h1, h⟩ := bnd h
  refine ha δ x _ h1 ?_
  rw [h]
  exact p
theorem blD_some {x : D} {c : Bool} (h : blD x = some c) : x = .bl c := by
  cases x <;> first | (cases h; done) | (cases h; rfl)
theorem intD_some {x : D} {c : Int} (h : intD x = some c) : x = .int c := by
  cases x <;> first | (cases h; done) | (cases h; rfl)
theorem strD_some {x : D} {c : Str} (h : strD x = some c) : x = .str c := by
  cases x <;> first | (cases h; done) | (cases h; rfl)
theorem a_test (ha : AgE da ra) : AgT (dTest da) (rTest ra) := fun δ z P h p => by
  obtain ⟨x, h1, h⟩ := bnd h
  obtain rfl := blD_some h
  exact ha δ _ _ h1 p
theorem a_tru (ha : AgE da ra) : AgT (dTru da) (rTru ra) := fun δ z P h p => by
  obtain ⟨x, h1, h⟩ := bnd h
  refine ha δ x _ h1 ?_
  rw [h]
  exact p
theorem a_not (ha : AgT dt rt) : AgT (dNot dt) (rNot rt) := fun δ z P h p => by
  obtain ⟨x, h1, h⟩ := Option.map_eq_some_iff.mp h
  subst h
  exact ha δ x _ h1 p
theorem a_and (ha : AgT dt rt) (hb : AgT du ru) : AgT (dAnd dt du) (rAnd rt ru) := fun δ z P h p => by
  obtain ⟨x, h1, h⟩ := bnd h
  refine ha δ x _ h1 ?_
  split at h
  · rename_i e; rw [if_pos e]; exact hb δ z P h p
  · rename_i e; rw [if_neg e]; cases h; exact p
theorem a_or (ha : AgT dt rt) (hb : AgT du ru) : AgT (dOr dt du) (rOr rt ru) := fun δ z P h p => by
  obtain ⟨x, h1, h⟩ := bnd h
  refine ha δ x _ h1 ?_
  split at h
  · rename_i e; rw [if_pos e]; cases h; exact p
  · rename_i e; rw [if_neg e]; exact hb δ z P h p
theorem a_andV (ha : AgE da ra) (hb : AgE db rb) : AgE (dAndV da db) (rAndV ra rb) := fun δ z P h p => by
  obtain ⟨x, h1, h⟩ := bnd h
  obtain ⟨y, h1, h2⟩ := bnd h1
  obtain rfl := blD_some h2
  refine ha δ _ _ h1 ?_
  show if x = true then _ else _
  split at h
  · rename_i e; rw [if_pos e]; exact hb δ z P h p
  · rename_i e; rw [if_neg e]; cases h; exact p
theorem a_orV (ha : AgE da ra) (hb : AgE db rb) : AgE (dOrV da db) (rOrV ra rb) := fun δ z P h p => by
  obtain ⟨x, h1, h⟩ := bnd h
  obtain ⟨y, h1, h2⟩ := bnd h1
  obtain rfl := blD_some h2
  refine ha δ _ _ h1 ?_
  show if x = true then _ else _
  split at h
  · rename_i e; rw [if_pos e]; cases h; exact p
  · rename_i e; rw [if_neg e]; exact hb δ z P h p
theorem a_notV (ha : AgE da ra) : AgE (dNotV da) (rNotV ra) := fun δ z P h p => by
  obtain ⟨x, h1, h⟩ := Option.map_eq_some_iff.mp h
  obtain ⟨y, h1, h2⟩ := bnd h1
  obtain rfl := blD_some h2
  subst h
  exact ha δ _ _ h1 p
theorem a_if (ht : AgT dt rt) (ha : AgE da ra) (hb : AgE db rb) : AgE (dIf dt da db) (rIf rt ra rb) := fun δ z P h p => by
  obtain ⟨x, h1, h⟩ := bnd h
  refine ht δ x _ h1 ?_
  split at h
  · rename_i e; rw [if_pos e]; exact ha δ z P h p
  · rename_i e; rw [if_neg e]; exact hb δ z P h p
theorem a_nil : AgA dNil rNil := fun δ z P h p => by cases h; exact p
theorem a_cons (ha : AgE da ra) (hr : AgA dA rA) : AgA (dCons da dA) (rCons ra rA) := fun δ z P h p => by
  obtain ⟨x, h1, h⟩ := bnd h
  obtain ⟨xs, h2, h⟩ := Option.map_eq_some_iff.mp h
  subst h
  exact ha δ x _ h1 (hr δ xs _ h2 p)
theorem a_tup (hr : AgA dA rA) : AgE (dTup dA) (rTup rA) := fun δ z P h p => by
  obtain ⟨xs, h2, h⟩ := Option.map_eq_some_iff.mp h
  subst h
  exact hr δ xs _ h2 p
theorem a_lst (hr : AgA dA rA) : AgE (dLst dA) (rLst rA) := fun δ z P h p => by
  obtain ⟨xs, h2, h⟩ := Option.map_eq_some_iff.mp h
  subst h
  exact hr δ xs _ h2 p
theorem a_newD : AgE dNewD rNewD := fun δ z P h p => by cases h; exact p
theorem a_cb {f : List D → Option D} (hr : AgA dA rA) : AgE (dCB f dA) (rCB f rA) := fun δ z P h p => by
  obtain ⟨xs, h2, h⟩ := bnd h
  refine hr δ xs _ h2 ?_
  rw [h]
  exact p
theorem a_fn {s : DSp} {R : List D → Option D} (hf : AgF s R) (hr : AgA dA rA) : AgE (dFn s dA) (rFn R rA) := fun δ z P h p => by
  obtain ⟨xs, h2, h⟩ := bnd h
  exact hr δ xs _ h2 (hf xs z P h p)
theorem a_fnK {s : DSp} {R : List D → Option D} {perm : List Nat} (hf : AgF s R) (hr : AgA dA rA) : AgE (dFnK s perm dA) (rFnK R perm rA) := fun δ z P h p => by
  obtain ⟨xs, h2, h⟩ := bnd h
  exact hr δ xs _ h2 (hf _ z P h p)
theorem a_chain {f g : D → D → Option D} (ha : AgE da ra) (hb : AgE db rb) (hc : AgE dc rc) : AgE (dChain f g da db dc) (rChain f g ra rb rc) := fun δ z P h p => by
  obtain ⟨x, h1, h⟩ := bnd h
  obtain ⟨y, h2, h⟩ := bnd h
  obtain ⟨k, h3, h⟩ := bnd h
  obtain ⟨w, h3, h4⟩ := bnd h3
  obtain rfl := blD_some h4
  refine ha δ x _ h1 (hb δ y _ h2 ?_)
  rw [h3]
  show if k = true then _ else _
  split at h
  · rename_i e
    rw [if_pos e]
    obtain ⟨u, h5, h⟩ := bnd h
    refine hc δ u _ h5 ?_
    rw [h]
    exact p
  · rename_i e; rw [if_neg e]; cases h; exact p
theorem a_noPart : AgO dNoPart rNoPart := fun δ z P h p => by cases h; exact p
theorem a_part (ha : AgE da ra) : AgO (dPart da) (rPart ra) := fun δ z P h p => by
  obtain ⟨x, h1, h⟩ := Option.map_eq_some_iff.mp h
  obtain ⟨y, h1, h2⟩ := bnd h1
  obtain rfl := intD_some h2
  subst h
  exact ha δ _ _ h1 p
theorem a_sl (ha : AgE da ra) (hl : AgO dl rl) (hh : AgO dh rh) : AgE (dSl da dl dh) (rSl ra rl rh) := fun δ z P h p => by
  obtain ⟨x, h1, h⟩ := bnd h
  obtain ⟨y, h2, h⟩ := bnd h
  obtain ⟨w, h3, h⟩ := bnd h
  refine ha δ x _ h1 (hl δ y _ h2 (hh δ w _ h3 ?_))
  rw [h]
  exact p
theorem a_m1 {f : Str → D → Option D} (ha : AgE da ra) (hb : AgE db rb) : AgE (dM1 f da db) (rM1 f ra rb) := fun δ z P h p => by
  obtain ⟨x, h1, h⟩ := bnd h
  obtain ⟨w, h1, h4⟩ := bnd h1
  obtain rfl := strD_some h4
  obtain ⟨y, h2, h⟩ := bnd h
  refine ha δ _ _ h1 ?_
  refine hb δ y _ h2 ?_
  rw [h]
  exact p
theorem a_fld {f : Str} (ha : AgE da ra) : AgE (dFld f da) (rFld f ra) := fun δ z P h p => by
  obtain ⟨x, h1, h⟩ := bnd h
  refine ha δ x _ h1 ?_
  cases x <;> try (cases h; done)
  rename_i c fs
  show match fs.lookup f with
    | some v => P v
    | none => False
  rw [show fs.lookup f = some z from h]
  exact p
theorem a_mt {cn : String} {m : Str} {s : DSp} {R : List D → Option D} (hf : AgF s R) (ha : AgE da ra) (hr : AgA dA rA) : AgE (dMt cn m s da dA) (rMt cn m R ra rA) := fun δ z P h p => by
  obtain ⟨x, h1, h⟩ := bnd h
  obtain ⟨w, h1, h4⟩ := bnd h1
  obtain ⟨xs, h2, h⟩ := bnd h
  refine ha δ w _ h1 ?_
  cases w <;> try (cases h4; done)
  rename_i c fs
  unfold metD at h4
  dsimp only at h4
  split at h4
  · rename_i hc
    cases h4
    exact ⟨hc.1, by simpa using hc.2, hr δ xs _ h2 (hf _ z P h p)⟩
  · cases h4
theorem a_pr {cn : String} {s : DSp} {R : List D → Option D} (hf : AgF s R) (ha : AgE da ra) : AgE (dPr cn s da) (rPr cn R ra) := fun δ z P h p => by
  obtain ⟨x, h1, h⟩ := bnd h
  obtain ⟨w, h1, h4⟩ := bnd h1
  refine ha δ w _ h1 ?_
  cases w <;> try (cases h4; done)
  rename_i c fs
  unfold insD at h4
  dsimp only at h4
  split at h4
  · rename_i hc
    cases h4
    exact ⟨hc, hf _ z P h p⟩
  · cases h4
theorem a_get2 (ha : AgE da ra) (hb : AgE db rb) (hc : AgE dc rc) : AgE (dGet2 da db dc) (rGet2 ra rb rc) := fun δ z P h p => by
  obtain ⟨x, h1, h⟩ := bnd h
  obtain ⟨y, h2, h⟩ := bnd h
  obtain ⟨w, h3, h⟩ := bnd h
  refine ha δ x _ h1 ?_
  cases x <;> try (cases h; done)
  rename_i kvs
  obtain ⟨k, hk, h⟩ := Option.map_eq_some_iff.mp (show (keyD y).map _ = some z from h)
  subst h
  refine hb δ y _ h2 ?_
  rw [hk]
  exact hc δ w _ h3 p
/-! ### what is walked -/
def rIter (a : RE) : RA := fun δ => (a δ).bind seqD
def rng1D : List D → Option (List D)
  | [.int n] => if n ≤ LIM ∧ -LIM ≤ n then some ((List.range n.toNat).map fun (i : Nat) => D.int (i : Int)) else none
  | _ => none
def rRng1 (a : RA) : RA := fun δ => (a δ).bind rng1D
def keysD : D → Option (List D)
  | .dct kvs => some (kvs.map fun kv => kD kv.1)
  | _ => none
def rKeys (a : RE) : RA := fun δ => (a δ).bind keysD
def enumD : List D → Option (List D)
  | [.lst xs] => some ((List.range xs.length).zipWith (fun (i : Nat) x => D.tup [.int i, x]) xs)
  | _ => none
def rEnum (a : RA) : RA := fun δ => (a δ).bind enumD
def zipD : List D → Option (List D)
  | [.lst xs, .lst ys] => some (xs.zipWith (fun x y => D.tup [x, y]) ys)
  | _ => none
def rZip (a : RA) : RA := fun δ => (a δ).bind zipD
theorem a_iter (ha : AgE da ra) : AgA (dIter da) (rIter ra) := fun δ z P h p => by
  obtain ⟨x, h1, h⟩ := bnd h
  refine ha δ x _ h1 ?_
  rw [h]
  exact p
theorem a_rng1 (ha : AgA dA rA) : AgA (dRng1 dA) (rRng1 rA) := fun δ z P h p => by
  obtain ⟨x, h1, h⟩ := bnd h
  refine ha δ x _ h1 ?_
  unfold rng1D at h
  split at h
  · split at h
    · rename_i hc
      cases h
      exact ⟨hc.1, hc.2, p⟩
    · cases h
  · cases h
theorem a_keys (ha : AgE da ra) : AgA (dKeys da) (rKeys ra) := fun δ z P h p => by
  obtain ⟨x, h1, h⟩ := bnd h
  refine ha δ x _ h1 ?_
  cases x <;> try (cases h; done)
  cases h
  exact p
theorem a_enum (ha : AgA dA rA) : AgA (dEnum dA) (rEnum rA) := fun δ z P h p => by
  obtain ⟨x, h1, h⟩ := bnd h
  refine ha δ x _ h1 ?_
  unfold enumD at h
  split at h
  · cases h; exact p
  · cases h
theorem a_zip (ha : AgA dA rA) : AgA (dZip dA) (rZip rA) := fun δ z P h p => by
  obtain ⟨x, h1, h⟩ := bnd h
  refine ha δ x _ h1 ?_
  unfold zipD at h
  split at h
  · cases h; exact p
  · cases h
def rName (i : Nat) : RGt := fun d δ => some (δ.set i (some (.sh d)))
def rTup2 (i j : Nat) : RGt := fun d δ => match d with
  | .tup [x, y] => some ((δ.set i (some (.sh x))).set j (some (.sh y)))
  | _ => none
def rTup3 (i j m : Nat) : RGt := fun d δ => match d with
  | .tup [x, y, z] => some (((δ.set i (some (.sh x))).set j (some (.sh y))).set m (some (.sh z)))
  | _ => none
theorem a_name (i : Nat) : AgG (dName i) (rName i) := fun x δ z P h p => by cases h; exact p
theorem a_tup2 (i j : Nat) : AgG (dTup2 i j) (rTup2 i j) := fun x δ z P h p => by
  unfold rTup2 at h
  split at h
  · cases h; exact p
  · cases h
theorem a_tup3 (i j m : Nat) : AgG (dTup3 i j m) (rTup3 i j m) := fun x δ z P h p => by
  unfold rTup3 at h
  split at h
  · cases h; exact p
  · cases h
/-! ### comprehensions -/
def rYes : RT := fun _ => some true
theorem a_yes : AgT dYes rYes := fun δ z P h p => by cases h; exact p
/-- the items of a comprehension, by one step each -/
def compL (f : D → Option (Option D)) : List D → Option (List D)
  | [] => some []
  | x :: xs => (f x).bind fun o => (compL f xs).map fun ys => match o with
    | some y => y :: ys
    | none => ys
def lcStep (g : RGt) (t : RT) (e : RE) (δ : DS) (x : D) : Option (Option D) := (g x δ).bind fun δ' => (t δ').bind fun b => if b = true then (e δ').map some else some none
def rLc (it : RA) (g : RGt) (t : RT) (e : RE) (vs : List Nat) : RE := fun δ => (it δ).bind fun items => (compL (lcStep g t e (wipeD δ vs)) items).map .lst
theorem lc_run (hg : AgG dg rg) (ht : AgT dt rt) (he : AgE de re) {δ : DS} {P : D → Prop} : ∀ (items acc ys : List D), compL (lcStep rg rt re δ) items = some ys → P (.lst (acc ++ ys)) → dLcL dg dt de P δ items acc
  | [], acc, ys, h, p => by
    cases h
    rw [List.append_nil] at p
    exact p
  | x :: items, acc, ys, h, p => by
    obtain ⟨o, h1, h⟩ := bnd h
    obtain ⟨zs, h2, h⟩ := Option.map_eq_some_iff.mp h
    obtain ⟨δ', h3, h1⟩ := bnd h1
    obtain ⟨c, h4, h1⟩ := bnd h1
    refine hg x δ δ' _ h3 (ht δ' c _ h4 ?_)
    split at h1
    · rename_i e
      rw [if_pos e]
      obtain ⟨y, h5, h1⟩ := Option.map_eq_some_iff.mp h1
      subst h1
      subst h
      refine he δ' y _ h5 (lc_run hg ht he items _ zs h2 ?_)
      rw [List.append_assoc]
      exact p
    · rename_i e
      rw [if_neg e]
      cases h1
      subst h
      exact lc_run hg ht he items _ zs h2 p
theorem a_lc {vs : List Nat} (hi : AgA dA rA) (hg : AgG dg rg) (ht : AgT dt rt) (he : AgE de re) : AgE (dLc dA dg dt de vs) (rLc rA rg rt re vs) := fun δ z P h p => by
  obtain ⟨items, h1, h⟩ := bnd h
  obtain ⟨ys, h2, h⟩ := Option.map_eq_some_iff.mp h
  subst h
  exact hi δ items _ h1 (lc_run hg ht he items [] ys h2 p)
def dcStep (g : RGt) (t : RT) (k v : RE) (δ : DS) (x : D) : Option (Option (Key × D)) := (g x δ).bind fun δ' => (t δ').bind fun b => if b = true then (k δ').bind fun y => (v δ').bind fun z => (keyD y).map fun k => some (k, z) else some none
def dcL (f : D → Option (Option (Key × D))) : List D → List (Key × D) → Option (List (Key × D))
  | [], acc => some acc
  | x :: xs, acc => (f x).bind fun o => match o with
    | some (k, z) => dcL f xs (putD acc k z)
    | none => dcL f xs acc
def rDc (it : RA) (g : RGt) (t : RT) (k v : RE) (vs : List Nat) : RE := fun δ => (it δ).bind fun items => (dcL (dcStep g t k v (wipeD δ vs)) items []).map .dct
theorem dc_run (hg : AgG dg rg) (ht : AgT dt rt) (hk : AgE da ra) (hv : AgE db rb) {δ : DS} {P : D → Prop} : ∀ (items : List D) (acc ys : List (Key × D)), dcL (dcStep rg rt ra rb δ) items acc = some ys → P (.dct ys) → dDcL dg dt da db P δ items acc
  | [], acc, ys, h, p => by
    cases h
    exact p
  | x :: items, acc, ys, h, p => by
    obtain ⟨o, h1, h⟩ := bnd h
    obtain ⟨δ', h3, h1⟩ := bnd h1
    obtain ⟨c, h4, h1⟩ := bnd h1
    refine hg x δ δ' _ h3 (ht δ' c _ h4 ?_)
    split at h1
    · rename_i e
      rw [if_pos e]
      obtain ⟨y, h5, h1⟩ := bnd h1
      obtain ⟨z, h6, h1⟩ := bnd h1
      obtain ⟨k, h7, h1⟩ := Option.map_eq_some_iff.mp h1
      subst h1
      refine hk δ' y _ h5 (hv δ' z _ h6 ?_)
      rw [h7]
      exact dc_run hg ht hk hv items _ ys h p
    · rename_i e
      rw [if_neg e]
      cases h1
      exact dc_run hg ht hk hv items _ ys h p
theorem a_dc {vs : List Nat} (hi : AgA dA rA) (hg : AgG dg rg) (ht : AgT dt rt) (hk : AgE da ra) (hv : AgE db rb) : AgE (dDc dA dg dt da db vs) (rDc rA rg rt ra rb vs) := fun δ z P h p => by
  obtain ⟨items, h1, h⟩ := bnd h
  obtain ⟨ys, h2, h⟩ := Option.map_eq_some_iff.mp h
  subst h
  exact hi δ items _ h1 (dc_run hg ht hk hv items [] ys h2 p)
/-! ### statements -/
def rNext : RQ := fun δ => some (.nx δ)
def rNever : RQ := fun _ => none
def rSeq (a b : RQ) : RQ := fun δ => (a δ).bind fun o => match o with
  | .nx δ' => b δ'
  | o => some o
def rAsg (e : RE) (i : Nat) : RQ := fun δ => (e δ).map fun x => .nx (δ.set i (some (.sh x)))
def rAsgO (e : RE) (i : Nat) : RQ := fun δ => (e δ).map fun x => .nx (δ.set i (some (.ow x)))
def rAsgG (e : RE) (g : RGt) : RQ := fun δ => (e δ).bind fun x => (g x δ).map .nx
def rDrop (e : RE) : RQ := fun δ => (e δ).map fun _ => .nx δ
def rRet (e : RE) : RQ := fun δ => (e δ).map .rt
def rRetN : RQ := fun _ => some (.rt .non)
def rRetV (b : Bool) (i : Nat) : RQ := fun δ => match δ[i]? with
  | some (some (.ow d)) => some (.rt d)
  | some (some (.sh d)) => if b = true then none else some (.rt d)
  | _ => none
def rIfS (t : RT) (a b : RQ) : RQ := fun δ => (t δ).bind fun x => if x = true then a δ else b δ
def rFrz (i : Nat) (a : RQ) : RQ := fun δ => a (frz δ i)
def rApp (i : Nat) (e : RE) : RQ := fun δ => match δ[i]? with
  | some (some (.ow (.lst xs))) => (e δ).bind fun x => if xs.length < LIM then some (.nx (δ.set i (some (.ow (.lst (xs ++ [x])))))) else none
  | _ => none
def rSetO (i : Nat) (k v : RE) : RQ := fun δ => (v δ).bind fun v => match δ[i]? with
  | some (some (.ow o)) => (k δ).bind fun k => (setD o k v).map fun o2 => .nx (δ.set i (some (.ow o2)))
  | _ => none
def augD (f : D → D → Option D) (kvs : List (Key × D)) (k v : D) : Option D := (keyD k).bind fun kk => (valD kvs kk).bind fun old => (f old v).bind fun z => if kvs.length < LIM then some (.dct (putD kvs kk z)) else none
def rAugO (f : D → D → Option D) (i : Nat) (k v : RE) : RQ := fun δ => match δ[i]? with
  | some (some (.ow (.dct kvs))) => (k δ).bind fun k => (v δ).bind fun v => (augD f kvs k v).map fun o2 => .nx (δ.set i (some (.ow o2)))
  | _ => none
def rPar (k1 k2 : Bool) (i j : Nat) (a b : RE) : RQ := fun δ => (a δ).bind fun x => (b δ).map fun y => .nx ((δ.set i (some (mkS k1 x))).set j (some (mkS k2 y)))
def rForL (g : RGt) (b : RQ) : List D → DS → Option Out
  | [], δ => some (.nx δ)
  | x :: xs, δ => (g x δ).bind fun δ' => (b δ').bind fun o => match o with
    | .nx δ2 => rForL g b xs δ2
    | .ct δ2 => rForL g b xs δ2
    | .bk δ2 => some (.nx δ2)
    | .rt d => some (.rt d)
def rFor (it : RA) (g : RGt) (b : RQ) : RQ := fun δ => (it δ).bind fun items => rForL g b items δ
def rWhileN (t : RT) (b : RQ) : Nat → DS → Option Out
  | 0, _ => none
  | n + 1, δ => (t δ).bind fun x => if x = true then (b δ).bind fun o => match o with
    | .nx δ2 => rWhileN t b n δ2
    | .ct δ2 => rWhileN t b n δ2
    | .bk δ2 => some (.nx δ2)
    | .rt d => some (.rt d)
    else some (.nx δ)
abbrev FUEL : Nat := 1000000
def rWhile (t : RT) (b : RQ) : RQ := rWhileN t b FUEL
theorem a_next : AgQ b dNext rNext := fun N δ o hb h p => by cases h; exact p
theorem a_never {d : DQ} : AgQ b d rNever := fun N δ o hb h p => by cases h
theorem a_seq (h1 : AgQ b dq rq) (h2 : AgQ b dv rv) : AgQ b (dSeq dq dv) (rSeq rq rv) := fun N δ o hb h p => by
  obtain ⟨o1, e1, h⟩ := bnd h
  refine h1 _ δ o1 hb e1 ?_
  cases o1 with
  | nx δ' => exact h2 N δ' o hb h p
  | rt d => cases h; exact p
  | bk d => cases h; exact p
  | ct d => cases h; exact p
theorem a_asg (ha : AgE da ra) : AgQ b (dAsg da i) (rAsg ra i) := fun N δ o hb h p => by
  obtain ⟨x, h1, h⟩ := Option.map_eq_some_iff.mp h
  subst h
  exact ha δ x _ h1 p
theorem a_asgO (ha : AgE da ra) : AgQ b (dAsgO da i) (rAsgO ra i) := fun N δ o hb h p => by
  obtain ⟨x, h1, h⟩ := Option.map_eq_some_iff.mp h
  subst h
  exact ha δ x _ h1 p
theorem a_asgG (ha : AgE da ra) (hg : AgG dg rg) : AgQ b (dAsgG da dg) (rAsgG ra rg) := fun N δ o hb h p => by
  obtain ⟨x, h1, h⟩ := bnd h
  obtain ⟨δ', h2, h⟩ := Option.map_eq_some_iff.mp h
  subst h
  exact ha δ x _ h1 (hg x δ δ' _ h2 p)
theorem a_drop (ha : AgE da ra) : AgQ b (dDrop da) (rDrop ra) := fun N δ o hb h p => by
  obtain ⟨x, h1, h⟩ := Option.map_eq_some_iff.mp h
  subst h
  exact ha δ x _ h1 p
theorem a_ret (ha : AgE da ra) : AgQ false (dRet da) (rRet ra) := fun N δ o hb h p => by
  obtain ⟨x, h1, h⟩ := Option.map_eq_some_iff.mp h
  subst h
  exact ⟨hb, ha δ x _ h1 p⟩
theorem a_retN : AgQ false dRetN rRetN := fun N δ o hb h p => by cases h; exact ⟨hb, p⟩
theorem a_retF (ha : AgE da ra) : AgQ b (dRetF da) (rRet ra) := fun N δ o hb h p => by
  obtain ⟨x, h1, h⟩ := Option.map_eq_some_iff.mp h
  subst h
  exact ha δ x _ h1 p
theorem a_retV : AgQ b (dRetV i) (rRetV b i) := fun N δ o hb h p => by
  unfold rRetV at h
  unfold dRetV
  split at h
  · rename_i d e; cases h; (try rw [e]); exact p
  · rename_i d e
    split at h
    · cases h
    · rename_i hc
      cases h
      try rw [e]
      exact ⟨by rw [hb]; simpa using hc, p⟩
  · cases h
theorem a_ifS (ht : AgT dt rt) (h1 : AgQ b dq rq) (h2 : AgQ b dv rv) : AgQ b (dIfS dt dq dv) (rIfS rt rq rv) := fun N δ o hb h p => by
  obtain ⟨x, h0, h⟩ := bnd h
  refine ht δ x _ h0 ?_
  split at h
  · rename_i e; rw [if_pos e]; exact h1 N δ o hb h p
  · rename_i e; rw [if_neg e]; exact h2 N δ o hb h p
theorem a_frz (h1 : AgQ b dq rq) : AgQ b (dFrz i dq) (rFrz i rq) := fun N δ o hb h p => h1 N _ o hb h p
theorem a_app (ha : AgE da ra) : AgQ b (dApp i da) (rApp i ra) := fun N δ o hb h p => by
  unfold rApp at h
  unfold dApp
  split at h
  · rename_i xs e
    try rw [e]
    obtain ⟨x, h1, h⟩ := bnd h
    split at h
    · rename_i hl
      cases h
      exact ha δ x _ h1 ⟨hl, p⟩
    · cases h
  · cases h
theorem a_setO (hk : AgE da ra) (hv : AgE db rb) : AgQ b (dSetO i da db) (rSetO i ra rb) := fun N δ o hb h p => by
  obtain ⟨v, h1, h⟩ := bnd h
  refine hv δ v _ h1 ?_
  split at h
  · rename_i ob e
    try rw [e]
    obtain ⟨k, h2, h⟩ := bnd h
    obtain ⟨o2, h3, h⟩ := Option.map_eq_some_iff.mp h
    subst h
    refine hk δ k _ h2 ?_
    rw [h3]
    exact p
  · cases h
theorem a_augO {f : D → D → Option D} (hk : AgE da ra) (hv : AgE db rb) : AgQ b (dAugO f i da db) (rAugO f i ra rb) := fun N δ o hb h p => by
  unfold rAugO at h
  unfold dAugO
  split at h
  · rename_i kvs e
    try rw [e]
    obtain ⟨k, h2, h⟩ := bnd h
    obtain ⟨v, h3, h⟩ := bnd h
    obtain ⟨o2, h4, h⟩ := Option.map_eq_some_iff.mp h
    subst h
    refine hk δ k _ h2 ?_
    obtain ⟨kk, h5, h4⟩ := bnd h4
    obtain ⟨old, h6, h4⟩ := bnd h4
    obtain ⟨z, h7, h4⟩ := bnd h4
    rw [h5]
    dsimp only
    rw [h6]
    refine hv δ v _ h3 ?_
    rw [h7]
    dsimp only
    split at h4
    · rename_i hl
      cases h4
      rw [if_pos hl]
      exact p
    · cases h4
  · cases h
theorem a_par {k1 k2 : Bool} (ha : AgE da ra) (hb' : AgE db rb) : AgQ b (dPar k1 k2 i j da db) (rPar k1 k2 i j ra rb) := fun N δ o hb h p => by
  obtain ⟨x, h1, h⟩ := bnd h
  obtain ⟨y, h2, h⟩ := Option.map_eq_some_iff.mp h
  subst h
  exact ha δ x _ h1 (hb' δ y _ h2 p)
theorem for_run (hg : AgG dg rg) (hq : AgQ b dq rq) {N : DN} (hb : N.own = b) : ∀ (items : List D) (δ : DS) (o : Out), rForL rg rq items δ = some o → N.fits o → dForL dg dq N items δ
  | [], δ, o, h, p => by cases h; exact p
  | x :: items, δ, o, h, p => by
    obtain ⟨δ', h1, h⟩ := bnd h
    obtain ⟨o1, h2, h⟩ := bnd h
    refine hg x δ δ' _ h1 (hq _ δ' o1 hb h2 ?_)
    cases o1 with
    | nx δ2 => exact for_run hg hq hb items δ2 o h p
    | ct δ2 => exact for_run hg hq hb items δ2 o h p
    | bk δ2 => cases h; exact p
    | rt d => cases h; exact p
theorem a_for (hi : AgA dA rA) (hg : AgG dg rg) (hq : AgQ b dq rq) : AgQ b (dFor dA dg dq) (rFor rA rg rq) := fun N δ o hb h p => by
  obtain ⟨items, h1, h⟩ := bnd h
  exact hi δ items _ h1 (for_run hg hq hb items δ o h p)
theorem a_while (ht : AgT dt rt) (hq : AgQ b dq rq) : AgQ b (dWhile dt dq) (rWhile rt rq) := fun N δ o hb h p => by
  refine ⟨fun m δ' => rWhileN rt rq m δ' = some o, ⟨FUEL, h⟩, fun m δ' h' => ?_⟩
  cases m with
  | zero => cases h'
  | succ m =>
    obtain ⟨x, h1, h'⟩ := bnd h'
    refine ht δ' x _ h1 ?_
    split at h'
    · rename_i e
      rw [if_pos e]
      obtain ⟨o1, h2, h'⟩ := bnd h'
      refine hq _ δ' o1 hb h2 ?_
      cases o1 with
      | nx δ2 => exact ⟨m, Nat.lt_succ_self m, h'⟩
      | ct δ2 => exact ⟨m, Nat.lt_succ_self m, h'⟩
      | bk δ2 => cases h'; exact p
      | rt d => cases h'; exact p
    · rename_i e
      rw [if_neg e]
      cases h'
      exact p
end
/-! ### a def by its run -/
def outD : Out → Option D
  | .rt d => some d
  | .nx _ => some .non
  | _ => none
/-- the promise that is the data itself -/
def dpOf (n : Nat) (d : DQ) : DSp := fun ds P => d { nx := fun _ => P .non, rt := P } (startD n ds)
/-- .. of a def that hands out a new list or dict -/
def dpOfF (n : Nat) (d : DQ) : DSp := fun ds P => d { nx := fun _ => False, rt := P, own := true } (startD n ds)
def runOf (n : Nat) (r : RQ) : List D → Option D := fun ds => (r (startD n ds)).bind outD
def outF : Out → Option D
  | .rt d => some d
  | _ => none
def runOfF (n : Nat) (r : RQ) : List D → Option D := fun ds => (r (startD n ds)).bind outF
theorem ag_of {n : Nat} {d : DQ} {r : RQ} (h : AgQ false d r) : AgF (dpOf n d) (runOf n r) := fun ds z P e p => by
  obtain ⟨o, h1, e⟩ := bnd e
  refine h _ _ o rfl h1 ?_
  cases o with
  | nx δ => cases e; exact p
  | rt d => cases e; exact p
  | bk δ => cases e
  | ct δ => cases e
theorem ag_ofF {n : Nat} {d : DQ} {r : RQ} (h : AgQ true d r) : AgF (dpOfF n d) (runOfF n r) := fun ds z P e p => by
  obtain ⟨o, h1, e⟩ := bnd e
  refine h _ _ o rfl h1 ?_
  cases o with
  | nx δ => cases e
  | rt d => cases e; exact p
  | bk δ => cases e
  | ct δ => cases e
end GP

set_option Elab.async false
set_option linter.all false
set_option maxRecDepth 100000
set_option maxHeartbeats 4000000
/-! G23: loops that draw, pop, keyword calls of new things, properties and makers over FnG, calls that borrow. -/
namespace GP
open PySem PySem.Spec PyProof.Rows L2
section
variable {Γ : Cn} {L : LS} {c c1 c2 c3 n : Nat} {te ta tb tc tk tv : TE} {de da db dc dk dv : DE} {tt tu : TT} {dt du : DT} {ts ts' : TS} {ds ds' : DQ} {tA : TA} {dA : DA}
/-! ### while, with draws: at most n turns -/
def dWhileN (n : Nat) (t : DT) (b : DQ) : DQ := fun N δ => ∃ W : Nat → DS → Prop, (∃ m, m ≤ n ∧ W m δ) ∧ ∀ m δ, W m δ → t δ fun x => if x = true then b { N with nx := fun δ' => ∃ m', m' < m ∧ W m' δ', ct := fun δ' => ∃ m', m' < m ∧ W m' δ', bk := N.nx } δ else N.nx δ
theorem s_whileN (n : Nat) (h : SB Γ L c1 tt dt) (hb : SS Γ L c2 ts ds) : SS Γ L ((n + 1) * (c1 + c2)) (tWhile tt ts) (dWhileN n dt ds) := fun t σ δ B G0 G H a e hc N hp D E => by
  obtain ⟨W, ⟨m0, hm0, w0⟩, hw⟩ := hp
  have e0 : (n + 1) * (c1 + c2) = n * (c1 + c2) + (c1 + c2) := Nat.succ_mul _ _
  have key : ∀ m, m ≤ n → (n - m) * (c1 + c2) ≤ n * (c1 + c2) := fun m hm => Nat.mul_le_mul_right _ (Nat.sub_le n m)
  refine ⟨fun m σ' H' => m ≤ n ∧ ∃ δ' G', At L (t + (n - m) * (c1 + c2)) B G0 G' H' ∧ Env Γ L B G' H' σ' δ' ∧ W m δ', ⟨m0, hm0, δ, G, a.le (by omega), e, w0⟩, ?_⟩
  rintro m σ1 H1 ⟨hm, δ1, G1, a1, e1, w1⟩
  have k1 := key m hm
  refine h (t + (n - m) * (c1 + c2)) σ1 δ1 B G1 H1 a1.lw a1.gh e1 (by omega) _ (hw m δ1 w1) _ fun b G2 H2 a2 q => ?_
  cases b with
  | false => exact E.nx σ1 δ1 G2 H2 ((a1.tr a2).le (by omega)) (e1.step a2) q
  | true =>
    refine ⟨fun σ' H' => ∃ m', m' < m ∧ m' ≤ n ∧ ∃ δ' G', At L (t + (n - m') * (c1 + c2)) B G0 G' H' ∧ Env Γ L B G' H' σ' δ' ∧ W m' δ', fun σ' H' z => ?_, ?_⟩
    · obtain ⟨m', h1, h2, z⟩ := z
      exact ⟨m', h1, h2, z⟩
    have fin : ∀ m', m' < m → t + (n - m) * (c1 + c2) + c1 + c2 ≤ t + (n - m') * (c1 + c2) := fun m' hm' => by
      have h1 : (n - m + 1) * (c1 + c2) ≤ (n - m') * (c1 + c2) := Nat.mul_le_mul_right _ (by omega)
      rw [Nat.succ_mul] at h1
      omega
    refine hb (t + (n - m) * (c1 + c2) + c1) σ1 δ1 B G0 G2 H2 (a1.tr a2) (e1.step a2) (by omega) _ q _ ⟨fun σ3 δ3 G3 H3 a3 e3 q3 => ?_, fun v d G3 H3 a3 r3 q3 => E.rt v d G3 H3 (a3.le (by omega)) r3 q3, fun σ3 δ3 G3 H3 a3 e3 q3 => E.nx σ3 δ3 G3 H3 (a3.le (by omega)) e3 q3, fun σ3 δ3 G3 H3 a3 e3 q3 => ?_⟩
    · obtain ⟨m', hm', w3⟩ := q3
      exact ⟨m', hm', by omega, δ3, G3, a3.le (fin m' hm'), e3, w3⟩
    · obtain ⟨m', hm', w3⟩ := q3
      exact ⟨m', hm', by omega, δ3, G3, a3.le (fin m' hm'), e3, w3⟩
/-! ### xs.append(ys.pop(e)) of two owned lists -/
def dAppPop (i j : Nat) (d : DE) : DQ := fun N δ => match δ[i]?, δ[j]? with
  | some (some (.ow (.lst xs))), some (some (.ow (.lst ys))) => i ≠ j ∧ d δ fun k => match k with
    | .int k => 0 ≤ k ∧ k < ys.length ∧ xs.length < LIM ∧ ∀ y, ys[k.toNat]? = some y → N.nx ((δ.set j (some (.ow (.lst (ys.eraseIdx k.toNat))))).set i (some (.ow (.lst (xs ++ [y])))))
    | _ => False
  | _, _ => False
theorem seqIx {k : Int} {n : Nat} (h0 : 0 ≤ k) (h1 : k < n) : seqIndex? k n = some k.toNat := by
  unfold seqIndex?
  have h2 : ¬ k < 0 := by omega
  simp [h2]
  omega
theorem s_appPop (i j : Nat) (h : ST Γ L c te de) : SS Γ L c (tDrop (tBM Γ.K "list" rAppend (tVar i) (tCons (tBM Γ.K "list" rPopAt (tVar j) (tCons te tNil)) tNil))) (dAppPop i j de) := fun t σ δ B G0 G H a e hc N hp D E => by
  unfold dAppPop at hp
  split at hp
  · rename_i xs ys hi hj
    obtain ⟨nij, hp⟩ := hp
    obtain ⟨p, hv, o, hb, hg, hn⟩ := e.ow i _ hi
    obtain ⟨q, hw, u, hb2, hg2, hn2⟩ := e.ow j _ hj
    have npq : p ≠ q := fun z => by
      subst z
      exact e.dj i j _ _ _ nij hi hj hv hw
    cases o with
    | lst hl r z =>
    cases u with
    | lst hl2 r2 z2 =>
      rename_i vs ws
      refine ⟨.ref p, hv, .inl ⟨rfl, _, SqL.of hl⟩, .ref q, hw, .inl ⟨rfl, _, SqL.of hl2⟩, h t σ δ B G H a.lw a.gh e hc _ hp _ fun kv kd G1 H1 a1 rk q1 => ?_⟩
      cases kd with
      | int k =>
        obtain ⟨k0, k1, hx, q1⟩ := q1
        obtain rfl := int_of rk
        have e1 := e.step a1
        have hlen := r.len
        have hlen2 := r2.len
        have hL : ((LIM : Nat) : Int) = 1000000 := rfl
        have hz2 : (ys.length : Int) ≤ 1000000 := by omega
        have hkn : k.toNat < ys.length := by omega
        obtain ⟨y, hy⟩ : ∃ y, ys[k.toNat]? = some y := ⟨_, List.getElem?_eq_getElem hkn⟩
        obtain ⟨yv, hyv, ry⟩ := r2.at_ hy
        refine ⟨q, ws, k, k.toNat, yv, rfl, rfl, a1.bh q _ hl2 hn2, by omega, by omega, seqIx k0 (by omega), hyv, ?_⟩
        refine ⟨p, vs, yv, rfl, rfl, by rw [upd_ne npq]; exact a1.bh p _ hl hn, Nat.lt_of_lt_of_le (by omega : vs.length < LIM) (lim_size (Nat.le_refl _)), ?_⟩
        obtain ⟨p1, hv1, _, _, hg1, _⟩ := e1.ow i _ hi
        rw [hv] at hv1; cases hv1
        obtain ⟨p2, hw1, _, _, hg3, _⟩ := e1.ow j _ hj
        rw [hw] at hw1; cases hw1
        have w1 := e1.write (o := .lst (ws.eraseIdx k.toNat)) (d' := .lst (ys.eraseIdx k.toNat)) hj hw (.lst upd_same ((r2.up a1.gg).erase k.toNat) (by have := List.length_eraseIdx_le ys k.toNat; omega))
        have at1 := (a.tr a1).write (o := .lst (ws.eraseIdx k.toNat)) hb2 hg3 hn2
        have hi' : (δ.set j (some (.ow (.lst (ys.eraseIdx k.toNat)))))[i]? = some (some (.ow (.lst xs))) := by rw [List.getElem?_set_ne (Ne.symm nij)]; exact hi
        have w2 := w1.write (o := .lst (vs ++ [yv])) (d' := .lst (xs ++ [y])) hi' hv (.lst upd_same ((r.up a1.gg).app (.cons (ry.up a1.gg) .nil)) (by rw [List.length_append]; show xs.length + 1 ≤ LIM; omega))
        exact E.nx _ _ G1 _ (at1.write hb hg1 hn) w2 (q1 y hy)
      | _ => exact q1.elim
  · exact hp.elim
/-! ### xs.clear() of an owned list -/
def dClr (i : Nat) : DQ := fun N δ => match δ[i]? with
  | some (some (.ow (.lst xs))) => N.nx (δ.set i (some (.ow (.lst []))))
  | _ => False
theorem s_clr (i : Nat) : SS Γ L 0 (tDrop (tBM0 Γ.K "list" rClear (tVar i))) (dClr i) := fun t σ δ B G0 G H a e hc N hp D E => by
  unfold dClr at hp
  split at hp
  · rename_i xs hi
    obtain ⟨p, hv, o, hb, hg, hn⟩ := e.ow i _ hi
    cases o with
    | lst hl r z => exact ⟨.ref p, hv, .inl ⟨rfl, _, SqL.of hl⟩, p, _, rfl, rfl, hl, E.nx _ _ G _ (a.write hb hg hn) (e.write hi hv (.lst upd_same .nil (by decide))) hp⟩
  · exact hp.elim
/-! ### f(k = v, ..) of a def that returns a new thing -/
theorem s_fnKF {s : DSp} {cf m : Nat} {E : XK} {perm : List Nat} (ha : SA Γ L n c tA dA) (hm : perm.length = m := by rfl) (hn : n = perm.length := by rfl) : SF Γ L (c + cf) (tFnK (liftF Γ m cf s) perm E tA) (dFnK s perm dA) := fun t σ δ B G H l x e hc P hp Q k => by
  refine ha t σ δ B G H l x e (by omega) _ hp _ fun vs xs G1 H1 a1 r1 hl q1 => ⟨by unfold pickL; rw [r1.len, hl, if_pos hn, List.length_map]; exact hm, L, t + c, _, G1, P, a1.lw, by omega, a1.gh, r1.pick perm, q1, fun r hr p G2 H2 a2 np o g => ?_⟩
  exact k p r G2 H2 (by rw [← Nat.add_assoc]; exact a1.tr a2) (a1.old np) o g hr
/-! ### C(..) -/
/-- the promise of an __init__: the new instance at x becomes the data r -/
def liftI (Γ : Cn) (cn : String) (n c : Nat) (s : DSp) : Sp := fun vs H Q _ => vs.length = n + 1 ∧ ∃ (x dx : Addr) (rest : List V) (H1 : Hp), vs = .ref x :: rest ∧ H = upd (upd H1 dx (.own x)) x (.ins (Γ.adr cn) dx []) ∧ H1 x = none ∧ H1 dx = none ∧ dx ≠ x ∧
  ∃ (L : LS) (t : Nat) (ds : List D) (G : Hp) (P : D → Prop), LawAt L t G H1 ∧ t + c ≤ TMAX ∧ Exf G H1 ∧ RepL Γ L G rest ds ∧ s ds P ∧ ∀ r, P r → ∀ G' H', At L (t + c) H1 G G' H' → Rep Γ L G' (.ref x) r → Q .non H'
theorem s_mk {cn : String} {s : DSp} {cf : Nat} {E : XK} (ha : SA Γ L n c tA dA) : SE Γ L (c + cf) (tMk (Γ.adr cn) (liftI Γ cn n cf s) E tA) (dFn s dA) := fun t σ δ B G H l x e hc P hp Q k => by
  refine ha t σ δ B G H l x e (by omega) _ hp _ fun vs ds G1 H1 a1 r1 hl q1 => fun y dy ny ndy ne => ?_
  refine ⟨by show vs.length + 1 = n + 1; rw [r1.len, hl], y, dy, vs, H1, rfl, rfl, ny, ndy, ne, L, t + c, ds, G1, P, a1.lw, by omega, a1.gh, r1, q1, fun r hr G2 H2 a2 r2 => ⟨rfl, ?_⟩⟩
  exact k _ r G2 H2 (by rw [← Nat.add_assoc]; exact a1.tr a2) r2 hr
end
/-! ### o.f, a property, over FnG -/
structure CalP (P : Program) (w : World) (K : FK) (mg : Str → Option Value) (base : Heap) (CX : CXT) (C : Addr) (f : Str) (k : Nat) (ps : List Str) (sp : Sp) : Prop where
  ex : ∃ p g fd, FnG P w K mg base CX k g fd ps sp ∧ Cls K C ∧ PropOf K C f p g ∧ Binds K fd ps []
theorem RG.in1 {k : Nat} {A : Around} (r : RG (k + 1) A) : RG k A.in1 := ⟨r.rm.in1, r.gd⟩
section
variable {X : Cx} {CX : CXT} {k : Nat} {C p g a dx : Addr} {fs : List (Str × V)} {f : Str} {fd : FuncData} {ps : List Str} {sp : Sp} {E : XK} {e : Expr} {pos : Pos} {ta : TE}
theorem getpropG {pins : List (Addr × Obj)} {σ : L2.St} {H : Hp} {s : Shared} {Q : VK} {b : Bool} {E' : Value → Shared → Prop} (I : Inv X pins σ H s) (ea : H a = some (.ins C dx fs)) (c : Cls X.K C) (hp : PropOf X.K C f p g)
    (F : FnG X.prog X.w X.K X.mg X.base CX k g fd ps sp) (hr : RG (k + 1) X.A) (hb : Binds X.K fd ps []) (hx : Passes CX X.nox E) (h : sp [.ref a] H Q E) :
    wpAny (model X.prog X.w) X.A (getAttr (.ref a) f b) (EP X pins σ Q) E' s := by
  obtain ⟨mA, O, _, _, _, _⟩ := ins_get I.hok ea
  obtain ⟨od, J, _⟩ := O.look
  obtain ⟨rest, hrec⟩ := hp.rec_
  have I1 := I.tok (s.toks + 1)
  have hl : ([Value.ref a] ++ ([] : List Value)).length = ps.length := by
    rw [← F.len _ _ _ _ h]
    rfl
  have hc : (PySem.W.clsIn X.K C).isSome = true := by
    obtain ⟨cd, hc, _⟩ := PySem.W.any_some c.hd
    rw [hc]
    rfl
  refine PySem.W.get_bind I.kIn J (PySem.W.plainGet_of (c.get f)).1 (PySem.W.findObj_data hc hp.at_ hp.get hp.tak) (PySem.W.plainGet_of (c.get f)).2 (wpAny_call (PySem.W.prop_get (s := { s with toks := s.toks + 1 }) I.kIn hrec ?_))
  refine codeAny_mono (F.run X.A.in1 X.stack { s with toks := s.toks + 1 } H ⟨[.ref a], []⟩ [.ref a] [.ref a] Q E hr.in1 I1.env0.in1 (hb _ [.ref a] I1.kIn hl) (.cons rfl .nil) h) fun r s' hq => ?_
  cases r with
  | error er => exact False.elim (hx pins σ H { s with toks := s.toks + 1 } er s' (I1.wish _) hq)
  | ok fl =>
    cases fl with
    | ret u =>
      obtain ⟨v, H', I3, rv, q3⟩ := I1.after hq
      show wpAny _ _ (handedOut u) _ _ _
      rw [PySem.W.handedOut_of (handed_of rv)]
      exact wpAny_pure ⟨v, H', I3, rv, q3⟩
    | next => exact False.elim hq
    | brk => exact False.elim hq
    | cont => exact False.elim hq
theorem pe_prG (c : CalP X.prog X.w X.K X.mg X.base CX C f k ps sp) {j : Nat} (hr : RG j X.A) (hj : k + 1 ≤ j) (hx : Passes CX X.nox E) (he : PE X e ta)
    (hab : attributeBase e f X.env (eval e X.env) = eval e X.env := by rfl) : PE X (.Attribute e f pos) (tProp C sp [] E ta) := by
  obtain ⟨p, g, fd, F, cl, hp, hb⟩ := c.ex
  refine ⟨fun pins s σ H Q I h => ?_⟩
  refine attr_of hab (thn (he.run pins s σ H _ I h) fun u s1 ⟨x, H1, I1, rx, a, dx, fs, ex, ea, q⟩ => ?_)
  subst ex
  obtain rfl : u = Value.ref a := rx
  exact getpropG I1 ea cl hp F (hr.mono hj) hb hx q
end
end GP

set_option Elab.async false
set_option linter.all false
set_option maxRecDepth 100000
set_option maxHeartbeats 4000000
/-! G24: repr of data with dicts in it. -/
namespace GP
open PySem PySem.Spec PyProof.Rows L2
def plR : Nat → D → Bool
  | _, .non => true
  | _, .bl _ => true
  | _, .int _ => true
  | _, .str _ => true
  | n + 1, .lst xs => xs.all (plR n)
  | n + 1, .tup xs => xs.all (plR n)
  | n + 1, .dct kvs => kvs.all fun kv => plR n kv.2
  | _, _ => false
def keyP : Key → PyData
  | .inl i => .int i
  | .inr x => .str x
def pyR : Nat → D → PyData
  | _, .non => .none
  | _, .bl b => .bool b
  | _, .int i => .int i
  | _, .str x => .str x
  | n + 1, .lst xs => .list (xs.map (pyR n))
  | n + 1, .tup xs => .tuple (xs.map (pyR n))
  | n + 1, .dct kvs => .dict (kvs.map fun kv => (keyP kv.1, pyR n kv.2))
  | _, _ => .none
/-- a value is read as d, and its repr is d's -/
structure Sh (P : Program) (w : World) (h : Heap) (u : Value) (d : PyData) : Prop where
  rd : ∃ as, Reads h u d as
  rk : d.showable = true → d.shown.length ≤ sizeLine → ∃ bs, ReadAtMost h d.depth bs ∧ ReprK P w bs h d.depth u d.shown
structure ShA (P : Program) (w : World) (h : Heap) (us : List Value) (ds : List PyData) : Prop where
  rd : ∃ as, ReadsAll h us ds as
  rk : PyData.showableAll ds = true → (∀ t ∈ PyData.shownAll ds, t.length ≤ sizeLine) → ∃ bs, ReadAtMost h (PyData.depthAll ds) bs ∧ ReprAllK P w bs h (PyData.depthAll ds) us (PyData.shownAll ds)
section
variable {P : Program} {w : World} {h : Heap}
theorem Sh.non : Sh P w h .none .none := ⟨⟨_, .none⟩, fun _ _ => ⟨[], (fun _ m => nomatch m), by simp only [PyData.shown]; exact .of_is ReprIs.none _ _ _⟩⟩
theorem Sh.bl (b : Bool) : Sh P w h (.bool b) (.bool b) := ⟨⟨_, .bool b⟩, fun _ _ => ⟨[], (fun _ m => nomatch m), by simp only [PyData.shown]; exact .of_is (ReprIs.bool b) _ _ _⟩⟩
theorem Sh.int (i : Int) (t : Tok) : Sh P w h (.int i t) (.int i) := ⟨⟨_, .int i t⟩, fun hs _ => ⟨[], (fun _ m => nomatch m), by simp only [PyData.shown]; exact .of_is (ReprIs.int t (by simpa [PyData.showable] using hs)) _ _ _⟩⟩
theorem Sh.str (x : Str) (t : Tok) : Sh P w h (.str x t) (.str x) := ⟨⟨_, .str x t⟩, fun _ hz => ⟨[], (fun _ m => nomatch m), by simp only [PyData.shown]; exact .of_is (ReprIs.str x t (by simpa only [PyData.shown] using hz)) _ _ _⟩⟩
theorem ShA.nil : ShA P w h [] [] := ⟨⟨_, .nil⟩, fun _ _ => ⟨[], (fun _ m => nomatch m), by simp only [PyData.shownAll]; exact .nil⟩⟩
theorem ShA.cons {u : Value} {d : PyData} {us : List Value} {ds : List PyData} (a : Sh P w h u d) (b : ShA P w h us ds) : ShA P w h (u :: us) (d :: ds) := by
  obtain ⟨⟨as, ra⟩, ka⟩ := a
  obtain ⟨⟨bs, rb⟩, kb⟩ := b
  refine ⟨⟨_, .cons ra rb⟩, fun hs hz => ?_⟩
  rw [PyData.showableAll, Bool.and_eq_true] at hs
  rw [PyData.shownAll] at hz
  obtain ⟨l1, m1, k1⟩ := ka hs.1 (hz _ List.mem_cons_self)
  obtain ⟨l2, m2, k2⟩ := kb hs.2 fun t ht => hz t (List.mem_cons_of_mem _ ht)
  have e : PyData.depthAll (d :: ds) = max d.depth (PyData.depthAll ds) := by simp only [PyData.depthAll]
  refine ⟨l1 ++ l2, ?_, ?_⟩
  · rw [e]
    exact (m1.mono (Nat.le_max_left _ _)).append (m2.mono (Nat.le_max_right _ _))
  · rw [e, PyData.shownAll]
    exact .cons ((k1.more fun b hb => List.mem_append_left _ hb).level_le (Nat.le_max_left _ _)) (k2.more_le (fun b hb => List.mem_append_right _ hb) (Nat.le_max_right _ _))
theorem Sh.list {a : Addr} {o : Obj} {vs : Array Value} {n : Nat} {ds : List PyData} (h1 : h.get? a = some o) (h2 : o.cls = .type "list") (h3 : o.data = .seq vs n) (x : ShA P w h vs.toList ds) : Sh P w h (.ref a) (.list ds) := by
  obtain ⟨⟨as, ra⟩, kk⟩ := x
  have r : Reads h (.ref a) (.list ds) _ := .list h1 h2 h3 ra
  refine ⟨⟨_, r⟩, fun hs hz => ?_⟩
  have hz' : (listText (PyData.shownAll ds)).length ≤ sizeLine := by simpa only [PyData.shown] using hz
  obtain ⟨bs, hb, hk⟩ := kk (by simpa [PyData.showable] using hs) fun t ht => Nat.le_trans (listText_mem_le ht) hz'
  have ed : (PyData.list ds).depth = PyData.depthAll ds + 1 := by simp only [PyData.depth]
  have na : a ∉ bs := not_mem_of_deeper r (by rw [ed]; exact Nat.lt_succ_self _) hb
  refine ⟨a :: bs, ReadAtMost.cons r (by rw [ed]; exact Nat.le_succ _) hb, ?_⟩
  rw [ed]
  simp only [PyData.shown]
  obtain ⟨l⟩ := vs
  cases l with
  | nil =>
    have hk' : ReprAllK P w bs h (PyData.depthAll ds) [] (PyData.shownAll ds) := hk
    have e0 : PyData.shownAll ds = [] := List.length_eq_zero_iff.mp hk'.length_eq
    rw [e0, listText_nil]
    exact ReprK.listEmpty h1 h2 h3
  | cons y l => exact ReprK.list h1 h2 h3 na (by simpa using hk.length_eq) fun i z e => hk.item i z (by simpa using e)
theorem Sh.tuple {a : Addr} {o : Obj} {vs : Array Value} {n : Nat} {ds : List PyData} (h1 : h.get? a = some o) (h2 : o.cls = .type "tuple") (h3 : o.data = .seq vs n) (x : ShA P w h vs.toList ds) : Sh P w h (.ref a) (.tuple ds) := by
  obtain ⟨⟨as, ra⟩, kk⟩ := x
  have r : Reads h (.ref a) (.tuple ds) _ := .tuple h1 h2 h3 ra
  refine ⟨⟨_, r⟩, fun hs hz => ?_⟩
  have hz' : (tupleText (PyData.shownAll ds)).length ≤ sizeLine := by simpa only [PyData.shown] using hz
  obtain ⟨bs, hb, hk⟩ := kk (by simpa [PyData.showable] using hs) fun t ht => Nat.le_trans (tupleText_mem_le ht) hz'
  have ed : (PyData.tuple ds).depth = PyData.depthAll ds + 1 := by simp only [PyData.depth]
  have na : a ∉ bs := not_mem_of_deeper r (by rw [ed]; exact Nat.lt_succ_self _) hb
  refine ⟨a :: bs, ReadAtMost.cons r (by rw [ed]; exact Nat.le_succ _) hb, ?_⟩
  rw [ed]
  simp only [PyData.shown]
  exact ReprK.tuple h1 h2 h3 na hk
theorem Sh.dict {a : Addr} {o : Obj} {es : Array DictEntry} {n : Nat} {kvs : List (PyData × PyData)} (h1 : h.get? a = some o) (h2 : o.cls = .type "dict") (h3 : o.data = .dict es n) (hsys : (a == sysModules) = false)
    (x : ShA P w h (es.toList.map (·.key)) (kvs.map (·.1))) (y : ShA P w h (es.toList.map (·.val)) (kvs.map (·.2))) : Sh P w h (.ref a) (.dict kvs) := by
  obtain ⟨⟨as, ra⟩, ka⟩ := x
  obtain ⟨⟨cs, rc⟩, kc⟩ := y
  have r : Reads h (.ref a) (.dict kvs) _ := .dict h1 h2 h3 ra rc
  refine ⟨⟨_, r⟩, fun hs hz => ?_⟩
  have hz' : (dictText (PyData.shownKv kvs)).length ≤ sizeLine := by simpa only [PyData.shown] using hz
  obtain ⟨s1, s2⟩ := PyData.showableKv_split kvs (by simpa [PyData.showable] using hs)
  obtain ⟨l1, m1, k1⟩ := ka s1 fun t ht => by
    obtain ⟨p, hp, hl⟩ := PyData.shownKv_key_le kvs t ht
    exact Nat.le_trans hl (Nat.le_trans (dictText_mem_le hp) hz')
  obtain ⟨l2, m2, k2⟩ := kc s2 fun t ht => by
    obtain ⟨p, hp, hl⟩ := PyData.shownKv_val_le kvs t ht
    exact Nat.le_trans hl (Nat.le_trans (dictText_mem_le hp) hz')
  have ed : (PyData.dict kvs).depth = PyData.depthKv kvs + 1 := by simp only [PyData.depth]
  have d1 := PyData.depthAll_keys_le kvs
  have d2 := PyData.depthAll_vals_le kvs
  have hb : ReadAtMost h (PyData.depthKv kvs) (l1 ++ l2) := (m1.mono d1).append (m2.mono d2)
  have na : a ∉ l1 ++ l2 := not_mem_of_deeper r (by rw [ed]; exact Nat.lt_succ_self _) hb
  refine ⟨a :: (l1 ++ l2), ReadAtMost.cons r (by rw [ed]; exact Nat.le_succ _) hb, ?_⟩
  rw [ed]
  simp only [PyData.shown, PyData.shownKv_eq]
  exact ReprK.dict h1 h2 h3 hsys na (ReprEntriesK.of_two es.toList _ _ (k1.more_le (fun b m => List.mem_append_left _ m) d1) (k2.more_le (fun b m => List.mem_append_right _ m) d2))
end
section
variable {Γ : Cn} {L : LS} {X : Cx} {pins : List (Addr × Obj)} {σ : L2.St} {G H : Hp} {s : Shared}
theorem keys_sh {kd : KeyKind X.prog X.w Key} {es : List DictEntry} : ∀ {vs : List (Key × Value)}, Pairs (mixKind X.prog X.w) es vs → ShA X.prog X.w s.heap (es.map (·.key)) (vs.map fun kv => keyP kv.1)
  | _, .nil => .nil
  | _, .cons (kv := kv) hk _ t => by
    refine .cons ?_ (keys_sh (kd := kd) t)
    rcases keyIs_shape hk with ⟨i, tk, e1, e2⟩ | ⟨y, tk, e1, e2⟩
    · show Sh X.prog X.w s.heap _ (keyP kv.1)
      dsimp only
      rw [e1, e2]; exact .int i tk
    · show Sh X.prog X.w s.heap _ (keyP kv.1)
      dsimp only
      rw [e1, e2]; exact .str y tk
theorem shA_of {n : Nat} (f : ∀ v d u, Rep Γ L G v d → plR n d = true → RelV v u → Sh X.prog X.w s.heap u (pyR n d)) : ∀ {vs : List V} {ds : List D} {us : List Value}, RepL Γ L G vs ds → ds.all (plR n) = true → Vals vs us → ShA X.prog X.w s.heap us (ds.map (pyR n))
  | _, _, _, .nil, _, .nil => .nil
  | _, _, _, .cons h t, q, .cons r rr => by
    rw [List.all_cons, Bool.and_eq_true] at q
    exact .cons (f _ _ _ h q.1 r) (shA_of f t q.2 rr)
theorem shV_of {n : Nat} (f : ∀ v d u, Rep Γ L G v d → plR n d = true → RelV v u → Sh X.prog X.w s.heap u (pyR n d)) : ∀ {xs : List (Key × V)} {ds : List (Key × D)} {vs : List (Key × Value)} {es : List DictEntry}, RepK Γ L G xs ds → (ds.all fun kv => plR n kv.2) = true → KV xs vs → Pairs (mixKind X.prog X.w) es vs →
    ShA X.prog X.w s.heap (es.map (·.val)) (ds.map fun kv => pyR n kv.2) ∧ (vs.map fun kv => keyP kv.1) = ds.map fun kv => keyP kv.1
  | _, _, _, _, .nil, _, .nil, .nil => ⟨.nil, rfl⟩
  | _, _, _, _, .cons _ h t, q, .cons r rr, .cons _ hv p => by
    rw [List.all_cons, Bool.and_eq_true] at q
    obtain ⟨z1, z2⟩ := shV_of f t q.2 rr p
    refine ⟨?_, ?_⟩
    · rw [List.map_cons, List.map_cons, hv]
      exact .cons (f _ _ _ h q.1 r.2) z1
    · rw [List.map_cons, List.map_cons, z2, ← r.1]
theorem sh_list {n : Nat} (I : Inv X pins σ H s) (gk : Γ.K = X.K) (f : ∀ v d u, Rep Γ L G v d → plR n d = true → RelV v u → Sh X.prog X.w s.heap u (pyR n d)) {a : Addr} {xs : List V} {ds : List D} (hq : SqL X.K H a xs) (r : RepL Γ L G xs ds) (h : ds.all (plR n) = true) : Sh X.prog X.w s.heap (.ref a) (.list (ds.map (pyR n))) := by
  obtain ⟨its, rv, ⟨o, m, ho, hc, _, hd⟩, _⟩ := I.list hq
  exact .list ho hc hd (shA_of f r h (by simpa using rv))
theorem sh_dict {n : Nat} (I : Inv X pins σ H s) (f : ∀ v d u, Rep Γ L G v d → plR n d = true → RelV v u → Sh X.prog X.w s.heap u (pyR n d)) {a : Addr} {xs : List (Key × V)} {ds : List (Key × D)} (hq : Rd H a (.dK xs)) (r : RepK Γ L G xs ds) (h : (ds.all fun kv => plR n kv.2) = true) :
    Sh X.prog X.w s.heap (.ref a) (.dict (ds.map fun kv => (keyP kv.1, pyR n kv.2))) := by
  obtain ⟨_, hsys, vs, kv, o, es, ep, ho, hx, hdat, _, hp, _⟩ := dk_rd I.hok hq
  obtain ⟨z1, z2⟩ := shV_of f r h kv hp
  refine .dict ho hx.1 hdat hsys ?_ ?_
  · rw [List.map_map]
    have e := keys_sh (s := s) (kd := mixKind X.prog X.w) hp
    rw [z2] at e
    exact e
  · rw [List.map_map]
    exact z1
theorem sh_of (I : Inv X pins σ H s) (gk : Γ.K = X.K) (x : Exf G H) : ∀ (n : Nat) (v : V) (d : D) (u : Value), Rep Γ L G v d → plR n d = true → RelV v u → Sh X.prog X.w s.heap u (pyR n d)
  | n, _, _, u, .non, _, r => by
    obtain rfl : u = Value.none := r
    cases n <;> exact .non
  | n, _, _, u, .bl b, _, r => by
    obtain rfl : u = Value.bool b := r
    cases n <;> exact .bl b
  | n, _, _, u, .int i, _, r => by
    obtain ⟨t, rfl⟩ := r
    cases n <;> exact .int i t
  | n, _, _, u, .str (x := y) _, _, r => by
    obtain ⟨t, rfl⟩ := r
    cases n <;> exact .str y t
  | n + 1, _, _, u, .lst (a := a) hh r z, h, ru => by
    obtain rfl : u = Value.ref a := ru
    exact sh_list I gk (sh_of I gk x n) (by rw [← gk]; exact x.sl (SqL.of hh)) r h
  | n + 1, _, _, u, .tup (a := a) hh r z, h, ru => by
    obtain rfl : u = Value.ref a := ru
    obtain ⟨its, rv, ⟨o, ho, hc, m, hd⟩, _⟩ := I.tuple (show SqT X.K H a _ by rw [← gk]; exact (x.tp hh).sq)
    exact .tuple ho hc hd (shA_of (sh_of I gk x n) r h (by simpa using rv))
  | n + 1, _, _, u, .dct (a := a) hh r z, h, ru => by
    obtain rfl : u = Value.ref a := ru
    exact sh_dict I (sh_of I gk x n) (x.dk hh) r h
  | 0, _, _, _, .lst _ _ _, h, _ => by cases h
  | 0, _, _, _, .tup _ _ _, h, _ => by cases h
  | 0, _, _, _, .dct _ _ _, h, _ => by cases h
  | 0, _, _, _, .ins _ _ _ _, h, _ => by cases h
  | 0, _, _, _, .ty _, h, _ => by cases h
  | 0, _, _, _, .cls _, h, _ => by cases h
  | 0, _, _, _, .st _, h, _ => by cases h
  | 0, _, _, _, .raw _, h, _ => by cases h
  | 0, _, _, _, .exc _ _ _ _, h, _ => by cases h
  | _ + 1, _, _, _, .ins _ _ _ _, h, _ => by cases h
  | _ + 1, _, _, _, .ty _, h, _ => by cases h
  | _ + 1, _, _, _, .cls _, h, _ => by cases h
  | _ + 1, _, _, _, .st _, h, _ => by cases h
  | _ + 1, _, _, _, .raw _, h, _ => by cases h
  | _ + 1, _, _, _, .exc _ _ _ _, h, _ => by cases h
theorem shT_of (I : Inv X pins σ H s) (gk : Γ.K = X.K) (x : Exf G H) {n : Nat} {v : V} {d : D} {u : Value} (r : RepT Γ L G H v d) (h : plR n d = true) (ru : RelV v u) : Sh X.prog X.w s.heap u (pyR n d) := by
  rcases r with r | ⟨p, rfl, o, _⟩
  · exact sh_of I gk x n v d u r h ru
  · obtain rfl : u = Value.ref p := ru
    cases o with
    | lst hh r z =>
      cases n with
      | zero => cases h
      | succ n => exact sh_list I gk (sh_of I gk x n) (SqL.of hh) r h
    | dct hh r z =>
      cases n with
      | zero => cases h
      | succ n => exact sh_dict I (sh_of I gk x n) (.inl hh) r h
end
end GP

set_option Elab.async false
set_option linter.all false
set_option maxRecDepth 100000
set_option maxHeartbeats 4000000
/-! G25: repr(x) of data with dicts. -/
namespace GP
open PySem PySem.Spec PyProof.Rows L2
section
variable {P : Program} {w : World} {h : Heap} {A : Around} {E : Value → Shared → Prop} {s : Shared} {Q : Value → Shared → Prop} {a : Addr} {o : Obj} {vs : Array Value} {n : Nat} {ds : List PyData}
theorem rp_list (h1 : s.heap.get? a = some o) (h2 : o.cls = .type "list") (h3 : o.data = .seq vs n) (x : ShA P w s.heap vs.toList ds) (hs : (PyData.list ds).showable = true) (hz : (PyData.list ds).shown.length ≤ sizeLine) (hg : A.guards = some []) (hu : A.units + ((PyData.list ds).depth + 1) < cLine)
    (hQ : ∀ h' u tk, (∀ b o, s.heap.get? b = some o → h'.get? b = some o) → Q (.str (PyData.list ds).shown u) { s with heap := h', toks := tk }) : wpAny (model P w) A (call (.builtin "repr") [.ref a]) Q E s := by
  obtain ⟨⟨as, ra⟩, kk⟩ := x
  have r : Reads s.heap (.ref a) (.list ds) _ := .list h1 h2 h3 ra
  have hz' : (listText (PyData.shownAll ds)).length ≤ sizeLine := by simpa only [PyData.shown] using hz
  obtain ⟨bs, hb, hk⟩ := kk (by simpa [PyData.showable] using hs) fun t ht => Nat.le_trans (listText_mem_le ht) hz'
  have ed : (PyData.list ds).depth = PyData.depthAll ds + 1 := by simp only [PyData.depth]
  have na : a ∉ bs := not_mem_of_deeper r (by rw [ed]; exact Nat.lt_succ_self _) hb
  have es : (PyData.list ds).shown = listText (PyData.shownAll ds) := by simp only [PyData.shown]
  rw [es] at hQ
  rw [ed] at hu
  refine call_repr_slot (by omega) ⟨o, h1, h2⟩ F.slot_list_repr.toG ?_
  obtain ⟨l⟩ := vs
  cases l with
  | nil =>
    have hk' : ReprAllK P w bs s.heap (PyData.depthAll ds) [] (PyData.shownAll ds) := hk
    have e0 : PyData.shownAll ds = [] := List.length_eq_zero_iff.mp hk'.length_eq
    rw [e0, listText_nil] at hQ
    exact call_list_repr_empty ⟨o, h1, h2⟩ h1 h3 ⟨_, _, rfl, hQ s.heap _ _ fun _ _ e => e⟩
  | cons y l =>
    exact call_list_reprK h1 h2 h3 na (by simpa using hk.length_eq) (fun i z e => hk.item i z (by simpa using e)) hg (fun b _ => Clear.nil b) (by show A.units + 1 + _ < cLine; omega) (fun _ _ e => e) (fun h' u tk k => ⟨_, _, rfl, hQ h' u tk k⟩) hz'
theorem rp_tuple (h1 : s.heap.get? a = some o) (h2 : o.cls = .type "tuple") (h3 : o.data = .seq vs n) (x : ShA P w s.heap vs.toList ds) (hs : (PyData.tuple ds).showable = true) (hz : (PyData.tuple ds).shown.length ≤ sizeLine) (hg : A.guards = some []) (hu : A.units + ((PyData.tuple ds).depth + 1) < cLine)
    (hQ : ∀ h' u tk, (∀ b o, s.heap.get? b = some o → h'.get? b = some o) → Q (.str (PyData.tuple ds).shown u) { s with heap := h', toks := tk }) : wpAny (model P w) A (call (.builtin "repr") [.ref a]) Q E s := by
  obtain ⟨⟨as, ra⟩, kk⟩ := x
  have r : Reads s.heap (.ref a) (.tuple ds) _ := .tuple h1 h2 h3 ra
  have hz' : (tupleText (PyData.shownAll ds)).length ≤ sizeLine := by simpa only [PyData.shown] using hz
  obtain ⟨bs, hb, hk⟩ := kk (by simpa [PyData.showable] using hs) fun t ht => Nat.le_trans (tupleText_mem_le ht) hz'
  have ed : (PyData.tuple ds).depth = PyData.depthAll ds + 1 := by simp only [PyData.depth]
  have na : a ∉ bs := not_mem_of_deeper r (by rw [ed]; exact Nat.lt_succ_self _) hb
  have es : (PyData.tuple ds).shown = tupleText (PyData.shownAll ds) := by simp only [PyData.shown]
  rw [es] at hQ
  rw [ed] at hu
  exact call_repr_slot (by omega) ⟨o, h1, h2⟩ F.slot_tuple_repr (call_tuple_reprK h1 h2 h3 na hk hg (fun b _ => Clear.nil b) (by show A.units + 1 + _ < cLine; omega) (fun _ _ e => e) (fun h' u tk k => ⟨_, _, rfl, hQ h' u tk k⟩) hz')
theorem rp_dict {es : Array DictEntry} {kvs : List (PyData × PyData)} (h1 : s.heap.get? a = some o) (h2 : o.cls = .type "dict") (h3 : o.data = .dict es n) (hsys : (a == sysModules) = false) (x : ShA P w s.heap (es.toList.map (·.key)) (kvs.map (·.1))) (y : ShA P w s.heap (es.toList.map (·.val)) (kvs.map (·.2)))
    (hs : (PyData.dict kvs).showable = true) (hz : (PyData.dict kvs).shown.length ≤ sizeLine) (hg : A.guards = some []) (hu : A.units + ((PyData.dict kvs).depth + 1) < cLine)
    (hQ : ∀ h' u tk, (∀ b o, s.heap.get? b = some o → h'.get? b = some o) → Q (.str (PyData.dict kvs).shown u) { s with heap := h', toks := tk }) : wpAny (model P w) A (call (.builtin "repr") [.ref a]) Q E s := by
  obtain ⟨⟨as, ra⟩, ka⟩ := x
  obtain ⟨⟨cs, rc⟩, kc⟩ := y
  have r : Reads s.heap (.ref a) (.dict kvs) _ := .dict h1 h2 h3 ra rc
  have hz' : (dictText (PyData.shownKv kvs)).length ≤ sizeLine := by simpa only [PyData.shown] using hz
  obtain ⟨s1, s2⟩ := PyData.showableKv_split kvs (by simpa [PyData.showable] using hs)
  obtain ⟨l1, m1, k1⟩ := ka s1 fun t ht => by
    obtain ⟨p, hp, hl⟩ := PyData.shownKv_key_le kvs t ht
    exact Nat.le_trans hl (Nat.le_trans (dictText_mem_le hp) hz')
  obtain ⟨l2, m2, k2⟩ := kc s2 fun t ht => by
    obtain ⟨p, hp, hl⟩ := PyData.shownKv_val_le kvs t ht
    exact Nat.le_trans hl (Nat.le_trans (dictText_mem_le hp) hz')
  have ed : (PyData.dict kvs).depth = PyData.depthKv kvs + 1 := by simp only [PyData.depth]
  have d1 := PyData.depthAll_keys_le kvs
  have d2 := PyData.depthAll_vals_le kvs
  have hb : ReadAtMost s.heap (PyData.depthKv kvs) (l1 ++ l2) := (m1.mono d1).append (m2.mono d2)
  have na : a ∉ l1 ++ l2 := not_mem_of_deeper r (by rw [ed]; exact Nat.lt_succ_self _) hb
  have es' : (PyData.dict kvs).shown = dictText (List.zipWith (fun k v : Str => k ++ ": " ++ v) (PyData.shownAll (kvs.map (·.1))) (PyData.shownAll (kvs.map (·.2)))) := by simp only [PyData.shown, PyData.shownKv_eq]
  rw [es'] at hQ
  rw [PyData.shownKv_eq] at hz'
  rw [ed] at hu
  exact call_repr_slot (by omega) ⟨o, h1, h2⟩ F.slot_dict_repr (call_dict_reprK h1 h2 h3 hsys na (ReprEntriesK.of_two es.toList _ _ (k1.more_le (fun b m => List.mem_append_left _ m) d1) (k2.more_le (fun b m => List.mem_append_right _ m) d2)) hg (fun b _ => Clear.nil b)
    (by show A.units + 1 + _ < cLine; omega) (fun _ _ e => e) (fun h' u tk k => ⟨_, _, rfl, hQ h' u tk k⟩) hz')
end
theorem depthKv_le {m : Nat} : ∀ kvs : List (PyData × PyData), (∀ p ∈ kvs, p.1.depth ≤ m ∧ p.2.depth ≤ m) → PyData.depthKv kvs ≤ m
  | [], _ => by simp only [PyData.depthKv]; exact Nat.zero_le _
  | (k, v) :: r, h => by
    have h1 : k.depth ≤ m ∧ v.depth ≤ m := h (k, v) List.mem_cons_self
    have h2 := depthKv_le r fun p hp => h p (List.mem_cons_of_mem _ hp)
    simp only [PyData.depthKv]
    omega
theorem depthAll_le {m : Nat} : ∀ ds : List PyData, (∀ p ∈ ds, p.depth ≤ m) → PyData.depthAll ds ≤ m
  | [], _ => by simp only [PyData.depthAll]; exact Nat.zero_le _
  | d :: r, h => by
    have h1 := h d List.mem_cons_self
    have h2 := depthAll_le r fun p hp => h p (List.mem_cons_of_mem _ hp)
    simp only [PyData.depthAll]
    omega
theorem pyR_depth : ∀ (n : Nat) (d : D), (pyR n d).depth ≤ n
  | 0, d => by cases d <;> simp [pyR, PyData.depth]
  | n + 1, d => by
    cases d with
    | lst xs =>
      show (PyData.list _).depth ≤ n + 1
      rw [PyData.depth]
      refine Nat.succ_le_succ (depthAll_le _ fun p hp => ?_)
      obtain ⟨x, _, rfl⟩ := List.mem_map.mp hp
      exact pyR_depth n x
    | tup xs =>
      show (PyData.tuple _).depth ≤ n + 1
      rw [PyData.depth]
      refine Nat.succ_le_succ (depthAll_le _ fun p hp => ?_)
      obtain ⟨x, _, rfl⟩ := List.mem_map.mp hp
      exact pyR_depth n x
    | dct kvs =>
      show (PyData.dict _).depth ≤ n + 1
      rw [PyData.depth]
      refine Nat.succ_le_succ (depthKv_le _ fun p hp => ?_)
      obtain ⟨x, _, rfl⟩ := List.mem_map.mp hp
      refine ⟨?_, pyR_depth n x.2⟩
      rcases x with ⟨i | y, v⟩ <;> simp [keyP, PyData.depth]
    | _ => simp [pyR, PyData.depth]
theorem pyR_non (n : Nat) : pyR n .non = .none := by cases n <;> rfl
theorem pyR_bl (n : Nat) (b : Bool) : pyR n (.bl b) = .bool b := by cases n <;> rfl
theorem pyR_int (n : Nat) (b : Int) : pyR n (.int b) = .int b := by cases n <;> rfl
theorem pyR_str (n : Nat) (b : Str) : pyR n (.str b) = .str b := by cases n <;> rfl
/-- repr(x) of plain data, dicts among it -/
def gReprR (K : FK) : List V → Hp → VK → Prop := fun xs H Q => ∃ (Γ : Cn) (L : LS) (G : Hp) (v : V) (d : D) (n : Nat), xs = [v] ∧ Γ.K = K ∧ Exf G H ∧ RepT Γ L G H v d ∧ plR n d = true ∧ n ≤ 40 ∧ (pyR n d).showable = true ∧ (pyR n d).shown.length ≤ sizeLine ∧ Q (.str (pyR n d).shown) H
section
variable {X : Cx}
theorem g_reprR {k : Nat} (hr : RG k X.A) : CallR X (.builtin "repr") (gReprR X.K) := by
  intro pins s σ H xs us Q I r h
  obtain ⟨Γ, L, G, v, d, n, rfl, gk, x, rv, hp, hn, hs, hz, q⟩ := h
  obtain ⟨u, rfl, ru⟩ := vals1 r
  have hun := hr.rm.units
  have hdp := pyR_depth n d
  have fin : ∀ h1 u tk, (∀ b o, s.heap.get? b = some o → h1.get? b = some o) → EP X pins σ Q (.str (pyR n d).shown u) { s with heap := h1, toks := tk } := fun h1 u tk kk => ⟨.str _, H, I.kept kk, ⟨_, rfl⟩, q⟩
  have lst : ∀ {m : Nat} {a : Addr} {ys : List V} {ds : List D}, n = m + 1 → d = .lst ds → SqL X.K H a ys → RepL Γ L G ys ds → wpAny (model X.prog X.w) X.A (call (.builtin "repr") [.ref a]) (EP X pins σ Q) X.xe s := fun {m a ys ds} en ed hq rl => by
    subst en
    subst ed
    obtain ⟨its, rv, ⟨o, mm, ho, hc, _, hd⟩, _⟩ := I.list hq
    have hs2 : (PyData.list (ds.map (pyR m))).showable = true := hs
    have hz2 : (PyData.list (ds.map (pyR m))).shown.length ≤ sizeLine := hz
    have hd2 : (PyData.list (ds.map (pyR m))).depth ≤ m + 1 := hdp
    exact rp_list ho hc hd (shA_of (sh_of I gk x m) rl hp (by simpa using rv)) hs2 hz2 hr.gd (by omega) fin
  have dct : ∀ {m : Nat} {a : Addr} {ys : List (Key × V)} {ds : List (Key × D)}, n = m + 1 → d = .dct ds → Rd H a (.dK ys) → RepK Γ L G ys ds → wpAny (model X.prog X.w) X.A (call (.builtin "repr") [.ref a]) (EP X pins σ Q) X.xe s := fun {m a ys ds} en ed hq rl => by
    subst en
    subst ed
    obtain ⟨_, hsys, vs, kv, o, es, ep, ho, hx, hdat, _, hpp, _⟩ := dk_rd I.hok hq
    obtain ⟨z1, z2⟩ := shV_of (sh_of I gk x m) rl hp kv hpp
    have hs2 : (PyData.dict (ds.map fun (kv : Key × D) => (keyP kv.1, pyR m kv.2))).showable = true := hs
    have hz2 : (PyData.dict (ds.map fun (kv : Key × D) => (keyP kv.1, pyR m kv.2))).shown.length ≤ sizeLine := hz
    have hd2 : (PyData.dict (ds.map fun (kv : Key × D) => (keyP kv.1, pyR m kv.2))).depth ≤ m + 1 := hdp
    refine rp_dict ho hx.1 hdat hsys ?_ ?_ hs2 hz2 hr.gd (by omega) fin
    · rw [List.map_map]
      have e := keys_sh (s := s) (kd := mixKind X.prog X.w) hpp
      rw [z2] at e
      exact e
    · rw [List.map_map]
      exact z1
  rcases rv with rv | ⟨p, rfl, o, _⟩
  · cases rv with
    | non =>
      obtain rfl : u = Value.none := ru
      rw [pyR_non] at q
      exact P.repr_of_none ⟨.str "None", H, I.tok _, ⟨_, rfl⟩, q⟩
    | bl b =>
      obtain rfl : u = Value.bool b := ru
      rw [pyR_bl] at q
      exact P.repr_of_bool ⟨.str (PyData.bool b).shown, H, I.tok _, ⟨s.toks, by cases b <;> rfl⟩, q⟩
    | int i =>
      obtain ⟨t, rfl⟩ := ru
      rw [pyR_int] at q hs
      refine P.repr_of_int ?_ ⟨.str (toString i), H, I.tok _, ⟨_, rfl⟩, q⟩
      exact of_decide_eq_true hs
    | str _ =>
      rename_i z _
      obtain ⟨t, rfl⟩ := ru
      rw [pyR_str] at q hz
      exact P.repr_of_str ⟨.str (reprText z), H, I.tok _, ⟨_, rfl⟩, q⟩ hz
    | lst hh rl z =>
      rename_i a ys ds
      obtain rfl : u = Value.ref a := ru
      cases n with
      | zero => cases hp
      | succ m => exact lst rfl rfl (by rw [← gk]; exact x.sl (SqL.of hh)) rl
    | tup hh rl z =>
      rename_i a ys ds
      obtain rfl : u = Value.ref a := ru
      cases n with
      | zero => cases hp
      | succ m =>
        obtain ⟨its, rv, ⟨o, ho, hc, mm, hd⟩, _⟩ := I.tuple (show SqT X.K H a _ by rw [← gk]; exact (x.tp hh).sq)
        have hs2 : (PyData.tuple (ds.map (pyR m))).showable = true := hs
        have hz2 : (PyData.tuple (ds.map (pyR m))).shown.length ≤ sizeLine := hz
        have hd2 : (PyData.tuple (ds.map (pyR m))).depth ≤ m + 1 := hdp
        exact rp_tuple ho hc hd (shA_of (sh_of I gk x m) rl hp (by simpa using rv)) hs2 hz2 hr.gd (by omega) fin
    | dct hh rl z =>
      rename_i a ys ds
      obtain rfl : u = Value.ref a := ru
      cases n with
      | zero => cases hp
      | succ m => exact dct rfl rfl (x.dk hh) rl
    | _ => cases n <;> cases hp
  · obtain rfl : u = Value.ref p := ru
    cases o with
    | lst hh rl z =>
      cases n with
      | zero => cases hp
      | succ m => exact lst rfl rfl (SqL.of hh) rl
    | dct hh rl z =>
      cases n with
      | zero => cases hp
      | succ m => exact dct rfl rfl (.inl hh) rl
end
section
variable {Γ : Cn} {L : LS}
def fReprR : List D → Option D
  | [d] => if plR DEP d && (pyR DEP d).showable && decide ((pyR DEP d).shown.length ≤ sizeLine) then some (.raw (pyR DEP d).shown) else none
  | _ => none
theorem k_reprR : CallS Γ L (gReprR Γ.K) fReprR := fun t G H xs ds z l e r0 hz Q k => by
  unfold fReprR at hz
  split at hz
  · split at hz
    · rename_i d hs
      cases hz
      rw [Bool.and_eq_true, Bool.and_eq_true, decide_eq_true_eq] at hs
      obtain ⟨v, rfl, r⟩ := one_of r0
      exact ⟨Γ, L, G, v, d, DEP, rfl, rfl, e, r, hs.1.1, by decide, hs.1.2, hs.2, k _ G H (At.start e l) (.raw _)⟩
    · cases hz
  · cases hz
end
end GP

set_option Elab.async false
set_option linter.all false
set_option maxRecDepth 100000
set_option maxHeartbeats 4000000
/-! G26: nested targets; a dict that is lent to a call. -/
namespace GP
open PySem PySem.Spec PyProof.Rows L2
section
variable {Γ : Cn} {L : LS}
/-- (a, b), c -/
def dTup21 (i j m : Nat) : DG := fun d δ P => match d with
  | .tup [.tup [x, y], z] => P (((δ.set i (some (.sh x))).set j (some (.sh y))).set m (some (.sh z)))
  | _ => False
def rTup21 (i j m : Nat) : RGt := fun d δ => match d with
  | .tup [.tup [x, y], z] => some (((δ.set i (some (.sh x))).set j (some (.sh y))).set m (some (.sh z)))
  | _ => none
theorem a_tup21 (i j m : Nat) : AgG (dTup21 i j m) (rTup21 i j m) := fun x δ z P h p => by
  unfold rTup21 at h
  split at h
  · cases h; exact p
  · cases h
theorem s_tup21 (i j m : Nat) : SG Γ L (gTup Γ.K 2 (gCons (gTup Γ.K 2 (gCons (gName i) (gCons (gName j) gNil))) (gCons (gName m) gNil))) (dTup21 i j m) [i, j, m] := fun t σ δ B G H x d l ex e r P hp Q k => by
  unfold dTup21 at hp
  split at hp
  · rename_i u w q
    cases r with
    | tup h rl z =>
      cases rl with
      | cons r1 rl => cases rl with
        | cons r2 rl =>
          cases rl
          cases r1 with
          | tup h1 rl1 z1 =>
            cases rl1 with
            | cons q1 rl1 => cases rl1 with
              | cons q2 rl1 =>
                cases rl1
                refine ⟨_, _, rfl, (ex.tp h).sq, rfl, _, _, rfl, _, _, rfl, (ex.tp h1).sq, rfl, _, _, rfl, _, _, rfl, rfl, _, _, rfl, rfl, ?_⟩
                refine k _ _ (((e.set i q1).set j q2).set m r2) (fun vs hv => ?_) hp
                rw [wipe_set (hv m (by simp)), wipe_set (hv j (by simp)), wipe_set (hv i (by simp))]
  · exact hp.elim
/-- a, (b, c) -/
def dTup12 (i j m : Nat) : DG := fun d δ P => match d with
  | .tup [x, .tup [y, z]] => P (((δ.set i (some (.sh x))).set j (some (.sh y))).set m (some (.sh z)))
  | _ => False
def rTup12 (i j m : Nat) : RGt := fun d δ => match d with
  | .tup [x, .tup [y, z]] => some (((δ.set i (some (.sh x))).set j (some (.sh y))).set m (some (.sh z)))
  | _ => none
theorem a_tup12 (i j m : Nat) : AgG (dTup12 i j m) (rTup12 i j m) := fun x δ z P h p => by
  unfold rTup12 at h
  split at h
  · cases h; exact p
  · cases h
theorem s_tup12 (i j m : Nat) : SG Γ L (gTup Γ.K 2 (gCons (gName i) (gCons (gTup Γ.K 2 (gCons (gName j) (gCons (gName m) gNil))) gNil))) (dTup12 i j m) [i, j, m] := fun t σ δ B G H x d l ex e r P hp Q k => by
  unfold dTup12 at hp
  split at hp
  · rename_i u w q
    cases r with
    | tup h rl z =>
      cases rl with
      | cons r1 rl => cases rl with
        | cons r2 rl =>
          cases rl
          cases r2 with
          | tup h1 rl1 z1 =>
            cases rl1 with
            | cons q1 rl1 => cases rl1 with
              | cons q2 rl1 =>
                cases rl1
                refine ⟨_, _, rfl, (ex.tp h).sq, rfl, _, _, rfl, _, _, rfl, _, _, rfl, (ex.tp h1).sq, rfl, _, _, rfl, _, _, rfl, rfl, rfl, ?_⟩
                refine k _ _ (((e.set i r1).set j q1).set m q2) (fun vs hv => ?_) hp
                rw [wipe_set (hv m (by simp)), wipe_set (hv j (by simp)), wipe_set (hv i (by simp))]
  · exact hp.elim
/-- a dict that is lent: for the time of a call it stands among the stable things -/
def del (G : Hp) (p : Addr) : Hp := fun a => if a = p then none else G a
theorem del_same {G : Hp} {p : Addr} : del G p p = none := if_pos rfl
theorem del_ne {G : Hp} {p a : Addr} (h : a ≠ p) : del G p a = G a := if_neg h
theorem At.lent {t : Nat} {G H : Hp} {p : Addr} {kvs : List (Key × V)} (l : LawAt L t G H) (x : Exf G H) (hg : G p = none) (hp : H p = some (.dK kvs)) (hn : notL L p) : LawAt L t (upd G p (.dK kvs)) H ∧ Exf (upd G p (.dK kvs)) H := by
  refine ⟨fun q g e => ?_, fun a o h => ?_⟩
  · obtain ⟨h1, h2, h3, c1, gr, cs, lf, tn, k1, k2, k3, k4, k5, k6, k7⟩ := l q g e
    obtain ⟨n1, n2⟩ := hn q g e
    exact ⟨by rw [upd_ne (Ne.symm n1)]; exact h1, by rw [upd_ne (Ne.symm n2)]; exact h2, h3, c1, gr, cs, lf, tn, k1, k2, k3, k4, k5, k6, by rw [upd_ne (ne_of_none k7 hg)]; exact k7⟩
  · by_cases z : a = p
    · subst z; rw [upd_same] at h; cases h; exact .inl hp
    · rw [upd_ne z] at h; exact x a o h
theorem At.lend {t : Nat} {G H G3 H3 : Hp} {p : Addr} {kvs : List (Key × V)} (hg : G p = none) (hp : H p = some (.dK kvs)) (hn : notL L p) (a : At L t H (upd G p (.dK kvs)) G3 H3) : At L t H G (del G3 p) H3 ∧ H3 p = some (.dK kvs) := by
  have gp : G3 p = some (.dK kvs) := a.gg p _ upd_same
  refine ⟨⟨fun b o h => ?_, fun b o h => ?_, a.bh, fun b o h => ?_, fun q g e => ?_⟩, a.bh p _ hp hn⟩
  · have nb : b ≠ p := ne_of_none h hg
    rw [del_ne nb]
    exact a.gg b o (by rw [upd_ne nb]; exact h)
  · have nb : b ≠ p := fun z => by subst z; rw [del_same] at h; cases h
    rw [del_ne nb] at h
    exact a.gh b o h
  · have nb : b ≠ p := fun z => by subst z; rw [del_same] at h; cases h
    rw [del_ne nb] at h
    refine (a.nw b o h).imp (fun y => ?_) id
    rw [upd_ne nb] at y
    exact y
  · obtain ⟨h1, h2, h3, c1, gr, cs, lf, tn, k1, k2, k3, k4, k5, k6, k7⟩ := a.lw q g e
    obtain ⟨n1, n2⟩ := hn q g e
    have nc : c1 ≠ p := fun z => by subst z; rw [gp] at k7; cases k7
    exact ⟨by rw [del_ne (Ne.symm n1)]; exact h1, by rw [del_ne (Ne.symm n2)]; exact h2, h3, c1, gr, cs, lf, tn, k1, k2, k3, k4, k5, k6, by rw [del_ne nc]; exact k7⟩
end
end GP

set_option Elab.async false
set_option linter.all false
set_option maxRecDepth 100000
set_option maxHeartbeats 4000000
/-! G27: a or b by truth; an owned list or dict that is lent to a test that draws nothing; clear as a run. -/
namespace GP
open PySem PySem.Spec PyProof.Rows L2
section
variable {Γ : Cn} {L : LS} {c c1 c2 : Nat} {te ta tb : TE} {de da db : DE} {tt : TT} {dt : DT} {ra rb : RE} {rt : RT}
theorem tru_of {G1 H1 : Hp} {t : Nat} {H G : Hp} {v : V} {d : D} {b : Bool} (x1 : Exf G1 H1) (r1 : RepT Γ L G1 H1 v d) (hb : truD d = some b) : TruV Γ.K v H1 b := by
  cases d with
  | non => obtain rfl := non_of r1; cases hb; rfl
  | bl b' => obtain rfl := bl_of r1; cases hb; rfl
  | int i => obtain rfl := int_of r1; cases hb; rfl
  | str s =>
    obtain ⟨rfl, z⟩ := str_of r1
    cases hb
    refine ⟨lim_size (okStr_len z), ?_⟩
    cases hs : s.length with
    | zero => rfl
    | succ m =>
      have h1 : (m + 1 != 0) = true := by simp
      have h2 : (((m + 1 : Nat) : Int) != 0) = true := by simp; omega
      rw [h1, h2]
  | lst xs =>
    obtain ⟨p, ys, rfl, hp', r, _⟩ := lst_of x1 r1
    cases hb
    exact .inl ⟨ys, SqL.of hp', by rw [isEmpty_rep r]⟩
  | tup xs =>
    obtain ⟨p, ys, rfl, hp', r, _⟩ := tup_of x1 r1
    cases hb
    exact .inr (.inl ⟨ys, hp', by rw [isEmpty_rep r]⟩)
  | _ => cases hb
def dOrT (a b : DE) : DE := fun δ P => a δ fun d => match truD d with
  | some k => if k = true then P d else b δ P
  | none => False
theorem s_orT (ha : SE Γ L c1 ta da) (hb : SE Γ L c2 tb db) : SE Γ L (c1 + c2) (tOrT Γ.K ta tb) (dOrT da db) := fun t σ δ B G H l x e hc P hp Q k => by
  refine ha t σ δ B G H l x e (by omega) _ hp _ fun v d G1 H1 a1 r1 q1 => ?_
  split at q1
  · rename_i b hb'
    refine ⟨b, tru_of (t := t) (H := H) (G := G) a1.gh r1.t hb', ?_⟩
    cases b with
    | true => exact k v d G1 H1 (a1.le (by omega)) r1 q1
    | false => exact hb (t + c1) σ δ B G1 H1 a1.lw a1.gh (e.step a1) (by omega) P q1 Q fun v2 d2 G2 H2 a2 r2 q2 => k v2 d2 G2 H2 (by rw [← Nat.add_assoc]; exact a1.tr a2) r2 q2
  · exact q1.elim
def rOrT (a b : RE) : RE := fun δ => (a δ).bind fun x => (truD x).bind fun k => if k = true then some x else b δ
theorem a_orT (ha : AgE da ra) (hb : AgE db rb) : AgE (dOrT da db) (rOrT ra rb) := fun δ z P h p => by
  obtain ⟨x, h1, h⟩ := bnd h
  obtain ⟨k, h2, h⟩ := bnd h
  refine ha δ x _ h1 ?_
  rw [h2]
  split at h
  · rename_i e; dsimp only; rw [if_pos e]; cases h; exact p
  · rename_i e; dsimp only; rw [if_neg e]; exact hb δ z P h p
@[simp] theorem y_orT {δ : DS} {P : D → Prop} : dOrT da db δ P = da δ fun d => oB (truD d) fun k => if k = true then P d else db δ P := rfl
@[simp] theorem x_orT (δ : DS) : rOrT ra rb δ = (ra δ).bind fun x => (truD x).bind fun k => if k = true then some x else rb δ := rfl
/-- data without the law's state -/
def nsD : Nat → D → Bool
  | _, .st => false
  | _, .exc _ _ => false
  | n + 1, .lst xs => xs.all (nsD n)
  | n + 1, .tup xs => xs.all (nsD n)
  | n + 1, .dct kvs => kvs.all fun kv => nsD n kv.2
  | n + 1, .ins _ fs => fs.all fun kv => nsD n kv.2
  | 0, .lst _ => false
  | 0, .tup _ => false
  | 0, .dct _ => false
  | 0, .ins _ _ => false
  | _, _ => true
theorem repL_ns {n : Nat} {G : Hp} (ih : ∀ {v : V} {d : D}, Rep Γ L G v d → nsD n d = true → Rep Γ none G v d) : ∀ {vs : List V} {ds : List D}, RepL Γ L G vs ds → ds.all (nsD n) = true → RepL Γ none G vs ds
  | _, _, .nil, _ => .nil
  | _, _, .cons h t, e => by
    rw [List.all_cons, Bool.and_eq_true] at e
    exact .cons (ih h e.1) (repL_ns ih t e.2)
theorem repK_ns {n : Nat} {G : Hp} (ih : ∀ {v : V} {d : D}, Rep Γ L G v d → nsD n d = true → Rep Γ none G v d) : ∀ {vs : List (Key × V)} {ds : List (Key × D)}, RepK Γ L G vs ds → (ds.all fun kv => nsD n kv.2) = true → RepK Γ none G vs ds
  | _, _, .nil, _ => .nil
  | _, _, .cons o h t, e => by
    rw [List.all_cons, Bool.and_eq_true] at e
    exact .cons o (ih h e.1) (repK_ns ih t e.2)
theorem repF_ns {n : Nat} {G : Hp} (ih : ∀ {v : V} {d : D}, Rep Γ L G v d → nsD n d = true → Rep Γ none G v d) : ∀ {vs : List (Str × V)} {ds : List (Str × D)}, RepF Γ L G vs ds → (ds.all fun kv => nsD n kv.2) = true → RepF Γ none G vs ds
  | _, _, .nil, _ => .nil
  | _, _, .cons h t, e => by
    rw [List.all_cons, Bool.and_eq_true] at e
    exact .cons (ih h e.1) (repF_ns ih t e.2)
theorem rep_ns {G : Hp} : ∀ (n : Nat) {v : V} {d : D}, Rep Γ L G v d → nsD n d = true → Rep Γ none G v d := by
  intro n
  induction n with
  | zero =>
    intro v d h e
    cases h with
    | non => exact .non
    | bl b => exact .bl b
    | int i => exact .int i
    | str h => exact .str h
    | ty n => exact .ty n
    | cls h => exact .cls h
    | raw x => exact .raw x
    | st h => cases e
    | lst h r z => cases e
    | tup h r z => cases e
    | dct h r z => cases e
    | ins h hd hc r => cases e
    | exc h hc r hd => cases e
  | succ n ih =>
    intro v d h e
    cases h with
    | non => exact .non
    | bl b => exact .bl b
    | int i => exact .int i
    | str h => exact .str h
    | ty n => exact .ty n
    | cls h => exact .cls h
    | raw x => exact .raw x
    | st h => cases e
    | lst h r z => exact .lst h (repL_ns ih r e) z
    | tup h r z => exact .tup h (repL_ns ih r e) z
    | dct h r z => exact .dct h (repK_ns ih r e) z
    | ins h hd hc r => exact .ins h hd hc (repF_ns ih r e)
    | exc h hc r hd => cases e
/-- one slot alone, shared -/
def oneS (n i : Nat) (d : D) : DS := (List.replicate n none).set i (some (.sh d))
theorem oneS_at {n i j : Nat} {d : D} {s : Sl} (h : (oneS n i d)[j]? = some (some s)) : j = i ∧ s = .sh d := by
  unfold oneS at h
  by_cases z : i = j
  · subst z
    rw [List.getElem?_set] at h
    by_cases l : i < (List.replicate n (none : Option Sl)).length
    · simp at l; simp [l] at h; exact ⟨rfl, h.symm⟩
    · simp at l; simp [Nat.not_lt.mpr l] at h
  · rw [List.getElem?_set_ne z, List.getElem?_replicate] at h
    split at h <;> cases h
theorem lend_at {t : Nat} {G H G3 H3 : Hp} {p : Addr} {o : HO} (l : LawAt L t G H) (hg : G p = none) (hp : H p = some o) (hn : notL L p) (a : At none t H (upd G p o) G3 H3) : At L t H G (del G3 p) H3 := by
  have bh : ∀ b u, H b = some u → H3 b = some u := fun b u h => a.bh b u h (fun _ _ e => by cases e)
  have gg : Ex G (del G3 p) := fun b u h => by
    have nb : b ≠ p := ne_of_none h hg
    rw [del_ne nb]
    exact a.gg b u (by rw [upd_ne nb]; exact h)
  have nw : ∀ b u, (del G3 p) b = some u → G b = some u ∨ H b = none := fun b u h => by
    have nb : b ≠ p := fun z => by subst z; rw [del_same] at h; cases h
    rw [del_ne nb] at h
    refine (a.nw b u h).imp (fun y => ?_) id
    rw [upd_ne nb] at y
    exact y
  refine ⟨gg, fun b u h => ?_, fun b u h _ => bh b u h, nw, fun q g e => ?_⟩
  · have nb : b ≠ p := fun z => by subst z; rw [del_same] at h; cases h
    rw [del_ne nb] at h
    exact a.gh b u h
  · obtain ⟨h1, h2, h3, c1, gr, cs, lf, tn, k1, k2, k3, k4, k5, k6, k7⟩ := l q g e
    refine ⟨?_, ?_, h3, c1, gr, cs, lf, tn, bh _ _ k1, bh _ _ k2, k3, k4, k5, k6, gg _ _ k7⟩
    · cases z : (del G3 p) q with
      | none => rfl
      | some u => rcases nw q u z with y | y
                  · rw [h1] at y; cases y
                  · rw [k1] at y; cases y
    · cases z : (del G3 p) g with
      | none => rfl
      | some u => rcases nw g u z with y | y
                  · rw [h2] at y; cases y
                  · rw [k2] at y; cases y
def dLendT (i : Nat) (t : DT) : DT := fun δ P => match δ[i]? with
  | some (some (.ow d)) => nsD 6 d = true ∧ t (oneS δ.length i d) P
  | _ => False
theorem s_lendT (i : Nat) (h : SB Γ none 0 tt dt) : SB Γ L 0 tt (dLendT i dt) := fun t σ δ B G H l x e hc P hp Q k => by
  unfold dLendT at hp
  split at hp
  · rename_i d hd
    obtain ⟨p, hv, o, hb, hg, hn⟩ := e.ow i d hd
    obtain ⟨hns, hp⟩ := hp
    have key : ∀ u, H p = some u → Rep Γ none (upd G p u) (.ref p) d → tt σ H Q := fun u hu r => by
      have hx : Exf (upd G p u) H := fun a w z => by
        by_cases y : a = p
        · subst y; rw [upd_same] at z; cases z; exact .inl hu
        · rw [upd_ne y] at z; exact x a w z
      have he : Env Γ none B (upd G p u) H σ (oneS δ.length i d) := by
        refine ⟨fun j d' hj => ?_, fun j d' hj => ?_, fun j m d1 d2 q hjm h1 h2 _ _ => ?_, ?_⟩
        · obtain ⟨rfl, z⟩ := oneS_at hj
          cases z
          exact ⟨_, hv, r⟩
        · obtain ⟨_, z⟩ := oneS_at hj
          cases z
        · obtain ⟨_, z⟩ := oneS_at h1
          cases z
        · unfold oneS
          rw [List.length_set, List.length_replicate]
          exact e.len
      refine h t σ _ B (upd G p u) H (fun _ _ z => by cases z) hx he hc P hp Q fun b G3 H3 a3 q3 => ?_
      exact k b (del G3 p) H3 (lend_at l hg hu hn a3) q3
    cases o with
    | lst hl r z => exact key _ hl (rep_ns 6 (.lst upd_same (r.up (Ex.new hg)) z) hns)
    | dct hl r z => exact key _ hl (rep_ns 6 (.dct upd_same (r.up (Ex.new hg)) z) hns)
  · exact hp.elim
def rLendT (i : Nat) (t : RT) : RT := fun δ => match δ[i]? with
  | some (some (.ow d)) => if nsD 6 d = true then t (oneS δ.length i d) else none
  | _ => none
theorem a_lendT {i : Nat} (ht : AgT dt rt) : AgT (dLendT i dt) (rLendT i rt) := fun δ z P h p => by
  unfold rLendT at h
  split at h
  · rename_i d hd
    split at h
    · rename_i hns
      unfold dLendT
      rw [hd]
      exact ⟨hns, ht _ z P h p⟩
    · cases h
  · cases h
def rClr (i : Nat) : RQ := fun δ => match δ[i]? with
  | some (some (.ow (.lst _))) => some (.nx (δ.set i (some (.ow (.lst [])))))
  | _ => none
theorem a_clr {b : Bool} {i : Nat} : AgQ b (dClr i) (rClr i) := fun N δ o hb h p => by
  unfold rClr at h
  split at h
  · rename_i xs hi
    cases h
    unfold dClr
    rw [hi]
    exact p
  · cases h
end
end GP

set_option Elab.async false
set_option linter.all false
set_option maxRecDepth 100000
set_option maxHeartbeats 4000000
/-! G28: enumerate and zip of lists and tuples, in any mixture. -/
namespace GP
open PySem PySem.Spec PyProof.Rows L2
/-- a sequence: a tuple (true) or a list (false) -/
def sqK (k : Bool) (K : FK) (H : Hp) (a : Addr) (xs : List V) : Prop := match k with
  | true => SqT K H a xs
  | false => SqL K H a xs
def itK (k : Bool) (h : Heap) (it a : Addr) (i : Nat) : Prop := match k with
  | true => h.IsTupleIter it a i
  | false => h.IsListIter it a i
def cnK (k : Bool) (h : Heap) (a : Addr) (vs : Array Value) : Prop := match k with
  | true => h.IsTuple a vs
  | false => h.IsList a vs
def obK (k : Bool) (a : Addr) : Obj := match k with
  | true => { cls := .type "tuple_iterator", data := .fields #[.ref a, .int 0 0] }
  | false => { cls := .type "list_iterator", data := .fields #[.ref a, .int 0 0] }
theorem begK (k : Bool) (a : Addr) (vs : Array Value) : Begins (.ref a) (obK k a) fun h => cnK k h a vs := by
  cases k with
  | true => exact begins_tuple a vs
  | false => exact begins_list a vs
theorem itK_0 (k : Bool) {h : Heap} {it a : Addr} (e : h.get? it = some (obK k a)) : itK k h it a 0 := by
  cases k with
  | true => exact ⟨_, e, rfl, rfl⟩
  | false => exact ⟨_, e, rfl, rfl⟩
theorem itK_at (k : Bool) {h h' : Heap} {it a : Addr} {i : Nat} (x : itK k h it a i) (e : ∀ o, h.get? it = some o → h'.get? it = some o) : itK k h' it a i := by
  cases k with
  | true => exact Heap.IsTupleIter.at x e
  | false => exact Heap.IsListIter.at x e
theorem itK_ob (k : Bool) {h : Heap} {it a : Addr} {i : Nat} (x : itK k h it a i) : ∃ o, h.get? it = some o ∧ ∀ v, o.data ≠ .cell v := by
  cases k with
  | true => obtain ⟨o, e, _, d⟩ := x; exact ⟨o, e, fun v q => by rw [d] at q; cases q⟩
  | false => obtain ⟨o, e, _, d⟩ := x; exact ⟨o, e, fun v q => by rw [d] at q; cases q⟩
theorem cnK_lt (k : Bool) {h : Heap} {a : Addr} {vs : Array Value} (x : cnK k h a vs) : a < h.objs.size := by
  cases k with
  | true => obtain ⟨o, e, _⟩ := x; exact Heap.lt_size e
  | false => obtain ⟨o, e, _⟩ := x; exact Heap.lt_size e
theorem drawK (k : Bool) {prog : Program} {w : World} {A : Around} (hh : A.handled = none) (it a : Addr) (hne : a ≠ it) (vs : Array Value) :
    Draws prog w A it [it, a] vs.size (fun i v => vs[i]? = some v) (fun i h => itK k h it a i ∧ cnK k h a vs) := by
  cases k with
  | true => exact Draws.tuple hh it a hne vs
  | false => exact Draws.list hh it a hne vs
section
variable {X : Cx} {pins : List (Addr × Obj)} {σ : L2.St} {H : Hp} {s : Shared} {k : Bool} {a : Addr} {xs ys : List V}
theorem inv_sqK (I : Inv X pins σ H s) (h : sqK k X.K H a xs) : ∃ its : List Value, Vals xs its ∧ cnK k s.heap a its.toArray := by
  cases k with
  | true => obtain ⟨its, r, p, _⟩ := I.tuple h; exact ⟨its, r, p⟩
  | false => obtain ⟨its, r, p, _⟩ := I.list h; exact ⟨its, r, p.isList⟩
theorem inj_sqK (I : Inv X pins σ H s) (h : sqK k X.K H a xs) (h' : sqK k X.K H a ys) : xs = ys := by
  cases k with
  | true => exact I.tuple_inj h h'
  | false => exact I.list_inj h h'
end
/-! ### zip -/
def ItM (K : FK) (k1 k2 : Bool) (a b : Addr) : It :=
  ⟨fun i H => ∃ (xs ys : List V) (x y : V), sqK k1 K H a xs ∧ sqK k2 K H b ys ∧ xs[i]? = some x ∧ ys[i]? = some y,
   fun i H v H' => ∃ T x y, v = .ref T ∧ H T = none ∧ H' = upd H T (.tup [x, y]) ∧ (∀ xs, sqK k1 K H a xs → xs[i]? = some x) ∧ ∀ ys, sqK k2 K H b ys → ys[i]? = some y,
   fun i H => ∃ xs ys : List V, sqK k1 K H a xs ∧ sqK k2 K H b ys ∧ i ≤ xs.length ∧ i ≤ ys.length ∧ (i = xs.length ∨ i = ys.length)⟩
def tnM (k1 k2 : Bool) (z TI TO i1 i2 a b : Addr) (i : Nat) (h : Heap) : Prop :=
  IsZip h z TI TO .none ∧ IsTupOf2 h TI (.ref i1) (.ref i2) ∧ (∃ x y, IsTupOf2 h TO x y) ∧ itK k1 h i1 a i ∧ itK k2 h i2 b i
theorem turnM {P : Program} {w : World} {K : FK} {elts : List Expr} {kk : Nat} {tpos : Pos} {k1 k2 : Bool} {a b z TI TO i1 i2 : Addr} (S : ZipSep2 z TI TO i1 i2 [i1, a] [i2, b]) (n1 : a ≠ i1) (n2 : b ≠ i2) :
    Turn P w K (.Tuple elts kk tpos) (ItM K k1 k2 a b) [z, TI, TO, i1, i2] z (tnM k1 k2 z TI TO i1 i2 a b) where
  mem := by simp
  obj := fun i h st c hc => by
    obtain ⟨hz, hI, ⟨x, y, hO⟩, h1, h2⟩ := st
    simp only [List.mem_cons, List.not_mem_nil, or_false] at hc
    rcases hc with rfl | rfl | rfl | rfl | rfl
    · exact ⟨_, hz, fun v q => nomatch q⟩
    · exact ⟨_, hI, fun v q => nomatch q⟩
    · exact ⟨_, hO, fun v q => nomatch q⟩
    · exact itK_ob k1 h1
    · exact itK_ob k2 h2
  keep := fun i h h' st q => by
    obtain ⟨hz, hI, ⟨x, y, hO⟩, h1, h2⟩ := st
    exact ⟨q z (by simp) _ hz, q TI (by simp) _ hI, ⟨x, y, q TO (by simp) _ hO⟩, itK_at k1 h1 fun o e => q i1 (by simp) o e, itK_at k2 h2 fun o e => q i2 (by simp) o e⟩
  item := by
    intro X hP hw hK hc i pins s σ H E I hf st hg
    subst hP hw hK
    obtain ⟨hz, hI, ⟨x0, y0, hO⟩, h1, h2⟩ := st
    obtain ⟨xs, ys, x, y, qx, qy, ex, ey⟩ := hg
    obtain ⟨us, rv, p⟩ := inv_sqK I qx
    obtain ⟨ws, rv2, p2⟩ := inv_sqK I qy
    obtain ⟨u, hu, ru⟩ := rv.get ex
    obtain ⟨u2, hu2, ru2⟩ := rv2.get ey
    have lt1 : i < us.toArray.size := by have := (List.getElem?_eq_some_iff.mp hu).1; simpa using this
    have lt2 : i < ws.toArray.size := by have := (List.getElem?_eq_some_iff.mp hu2).1; simpa using this
    have zl : z < s.heap.objs.size := Heap.lt_size hz
    have hh : X.A.in1.handled = none := I.ok.hd hc
    refine wpAny_pyNext_zipD2_item S (drawK k1 hh i1 a n1 us.toArray) (drawK k2 hh i2 b n2 ws.toArray) hz hI hO ⟨h1, p⟩ ⟨h2, p2⟩ lt1 lt2 fun v1 v2 h' tk e1 e2 z' O' s1' s2' hT hsz hk => ?_
    have e1' : v1 = u := by simp [hu] at e1; exact e1.symm
    have e2' : v2 = u2 := by simp [hu2] at e2; exact e2.symm
    subst e1' e2'
    refine ⟨_, rfl, wpAny_letOwnedTupleGo_zip (s := { s with heap := h', toks := tk }) z' fun h2' z'' sb => ?_⟩
    have hT2 : h2'.get? s.heap.objs.size = some { cls := .type "tuple", data := .seq #[v1, v2] } := (sb.2 _ (Nat.ne_of_gt zl)).trans hT
    have new : ObjOk X.prog X.w (upd H s.heap.objs.size (.tup [x, y])) h2' s.heap.objs.size (.tup [x, y]) := ⟨show 2 ≤ sizeLine by decide, [v1, v2], .cons ru (.cons ru2 .nil), ⟨_, hT2, rfl, _, rfl⟩⟩
    have ch : ∀ c, c ∉ [z, TI, TO, i1, i2] → c ≠ z ∧ c ≠ TO ∧ c ≠ i1 ∧ c ≠ i2 := fun c hn => by
      simp only [List.mem_cons, List.not_mem_nil, or_false, not_or] at hn
      exact ⟨hn.1, hn.2.2.1, hn.2.2.2.1, hn.2.2.2.2⟩
    have J : Inv X pins σ (upd H s.heap.objs.size (.tup [x, y])) { s with heap := h2', toks := tk } := I.turnedNew (t' := tk) (ch := [z, TI, TO, i1, i2]) (fun c o hn q => by
      obtain ⟨c1, c2, c3, c4⟩ := ch c hn
      exact (sb.2 c c1).trans (hk c o c1 c2 c3 c4 q)) hf (Nat.le_refl _) new
    refine ⟨.ref s.heap.objs.size, _, J, rfl, ⟨_, x, y, rfl, I.hok.fresh (Nat.le_refl _), rfl, fun l hl => by rw [inj_sqK I hl qx]; exact ex, fun l hl => by rw [inj_sqK I hl qy]; exact ey⟩, ⟨z'', ?_, ⟨v1, v2, ?_⟩, ?_, ?_⟩, fun c hm => ?_⟩
    · exact (sb.2 _ S.TIz).trans (hk _ _ S.TIz S.TITO S.TIi1 S.TIi2 hI)
    · exact (sb.2 _ S.TOz).trans O'
    · exact itK_at k1 s1'.1 fun o q => (sb.2 _ S.zi1.symm).trans q
    · exact itK_at k2 s2'.1 fun o q => (sb.2 _ S.zi2.symm).trans q
    · have lt : c < s.heap.objs.size := by
        simp only [List.mem_cons, List.not_mem_nil, or_false] at hm
        rcases hm with rfl | rfl | rfl | rfl | rfl
        · exact zl
        · exact Heap.lt_size hI
        · exact Heap.lt_size hO
        · obtain ⟨o, e, _⟩ := itK_ob k1 h1; exact Heap.lt_size e
        · obtain ⟨o, e, _⟩ := itK_ob k2 h2; exact Heap.lt_size e
      rw [upd_ne (Nat.ne_of_lt lt)]
      exact (hf c hm).1
  done := by
    intro X hP hw hK hc i pins s σ H E I hf st hg
    subst hP hw hK
    obtain ⟨hz, hI, ⟨x0, y0, hO⟩, h1, h2⟩ := st
    obtain ⟨xs, ys, qx, qy, l1, l2, l3⟩ := hg
    obtain ⟨us, rv, p⟩ := inv_sqK I qx
    obtain ⟨ws, rv2, p2⟩ := inv_sqK I qy
    have v1 := rv.length
    have v2 := rv2.length
    have hh : X.A.in1.handled = none := I.ok.hd hc
    refine wpAny_pyNext_zipD2_end S (drawK k1 hh i1 a n1 us.toArray) (drawK k2 hh i2 b n2 ws.toArray) hz hI hO ⟨h1, p⟩ ⟨h2, p2⟩ (by simp; omega) (by simp; omega) (by simp; omega) fun h' tk hk => ⟨rfl, I.turnedL (t' := tk) (ch := [z, TI, TO, i1, i2]) (fun c o hn q => ?_) hf⟩
    simp only [List.mem_cons, List.not_mem_nil, or_false, not_or] at hn
    exact hk c o hn.1 hn.2.2.1 hn.2.2.2.1 hn.2.2.2.2 q
  self := fun A i s Q E st h => wpAny_pyIter_zip st.1 h
def iZipK (K : FK) (ta : TA) : TI := fun σ H R => ta σ H fun vs H1 => ∃ k1 k2 a b xs ys, vs = [.ref a, .ref b] ∧ sqK k1 K H1 a xs ∧ sqK k2 K H1 b ys ∧ R (ItM K k1 k2 a b) H1
theorem pi_zipK {X : Cx} {e e2 : Expr} {ta : TA} {p pos tpos : Pos} {elts : List Expr} {kk : Nat} (hg : Gl X "zip") (hm : X.mg "zip" = none) (ha : PA X [e, e2] ta)
    (hst : starEach [e, e2] X.env = (false, eval e X.env) :: starEach [e2] X.env := by rfl) (hpn : (backTo pos (starEach [e2] X.env)).any (·.1) = false := by rfl) : PI X (.Tuple elts kk tpos) (.Call (.Name "zip" p) [e, e2] [] pos) (iZipK X.K ta) := by
  refine ⟨fun pins s σ H R I h => Call_ (ld_blt I hg hm PyProof.Rows.boot_zip (PyProof.Rows.callWith_type1 (thn (ha.run pos pins s σ H _ I h) fun us s1 ⟨vs, H1, J, r1, q1⟩ => ?_) hst hpn))⟩
  obtain ⟨k1, k2, a, b, xs, ys, rfl, qx, qy, q⟩ := q1
  cases r1 with
  | cons r rr =>
    cases rr with
    | cons r' rr =>
      cases rr
      cases r
      cases r'
      obtain ⟨us, rv, c1⟩ := inv_sqK J qx
      obtain ⟨ws, rv2, c2⟩ := inv_sqK J qy
      have la := cnK_lt k1 c1
      have lb := cnK_lt k2 c2
      refine zip_begins2 (begK k1 a us.toArray) (begK k2 b ws.toArray) c1 c2 fun h' hz hI hO e1 e2 hsz hk => wpAny_pyIter_zip hz ?_
      have J2 : Inv X pins σ H1 { s1 with heap := h' } := J.kept (t' := s1.toks) hk
      refine ⟨s1.heap.objs.size + 4, [s1.heap.objs.size + 4, s1.heap.objs.size + 2, s1.heap.objs.size + 3, s1.heap.objs.size, s1.heap.objs.size + 1], _, _, H1, rfl, J2, turnM (zip_sep2 (fp1 := [a]) (fp2 := [b]) (fun c h => by rw [List.mem_singleton.mp h]; exact la) (fun c h => by rw [List.mem_singleton.mp h]; exact lb)) (Nat.ne_of_lt la) (Nat.ne_of_lt (Nat.lt_succ_of_lt lb)), ⟨hz, hI, ⟨_, _, hO⟩, itK_0 k1 e1, itK_0 k2 e2⟩, fun c hc => ?_, q⟩
      have hle : s1.heap.objs.size ≤ c := by
        simp only [List.mem_cons, List.not_mem_nil, or_false] at hc
        rcases hc with rfl | rfl | rfl | rfl | rfl
        · exact Nat.le_add_right _ _
        · exact Nat.le_add_right _ _
        · exact Nat.le_add_right _ _
        · exact Nat.le_refl _
        · exact Nat.le_add_right _ _
      exact J.fpOk hle (J.hok.fresh hle)
/-! ### enumerate -/
theorem enum_newB {v : Value} {o : Obj} {H : Heap → Prop} (B : Begins v o H) : Meets (Builtin.«enumerate.__new__» ⟨[.type "enumerate", v], []⟩) (fun _ R s => H s.heap ∧
    R (.ok (.ret (.ref (s.heap.push o).objs.size))) { s with heap := (s.heap.push o).push { cls := .type "enumerate", data := .fields #[.none, .bool false, .ref s.heap.objs.size, rawInt 0, .none, .none] } }) :=
  .of_wp fun prog w A R st hyp => by
    obtain ⟨hp, gn, dr, tk, os⟩ := st; obtain ⟨hH, hR⟩ := hyp
    have hsub := sub_enumerate
    have beg : ∀ {A' : Around} {E' : Value → Shared → Prop} {Q' : Value → Shared → Prop}, Q' (.ref hp.objs.size) ⟨hp.push o, gn, dr, tk, os⟩ → wpAny (model prog w) A' (pyIter v) Q' E' ⟨hp, gn, dr, tk, os⟩ := fun q => B.iter prog w _ _ ⟨hp, gn, dr, tk, os⟩ _ hH q
    wp_walk using beg
    refine wpAny_stack_any fun stk => wpAny_pure ?_
    split
    · rename_i c _ _ _ _ _
      cases (c == Value.type "enumerate") <;> (wp_walk using beg; exact ⟨_, rfl, hR⟩)
    · wp_walk using beg
      exact ⟨_, rfl, hR⟩
theorem call_enumB {prog : Program} {w : World} {A : Around} {E : Value → Shared → Prop} {s : Shared} {v : Value} {o : Obj} {H : Heap → Prop} {Q : Value → Shared → Prop} (B : Begins v o H) (h1 : H s.heap)
    (hQ : ∀ h2, IsEnum h2 (s.heap.objs.size + 1) s.heap.objs.size 0 .none → h2.get? s.heap.objs.size = some o → (∀ c u, s.heap.get? c = some u → h2.get? c = some u) → Q (.ref (s.heap.objs.size + 1)) { s with heap := h2 }) :
    wpAny (model prog w) A (call (.type "enumerate") [v]) Q E s := by
  refine callType_new F.called_enumerate (by decide) (F.typeCall_enumerate_1 _) (F.newCall_enumerate_1 _) (fun ob => F.args_object_init_2 ob _) F.entry_enumerate_new (enum_newB B) ⟨h1, ?_⟩
  have sz : (s.heap.push o).objs.size = s.heap.objs.size + 1 := Heap.size_push ..
  show _ ∧ _
  rw [sz]
  have he : IsEnum ((s.heap.push o).push { cls := .type "enumerate", data := .fields #[.none, .bool false, .ref s.heap.objs.size, rawInt 0, .none, .none] }) (s.heap.objs.size + 1) s.heap.objs.size 0 .none := by
    have q := Heap.get?_push_size (s.heap.push o) (o := { cls := .type "enumerate", data := .fields #[.none, .bool false, .ref s.heap.objs.size, rawInt 0, .none, .none] }) rfl
    rw [sz] at q
    exact q
  exact ⟨⟨_, he, rfl⟩, hQ _ he (Heap.get?_push_of_some _ (Heap.get?_push_size _ B.free)) fun c u x => Heap.get?_push_of_some _ (Heap.get?_push_of_some _ x)⟩
def IeM (K : FK) (k : Bool) (a : Addr) : It :=
  ⟨fun i H => ∃ (xs : List V) (x : V), sqK k K H a xs ∧ xs[i]? = some x,
   fun i H v H' => ∃ T x, v = .ref T ∧ H T = none ∧ H' = upd H T (.tup [.int (i : Nat), x]) ∧ ∀ xs, sqK k K H a xs → xs[i]? = some x,
   fun i H => ∃ xs : List V, sqK k K H a xs ∧ i = xs.length⟩
theorem turnE {P : Program} {w : World} {K : FK} {elts : List Expr} {kk : Nat} {tpos : Pos} {k : Bool} {a e it : Addr} (n1 : a ≠ it) (n2 : e ≠ it) (n3 : e ≠ a) :
    Turn P w K (.Tuple elts kk tpos) (IeM K k a) [e, it] e (fun i h => (∃ old, IsEnum h e it ((i : Nat) : Int) old) ∧ itK k h it a i) where
  mem := by simp
  obj := fun i h st c hc => by
    obtain ⟨⟨old, he⟩, h1⟩ := st
    simp only [List.mem_cons, List.not_mem_nil, or_false] at hc
    rcases hc with rfl | rfl
    · exact ⟨_, he, fun v q => nomatch q⟩
    · exact itK_ob k h1
  keep := fun i h h' st q => ⟨let ⟨old, he⟩ := st.1; ⟨old, q e (by simp) _ he⟩, itK_at k st.2 fun o z => q it (by simp) o z⟩
  item := by
    intro X hP hw hK hc i pins s σ H E I hf st hg
    subst hP hw hK
    obtain ⟨⟨old, he⟩, h1⟩ := st
    obtain ⟨xs, x, qx, ex⟩ := hg
    obtain ⟨us, rv, p⟩ := inv_sqK I qx
    obtain ⟨u, hu, ru⟩ := rv.get ex
    have lt1 : i < us.toArray.size := by have := (List.getElem?_eq_some_iff.mp hu).1; simpa using this
    have el : e < s.heap.objs.size := Heap.lt_size he
    have hh : X.A.in1.handled = none := I.ok.hd hc
    refine wpAny_pyNext_enum_itemD (drawK k hh it a n1 us.toArray) he ⟨h1, p⟩ lt1 n2 (by simp [n2, n3]) fun v1 h' tk e1 ho st' hT hsz hk => ?_
    have e1' : v1 = u := by simp [hu] at e1; exact e1.symm
    subst e1'
    refine ⟨_, rfl, wpAny_letOwnedTupleGo_enum (s := { s with heap := h', toks := tk + 1 }) ho fun h2' he' sb => ?_⟩
    have hT2 : h2'.get? s.heap.objs.size = some { cls := .type "tuple", data := .seq #[.int i tk, v1] } := (sb.2 _ (Nat.ne_of_gt el)).trans hT
    have new : ObjOk X.prog X.w (upd H s.heap.objs.size (.tup [.int (i : Nat), x])) h2' s.heap.objs.size (.tup [.int (i : Nat), x]) := ⟨show 2 ≤ sizeLine by decide, [.int i tk, v1], .cons ⟨_, rfl⟩ (.cons ru .nil), ⟨_, hT2, rfl, _, rfl⟩⟩
    have J : Inv X pins σ (upd H s.heap.objs.size (.tup [.int (i : Nat), x])) { s with heap := h2', toks := tk + 1 } := I.turnedNew (t' := tk + 1) (ch := [e, it]) (fun c o hn q => by
      simp only [List.mem_cons, List.not_mem_nil, or_false, not_or] at hn
      exact (sb.2 c hn.1).trans (hk c o hn.1 hn.2 q)) hf (Nat.le_refl _) new
    refine ⟨.ref s.heap.objs.size, _, J, rfl, ⟨_, x, rfl, I.hok.fresh (Nat.le_refl _), rfl, fun l hl => by rw [inj_sqK I hl qx]; exact ex⟩, ⟨⟨v1, ?_⟩, itK_at k st'.1 fun o q => (sb.2 _ n2.symm).trans q⟩, fun c hm => ?_⟩
    · rw [show ((i + 1 : Nat) : Int) = (i : Int) + 1 by omega]
      exact he'
    · have lt : c < s.heap.objs.size := by
        simp only [List.mem_cons, List.not_mem_nil, or_false] at hm
        rcases hm with rfl | rfl
        · exact el
        · obtain ⟨o, z, _⟩ := itK_ob k h1; exact Heap.lt_size z
      rw [upd_ne (Nat.ne_of_lt lt)]
      exact (hf c hm).1
  done := by
    intro X hP hw hK hc i pins s σ H E I hf st hg
    subst hP hw hK
    obtain ⟨⟨old, he⟩, h1⟩ := st
    obtain ⟨xs, qx, l1⟩ := hg
    obtain ⟨us, rv, p⟩ := inv_sqK I qx
    have v1 := rv.length
    have hh : X.A.in1.handled = none := I.ok.hd hc
    have ei : i = us.toArray.size := by simp; omega
    subst ei
    obtain ⟨f0, f1, f2, f3, f4, f5⟩ := hf it (by simp)
    exact wpAny_pyNext_enum_endD (drawK k hh it a n1 us.toArray) he ⟨h1, p⟩ fun h' eb => ⟨rfl, I.turned (t' := s.toks) (fun c o hb q => eb c o hb q) f0 f1 f3 f4 f5⟩
  self := fun A i s Q E st h => let ⟨⟨_, he⟩, _⟩ := st; wpAny_pyIter_enum he h
def iEnumK (K : FK) (ta : TA) : TI := fun σ H R => ta σ H fun vs H1 => ∃ k a xs, vs = [.ref a] ∧ sqK k K H1 a xs ∧ R (IeM K k a) H1
theorem pi_enumK {X : Cx} {e : Expr} {ta : TA} {p pos tpos : Pos} {elts : List Expr} {kk : Nat} (hg : Gl X "enumerate") (hm : X.mg "enumerate" = none) (ha : PA X [e] ta) (hst : starEach [e] X.env = [(false, eval e X.env)] := by rfl) : PI X (.Tuple elts kk tpos) (.Call (.Name "enumerate" p) [e] [] pos) (iEnumK X.K ta) := by
  refine ⟨fun pins s σ H R I h => Call_ (ld_blt I hg hm boot_enumerate (PyProof.Rows.callWith_type1 (thn (ha.run pos pins s σ H _ I h) fun us s1 ⟨vs, H1, J, r1, q1⟩ => ?_) hst rfl))⟩
  obtain ⟨k, a, xs, rfl, qx, q⟩ := q1
  cases r1 with
  | cons r rr =>
    cases rr
    cases r
    obtain ⟨us, rv, c1⟩ := inv_sqK J qx
    have la := cnK_lt k c1
    refine call_enumB (begK k a us.toArray) c1 fun h' he e1 hk => wpAny_pyIter_enum he ?_
    have J2 : Inv X pins σ H1 { s1 with heap := h' } := J.kept (t' := s1.toks) hk
    refine ⟨s1.heap.objs.size + 1, [s1.heap.objs.size + 1, s1.heap.objs.size], _, _, H1, rfl, J2, turnE (Nat.ne_of_lt la) (Nat.succ_ne_self _) (Nat.ne_of_gt (Nat.lt_succ_of_lt la)), ⟨⟨.none, he⟩, itK_0 k e1⟩, fun c hc => ?_, q⟩
    have hle : s1.heap.objs.size ≤ c := by
      simp only [List.mem_cons, List.not_mem_nil, or_false] at hc
      rcases hc with rfl | rfl
      · exact Nat.le_add_right _ _
      · exact Nat.le_refl _
    exact J.fpOk hle (J.hok.fresh hle)
/-! ### their data -/
section
variable {Γ : Cn} {L : LS} {c : Nat} {tA : TA} {dA : DA} {rA : RA}
def sqD : D → Option (List D)
  | .lst xs => some xs
  | .tup xs => some xs
  | _ => none
theorem sq_of {G : Hp} {v : V} {d : D} {ds : List D} (r : Rep Γ L G v d) (h : sqD d = some ds) : ∃ (k : Bool) (a : Addr) (xs : List V), v = .ref a ∧ RepL Γ L G xs ds ∧ ds.length ≤ LIM ∧ ∀ (G2 H2 : Hp), Ex G G2 → Exf G2 H2 → sqK k Γ.K H2 a xs := by
  cases r with
  | lst hg rl z => cases h; exact ⟨false, _, _, rfl, rl, z, fun G2 H2 g x2 => x2.sl (SqL.of (g _ _ hg))⟩
  | tup hg rl z => cases h; exact ⟨true, _, _, rfl, rl, z, fun G2 H2 g x2 => (x2.tp (g.tp hg)).sq⟩
  | _ => cases h
def enumKD : List D → Option (List D)
  | [d] => (sqD d).map fun xs => (List.range xs.length).zipWith (fun (i : Nat) x => D.tup [.int i, x]) xs
  | _ => none
def zipKD : List D → Option (List D)
  | [d, e] => (sqD d).bind fun xs => (sqD e).map fun ys => xs.zipWith (fun x y => D.tup [x, y]) ys
  | _ => none
def dEnumK (a : DA) : DI := fun δ P => a δ fun ds => match enumKD ds with
  | some xs => P xs
  | none => False
def dZipK (a : DA) : DI := fun δ P => a δ fun ds => match zipKD ds with
  | some xs => P xs
  | none => False
def rEnumK (a : RA) : RA := fun δ => (a δ).bind enumKD
def rZipK (a : RA) : RA := fun δ => (a δ).bind zipKD
theorem a_enumK (ha : AgA dA rA) : AgA (dEnumK dA) (rEnumK rA) := fun δ z P h p => by
  obtain ⟨x, h1, h⟩ := bnd h
  refine ha δ x _ h1 ?_
  rw [h]
  exact p
theorem a_zipK (ha : AgA dA rA) : AgA (dZipK dA) (rZipK rA) := fun δ z P h p => by
  obtain ⟨x, h1, h⟩ := bnd h
  refine ha δ x _ h1 ?_
  rw [h]
  exact p
theorem s_enumK (h : SA Γ L 1 c tA dA) {kp : Addr → Prop} : SI Γ L kp c (iEnumK Γ.K tA) (dEnumK dA) := fun t σ δ B G H l x e hc P hp R k => by
  refine h t σ δ B G H l x e hc _ hp _ fun vs ds G1 H1 a1 r1 hl q => ?_
  split at q
  · rename_i items hi
    cases r1 with
    | nil => cases hi
    | cons r1 rr =>
      cases rr with
      | cons _ _ => cases hi
      | nil =>
        obtain ⟨xs, hx, rfl⟩ := Option.map_eq_some_iff.mp hi
        obtain ⟨kd, a, ys, rfl, rl, z, sq⟩ := sq_of r1 hx
        have hlen := rl.len
        refine ⟨kd, a, ys, rfl, sq G1 H1 Ex.rfl' a1.gh, k _ _ G1 H1 a1 ⟨?_, fun i G2 H2 hi g x2 _ => ?_, fun G2 H2 g x2 _ => ⟨ys, sq G2 H2 g x2, ?_⟩, fun u i v d G2 H2 H3 hd l2 g x2 _ y => ?_⟩ q⟩
        · rw [List.length_zipWith, List.length_range]; omega
        · rw [List.length_zipWith, List.length_range] at hi
          exact ⟨ys, ys[i]'(by omega), sq G2 H2 g x2, by simp⟩
        · rw [List.length_zipWith, List.length_range]; omega
        · obtain ⟨T, w, rfl, nT, rfl, hw⟩ := y
          have hw := hw ys (sq G2 H2 g x2)
          rw [rng_zip] at hd
          obtain ⟨d0, h0, rfl⟩ := Option.map_eq_some_iff.mp hd
          obtain ⟨w2, hw2, rw2⟩ := rl.at_ h0
          rw [hw] at hw2
          cases hw2
          have a3 := At.new (o := .tup [.int (i : Nat), w]) x2 l2 nT
          exact ⟨_, a3, .tup (.inl upd_same) (.cons (.int _) (.cons (rw2.up (g.tr a3.gg)) .nil)) (show 2 ≤ LIM by decide)⟩
  · exact q.elim
theorem s_zipK (h : SA Γ L 2 c tA dA) {kp : Addr → Prop} : SI Γ L kp c (iZipK Γ.K tA) (dZipK dA) := fun t σ δ B G H l x e hc P hp R k => by
  refine h t σ δ B G H l x e hc _ hp _ fun vs ds G1 H1 a1 r1 hl q => ?_
  split at q
  · rename_i items hi
    cases r1 with
    | nil => cases hi
    | cons r1 rr =>
      cases rr with
      | nil => cases hi
      | cons r2 rr =>
        cases rr with
        | cons _ _ => cases hi
        | nil =>
          obtain ⟨xs, hx, hi⟩ := bnd hi
          obtain ⟨ys, hy, rfl⟩ := Option.map_eq_some_iff.mp hi
          obtain ⟨k1, a, us, rfl, rl, z, sq⟩ := sq_of r1 hx
          obtain ⟨k2, b, ws, rfl, rl2, z2, sq2⟩ := sq_of r2 hy
          have hlen := rl.len
          have hlen2 := rl2.len
          refine ⟨k1, k2, a, b, us, ws, rfl, sq G1 H1 Ex.rfl' a1.gh, sq2 G1 H1 Ex.rfl' a1.gh, k _ _ G1 H1 a1 ⟨?_, fun i G2 H2 hi g x2 _ => ?_, fun G2 H2 g x2 _ => ⟨us, ws, sq G2 H2 g x2, sq2 G2 H2 g x2, ?_⟩, fun u i v d G2 H2 H3 hd l2 g x2 _ y => ?_⟩ q⟩
          · rw [List.length_zipWith]; omega
          · rw [List.length_zipWith] at hi
            exact ⟨us, ws, us[i]'(by omega), ws[i]'(by omega), sq G2 H2 g x2, sq2 G2 H2 g x2, by simp, by simp⟩
          · rw [List.length_zipWith]; omega
          · obtain ⟨T, w, w', rfl, nT, rfl, hw, hw'⟩ := y
            have hw := hw us (sq G2 H2 g x2)
            have hw' := hw' ws (sq2 G2 H2 g x2)
            obtain ⟨d0, h0, r0⟩ := rl.at' hw
            obtain ⟨d1, h1, r1'⟩ := rl2.at' hw'
            rw [List.getElem?_zipWith, h0, h1] at hd
            cases hd
            have a3 := At.new (o := .tup [w, w']) x2 l2 nT
            exact ⟨_, a3, .tup (.inl upd_same) (.cons (r0.up (g.tr a3.gg)) (.cons (r1'.up (g.tr a3.gg)) .nil)) (show 2 ≤ LIM by decide)⟩
  · exact q.elim
end
/-! ### lending an owned thing to a test that reads further slots -/
section
variable {Γ : Cn} {L : LS} {tt : TT} {dt : DT} {rt : RT}
def okNs (δ : DS) : Bool := δ.all fun s => match s with
  | none => true
  | some (.sh d) => nsD 6 d
  | some (.ow _) => false
theorem wipeD_at {δ : DS} {j : Nat} {s : Sl} : ∀ {vs : List Nat}, (wipeD δ vs)[j]? = some (some s) → δ[j]? = some (some s)
  | [], h => h
  | v :: vs, h => by
    rw [wipeD, List.getElem?_set] at h
    by_cases e : v = j
    · subst e
      rw [if_pos rfl] at h
      split at h <;> cases h
    · rw [if_neg e] at h
      exact wipeD_at h
theorem wipeD_len (δ : DS) : ∀ vs : List Nat, (wipeD δ vs).length = δ.length
  | [] => rfl
  | v :: vs => by rw [wipeD, List.length_set, wipeD_len δ vs]
def dLendW (i : Nat) (vs : List Nat) (t : DT) : DT := fun δ P => match δ[i]? with
  | some (some (.ow d)) => okNs (wipeD (δ.set i (some (.sh d))) vs) = true ∧ t (wipeD (δ.set i (some (.sh d))) vs) P
  | _ => False
theorem s_lendW (i : Nat) (vs : List Nat) (h : SB Γ none 0 tt dt) : SB Γ L 0 tt (dLendW i vs dt) := fun t σ δ B G H l x e hc P hp Q k => by
  unfold dLendW at hp
  split at hp
  · rename_i d hd
    obtain ⟨p, hv, o, hb, hg, hn⟩ := e.ow i d hd
    obtain ⟨hns, hp⟩ := hp
    have nsj : ∀ (j : Nat) (s : Sl), (wipeD (δ.set i (some (.sh d))) vs)[j]? = some (some s) → ∃ d', s = .sh d' ∧ nsD 6 d' = true := fun j s hj => by
      have hm := List.mem_of_getElem? hj
      have := List.all_eq_true.mp hns _ hm
      cases s with
      | sh d' => exact ⟨d', rfl, this⟩
      | ow d' => cases this
    have key : ∀ u, H p = some u → Rep Γ L (upd G p u) (.ref p) d → tt σ H Q := fun u hu r => by
      have hx : Exf (upd G p u) H := fun a w z => by
        by_cases y : a = p
        · subst y; rw [upd_same] at z; cases z; exact .inl hu
        · rw [upd_ne y] at z; exact x a w z
      have he : Env Γ none B (upd G p u) H σ (wipeD (δ.set i (some (.sh d))) vs) := by
        refine ⟨fun j d' hj => ?_, fun j d' hj => ?_, fun j m d1 d2 q hjm h1 h2 _ _ => ?_, ?_⟩
        · obtain ⟨d2, e2, n2⟩ := nsj j _ hj
          cases e2
          have hj' := wipeD_at hj
          by_cases z : i = j
          · subst z
            rw [List.getElem?_set] at hj'
            by_cases l : i < δ.length
            · simp [l] at hj'; subst hj'; exact ⟨_, hv, rep_ns 6 r n2⟩
            · simp [l] at hj'
          · rw [List.getElem?_set_ne z] at hj'
            obtain ⟨v, hv', r'⟩ := e.sh j d' hj'
            exact ⟨v, hv', rep_ns 6 (r'.up (Ex.new hg)) n2⟩
        · obtain ⟨d2, e2, _⟩ := nsj j _ hj
          cases e2
        · obtain ⟨d3, e3, _⟩ := nsj j _ h1
          cases e3
        · rw [wipeD_len, List.length_set]
          exact e.len
      refine h t σ _ B (upd G p u) H (fun _ _ z => by cases z) hx he hc P hp Q fun b G3 H3 a3 q3 => ?_
      exact k b (del G3 p) H3 (lend_at l hg hu hn a3) q3
    cases o with
    | lst hl r z => exact key _ hl (.lst upd_same (r.up (Ex.new hg)) z)
    | dct hl r z => exact key _ hl (.dct upd_same (r.up (Ex.new hg)) z)
  · exact hp.elim
def rLendW (i : Nat) (vs : List Nat) (t : RT) : RT := fun δ => match δ[i]? with
  | some (some (.ow d)) => if okNs (wipeD (δ.set i (some (.sh d))) vs) = true then t (wipeD (δ.set i (some (.sh d))) vs) else none
  | _ => none
theorem a_lendW {i : Nat} {vs : List Nat} (ht : AgT dt rt) : AgT (dLendW i vs dt) (rLendW i vs rt) := fun δ z P h p => by
  unfold rLendW at h
  split at h
  · rename_i d hd
    split at h
    · rename_i hns
      unfold dLendW
      rw [hd]
      exact ⟨hns, ht _ z P h p⟩
    · cases h
  · cases h
end
end GP

set_option Elab.async false
set_option linter.all false
set_option maxRecDepth 100000
set_option maxHeartbeats 400000
/-! G29: dicts compared where they are alike; list(d.items()); d.clear() of an owned dict. -/
namespace GP
open PySem PySem.Spec PyProof.Rows L2
section
variable {X : Cx}
/-- what two like dicts are known by -/
def LikeD (H : Hp) (x y : V) : Prop := ∃ a b ks ls, x = .ref a ∧ y = .ref b ∧ Rd H a (.dK ks) ∧ Rd H b (.dK ls) ∧ ks.length = ls.length ∧ ∀ p ∈ ks, valV ls p.1 = some p.2 ∧ flatB p.2 = true
def gEqD : R2 := fun x y H Q => LikeD H x y ∧ Q (.bl true) H
def gNeD : R2 := fun x y H Q => LikeD H x y ∧ Q (.bl false) H
theorem g_eqD (un : X.A.units < cLine) : OpR X (compareOp .Eq) gEqD := fun pins s σ H x y v u Q I rx ry h => by
  obtain ⟨⟨a, b, ks, ls, rfl, rfl, ha, hb, le, al⟩, fin⟩ := h
  cases rx
  cases ry
  obtain ⟨_, la, ua, pa, da⟩ := (show ObjOk X.prog X.w H s.heap a (.dK ks) from ha.ok I.hok)
  obtain ⟨_, lb, ub, pb, db⟩ := (show ObjOk X.prog X.w H s.heap b (.dK ls) from hb.ok I.hok)
  have e : ua.length = ub.length := by have h1 := pa.length; have h2 := pb.length; omega
  exact PySem.W.keq_eq (knd := mixKind X.prog X.w) (r := true) la lb da db un (fun _ => hits_all pb pa al) (fin_bl I fin (by simp [e]))
theorem g_neD (un : X.A.units < cLine) : OpR X (compareOp .NotEq) gNeD := fun pins s σ H x y v u Q I rx ry h => by
  obtain ⟨⟨a, b, ks, ls, rfl, rfl, ha, hb, le, al⟩, fin⟩ := h
  cases rx
  cases ry
  obtain ⟨_, la, ua, pa, da⟩ := (show ObjOk X.prog X.w H s.heap a (.dK ks) from ha.ok I.hok)
  obtain ⟨_, lb, ub, pb, db⟩ := (show ObjOk X.prog X.w H s.heap b (.dK ls) from hb.ok I.hok)
  have e : ua.length = ub.length := by have h1 := pa.length; have h2 := pb.length; omega
  exact PySem.W.keq_ne (knd := mixKind X.prog X.w) (r := true) la lb da db un (fun _ => hits_all pb pa al) (fin_bl I fin (by simp [e]))
end
/-- flat data, alike -/
def flatEq : D → D → Bool
  | .non, .non => true
  | .bl a, .bl b => a == b
  | .int a, .int b => a == b
  | .str a, .str b => a == b
  | _, _ => false
def likeD : D → D → Bool
  | .dct ks, .dct ls => decide (ks.length = ls.length) && ks.all fun p => match valD ls p.1 with
    | some d => flatEq p.2 d
    | none => false
  | _, _ => false
def fEqD (x y : D) : Option D := if likeD x y then some (.bl true) else none
def fNeD (x y : D) : Option D := if likeD x y then some (.bl false) else none
section
variable {Γ : Cn} {L : LS} {c c1 c2 n : Nat}
theorem flatEq_rep {G : Hp} {v w : V} {d e : D} (h : flatEq d e = true) (rv : Rep Γ L G v d) (rw_ : Rep Γ L G w e) : v = w ∧ flatB v = true := by
  cases d <;> cases e <;> first | (simp [flatEq] at h; done) | skip
  · cases rv; cases rw_; exact ⟨rfl, rfl⟩
  · cases rv; cases rw_; simp [flatEq] at h; subst h; exact ⟨rfl, rfl⟩
  · cases rv; cases rw_; simp [flatEq] at h; subst h; exact ⟨rfl, rfl⟩
  · cases rv; cases rw_; simp [flatEq] at h; subst h; exact ⟨rfl, rfl⟩
theorem dct_rd {G H : Hp} {v : V} {ks : List (Key × D)} (x : Exf G H) (r : RepT Γ L G H v (.dct ks)) : ∃ a us, v = .ref a ∧ Rd H a (.dK us) ∧ RepK Γ L G us ks := by
  rcases r with r | ⟨p, rfl, o, _⟩
  · cases r with
    | dct h rk z => exact ⟨_, _, rfl, x.dk h, rk⟩
  · cases o with
    | dct h rk z => exact ⟨_, _, rfl, .inl h, rk⟩
theorem RepK.mem' {G : Hp} : ∀ {us : List (Key × V)} {ks : List (Key × D)}, RepK Γ L G us ks → ∀ p ∈ us, ∃ d, (p.1, d) ∈ ks ∧ Rep Γ L G p.2 d
  | _, _, .nil, p, h => by cases h
  | _, _, .cons o r t, p, h => by
    rcases List.mem_cons.mp h with rfl | h
    · exact ⟨_, List.mem_cons_self, r⟩
    · obtain ⟨d, h1, h2⟩ := RepK.mem' t p h
      exact ⟨d, List.mem_cons_of_mem _ h1, h2⟩
theorem RepK.val' {G : Hp} {k : Key} {d : D} : ∀ {us : List (Key × V)} {ks : List (Key × D)}, RepK Γ L G us ks → valD ks k = some d → ∃ v, valV us k = some v ∧ Rep Γ L G v d
  | _, _, .nil, h => by cases h
  | _, _, .cons (k := k') (v := v) (d := d') (vs := vs) (ds := ds) o r t, h => by
    unfold valD at h
    by_cases e : k' = k
    · subst e
      rw [List.find?_cons_of_pos (by simp)] at h
      cases h
      exact ⟨v, valV_pos rfl, r⟩
    · rw [List.find?_cons_of_neg (by simpa using e)] at h
      obtain ⟨v', h1, h2⟩ := RepK.val' t h
      exact ⟨v', by rw [valV_neg e]; exact h1, h2⟩
theorem likeD_like {G H : Hp} {x y : V} {dx dy : D} (e : Exf G H) (rx : RepT Γ L G H x dx) (ry : RepT Γ L G H y dy) (h : likeD dx dy = true) : LikeD H x y := by
  cases dx <;> cases dy <;> first | (simp [likeD] at h; done) | skip
  rename_i ks ls
  obtain ⟨a, us, rfl, ha, ra⟩ := dct_rd e rx
  obtain ⟨b, ws, rfl, hb, rb⟩ := dct_rd e ry
  unfold likeD at h
  rw [Bool.and_eq_true, decide_eq_true_eq, List.all_eq_true] at h
  refine ⟨a, b, us, ws, rfl, rfl, ha, hb, by rw [ra.len, rb.len]; exact h.1, fun p hp => ?_⟩
  obtain ⟨d, hd, rd⟩ := ra.mem' p hp
  have q := h.2 _ hd
  dsimp only at q
  split at q
  · rename_i d2 h2
    obtain ⟨w, hw, rw2⟩ := rb.val' h2
    obtain ⟨e1, e2⟩ := flatEq_rep q rd rw2
    exact ⟨by rw [hw, e1], e2⟩
  · cases q
theorem o_eqD : OpS Γ L gEqD fEqD := fun t G H x y dx dy z l e rx ry hz Q k => by
  unfold fEqD at hz
  split at hz
  · rename_i h
    cases hz
    exact ⟨likeD_like e rx ry h, k _ G H (At.start e l) (.bl _)⟩
  · cases hz
theorem o_neD : OpS Γ L gNeD fNeD := fun t G H x y dx dy z l e rx ry hz Q k => by
  unfold fNeD at hz
  split at hz
  · rename_i h
    cases hz
    exact ⟨likeD_like e rx ry h, k _ G H (At.start e l) (.bl _)⟩
  · cases hz
/-! ### d.clear() -/
def dClrD (i : Nat) : DQ := fun N δ => match δ[i]? with
  | some (some (.ow (.dct _))) => N.nx (δ.set i (some (.ow (.dct []))))
  | _ => False
theorem s_clrD (i : Nat) : SS Γ L 0 (tDrop (tBM0 Γ.K "dict" rDClear (tVar i))) (dClrD i) := fun t σ δ B G0 G H a e hc N hp D E => by
  unfold dClrD at hp
  split at hp
  · rename_i xs hi
    obtain ⟨p, hv, o, hb, hg, hn⟩ := e.ow i _ hi
    cases o with
    | dct hl r z => exact ⟨.ref p, hv, .inr (.inr (.inl ⟨rfl, .inl ⟨_, hl⟩⟩)), p, _, rfl, rfl, hl, E.nx _ _ G _ (a.write hb hg hn) (e.write hi hv (.dct upd_same .nil (by decide))) hp⟩
  · exact hp.elim
def rClrD (i : Nat) : RQ := fun δ => match δ[i]? with
  | some (some (.ow (.dct _))) => some (.nx (δ.set i (some (.ow (.dct [])))))
  | _ => none
theorem a_clrD {b : Bool} {i : Nat} : AgQ b (dClrD i) (rClrD i) := fun N δ o hb h p => by
  unfold rClrD at h
  split at h
  · rename_i xs hi
    cases h
    unfold dClrD
    rw [hi]
    exact p
  · cases h
/-! ### list(d.items()) of an owned dict -/
def itsD (kvs : List (Key × D)) : List D := kvs.map fun kv => .tup [kD kv.1, kv.2]
def dItemsO (i : Nat) : DE := fun δ P => match δ[i]? with
  | some (some (.ow (.dct kvs))) => P (.lst (itsD kvs))
  | _ => False
def rItemsO (i : Nat) : RE := fun δ => match δ[i]? with
  | some (some (.ow (.dct kvs))) => some (.lst (itsD kvs))
  | _ => none
theorem a_itemsO {i : Nat} : AgE (dItemsO i) (rItemsO i) := fun δ z P h p => by
  unfold rItemsO at h
  unfold dItemsO
  split at h
  · rename_i kvs e
    cases h
    exact p
  · cases h
/-- new pairs join the stable things -/
def joinT (G H' : Hp) (ts : List Addr) : Hp := fun a => if a ∈ ts then H' a else G a
theorem joinT_in {G H' : Hp} {ts : List Addr} {a : Addr} (h : a ∈ ts) : joinT G H' ts a = H' a := if_pos h
theorem joinT_out {G H' : Hp} {ts : List Addr} {a : Addr} (h : a ∉ ts) : joinT G H' ts a = G a := if_neg h
theorem at_join {t : Nat} {G H H' : Hp} {ts : List Addr} (x : Exf G H) (l : LawAt L t G H) (k1 : ∀ b o, H b = some o → H' b = some o) (k2 : ∀ t ∈ ts, H t = none) : At L t H G (joinT G H' ts) H' where
  gg := fun a o h => by
    by_cases m : a ∈ ts
    · rw [x.none (k2 a m)] at h; cases h
    · rw [joinT_out m]; exact h
  gh := fun a o h => by
    by_cases m : a ∈ ts
    · rw [joinT_in m] at h; exact .inl h
    · rw [joinT_out m] at h
      exact (x a o h).imp (k1 a o) fun ⟨kvs, od, e, q⟩ => ⟨kvs, od, e, k1 _ _ q⟩
  bh := fun a o h _ => k1 a o h
  nw := fun a o h => by
    by_cases m : a ∈ ts
    · exact .inr (k2 a m)
    · rw [joinT_out m] at h; exact .inl h
  lw := fun q g e => by
    obtain ⟨h1, h2, h3, c1, gr, cs, lf, tn, j1, j2, j3, j4, j5, j6, j7⟩ := l q g e
    have out : ∀ {b : Addr} {o : HO}, H b = some o → b ∉ ts := fun hb m => by rw [k2 _ m] at hb; cases hb
    refine ⟨by rw [joinT_out (out j1)]; exact h1, by rw [joinT_out (out j2)]; exact h2, h3, c1, gr, cs, lf, tn, k1 _ _ j1, k1 _ _ j2, j3, j4, j5, j6, ?_⟩
    rw [joinT_out fun m => by rw [x.none (k2 _ m)] at j7; cases j7]
    exact j7
theorem items_rep {G G' H' : Hp} (ex : Ex G G') : ∀ {ts : List Addr} {us : List (Key × V)} {ks : List (Key × D)}, (∀ t ∈ ts, G' t = H' t) → Paired (fun (t : Addr) (q : Key × V) => H' t = some (.tup [kV q.1, q.2])) ts us → RepK Γ L G us ks → RepL Γ L G' (ts.map V.ref) (itsD ks)
  | _, _, _, _, .nil, .nil => .nil
  | _, _, _, h, .cons p ps, .cons o r t => .cons (.tup (.inl ((h _ List.mem_cons_self).trans p)) (by
      have kr := RepK.keys (Γ := Γ) (L := L) (G := G') (.cons o (r.up ex) .nil)
      cases kr with
      | cons a b => exact .cons a (.cons (r.up ex) .nil)) (show 2 ≤ LIM by decide)) (items_rep ex (fun t m => h t (List.mem_cons_of_mem _ m)) ps t)
theorem s_itemsO (i : Nat) : SF Γ L 0 (LiI.tListItems (tVar i)) (dItemsO i) := fun t σ δ B G H l x e hc P hp Q k => by
  unfold dItemsO at hp
  split at hp
  · rename_i kvs hi
    obtain ⟨p, hv, o, hb, hg, hn⟩ := e.ow i _ hi
    cases o with
    | dct hl r z =>
      refine ⟨.ref p, hv, p, _, rfl, hl, fun H' q ts k1 k2 k3 k4 k5 k6 => ?_⟩
      have a := at_join (L := L) (t := t) x l k1 k3
      refine k q _ (joinT G H' ts) H' a k2 (.lst k5 (items_rep a.gg (fun t m => joinT_in m) k6 r) (by unfold itsD; rw [List.length_map]; exact z)) ?_ hp
      rw [joinT_out k4]
      exact x.none k2
  · exact hp.elim
/-! ### is True, is False, of truth values -/
def fIsB : D → D → Option D
  | .bl a, .bl b => some (.bl (decide (a = b)))
  | _, _ => none
def fIsNotB : D → D → Option D
  | .bl a, .bl b => some (.bl (!decide (a = b)))
  | _, _ => none
theorem o_isB : OpS Γ L rIsB fIsB := fun t G H x y dx dy z l e rx ry hz Q k => by
  cases dx <;> cases dy <;> try (cases hz; done)
  obtain rfl := bl_of rx
  obtain rfl := bl_of ry
  cases hz
  exact ⟨_, _, rfl, rfl, k _ G H (At.start e l) (.bl _)⟩
theorem o_isNotB : OpS Γ L rNotB fIsNotB := fun t G H x y dx dy z l e rx ry hz Q k => by
  cases dx <;> cases dy <;> try (cases hz; done)
  obtain rfl := bl_of rx
  obtain rfl := bl_of ry
  cases hz
  exact ⟨_, _, rfl, rfl, k _ G H (At.start e l) (.bl _)⟩
/-! ### lending an owned thing to a call that returns a new list or dict of flat things -/
def flD : D → Bool
  | .non => true
  | .bl _ => true
  | .int _ => true
  | .str _ => true
  | _ => false
def flat1 : D → Bool
  | .lst xs => xs.all flD
  | .dct kvs => kvs.all fun kv => flD kv.2
  | _ => false
theorem rep_fl {L' : LS} {G G' : Hp} {v : V} {d : D} (h : flD d = true) (r : Rep Γ L G v d) : Rep Γ L' G' v d := by
  cases r <;> first | (simp [flD] at h; done) | constructor
  assumption
theorem repL_fl {L' : LS} {G G' : Hp} : ∀ {vs : List V} {ds : List D}, ds.all flD = true → RepL Γ L G vs ds → RepL Γ L' G' vs ds
  | _, _, _, .nil => .nil
  | _, _, h, .cons r t => by
    rw [List.all_cons, Bool.and_eq_true] at h
    exact .cons (rep_fl h.1 r) (repL_fl h.2 t)
theorem repK_fl {L' : LS} {G G' : Hp} : ∀ {vs : List (Key × V)} {ds : List (Key × D)}, (ds.all fun kv => flD kv.2) = true → RepK Γ L G vs ds → RepK Γ L' G' vs ds
  | _, _, _, .nil => .nil
  | _, _, h, .cons o r t => by
    rw [List.all_cons, Bool.and_eq_true] at h
    exact .cons o (rep_fl h.1 r) (repK_fl h.2 t)
theorem own_fl {L' : LS} {G G' H : Hp} {p : Addr} {d : D} (h : flat1 d = true) (o : OwnAt Γ L G H p d) : OwnAt Γ L' G' H p d := by
  cases o with
  | lst a r z => exact .lst a (repL_fl h r) z
  | dct a r z => exact .dct a (repK_fl h r) z
def dLendF (i : Nat) (vs : List Nat) (de : DE) : DE := fun δ P => match δ[i]? with
  | some (some (.ow d)) => okNs (wipeD (δ.set i (some (.sh d))) vs) = true ∧ de (wipeD (δ.set i (some (.sh d))) vs) fun z => flat1 z = true ∧ P z
  | _ => False
theorem s_lendF {te : TE} {de : DE} (i : Nat) (vs : List Nat) (h : SF Γ none 0 te de) : SF Γ L 0 te (dLendF i vs de) := fun t σ δ B G H l x e hc P hp Q k => by
  unfold dLendF at hp
  split at hp
  · rename_i d hd
    obtain ⟨p, hv, o, hb, hg, hn⟩ := e.ow i d hd
    obtain ⟨hns, hp⟩ := hp
    have nsj : ∀ (j : Nat) (s : Sl), (wipeD (δ.set i (some (.sh d))) vs)[j]? = some (some s) → ∃ d', s = .sh d' ∧ nsD 6 d' = true := fun j s hj => by
      have hm := List.mem_of_getElem? hj
      have := List.all_eq_true.mp hns _ hm
      cases s with
      | sh d' => exact ⟨d', rfl, this⟩
      | ow d' => cases this
    have key : ∀ u, H p = some u → Rep Γ L (upd G p u) (.ref p) d → te σ H Q := fun u hu r => by
      have hx : Exf (upd G p u) H := fun a w z => by
        by_cases y : a = p
        · subst y; rw [upd_same] at z; cases z; exact .inl hu
        · rw [upd_ne y] at z; exact x a w z
      have he : Env Γ none B (upd G p u) H σ (wipeD (δ.set i (some (.sh d))) vs) := by
        refine ⟨fun j d' hj => ?_, fun j d' hj => ?_, fun j m d1 d2 q hjm h1 h2 _ _ => ?_, ?_⟩
        · obtain ⟨d2, e2, n2⟩ := nsj j _ hj
          cases e2
          have hj' := wipeD_at hj
          by_cases z : i = j
          · subst z
            rw [List.getElem?_set] at hj'
            by_cases l : i < δ.length
            · simp [l] at hj'; subst hj'; exact ⟨_, hv, rep_ns 6 r n2⟩
            · simp [l] at hj'
          · rw [List.getElem?_set_ne z] at hj'
            obtain ⟨v, hv', r'⟩ := e.sh j d' hj'
            exact ⟨v, hv', rep_ns 6 (r'.up (Ex.new hg)) n2⟩
        · obtain ⟨d2, e2, _⟩ := nsj j _ hj
          cases e2
        · obtain ⟨d3, e3, _⟩ := nsj j _ h1
          cases e3
        · rw [wipeD_len, List.length_set]
          exact e.len
      refine h t σ _ B (upd G p u) H (fun _ _ z => by cases z) hx he hc _ hp Q fun q z G3 H3 a3 nq oq gq q3 => ?_
      refine k q z (del G3 p) H3 (lend_at l hg hu hn a3) nq (own_fl q3.1 oq) ?_ q3.2
      unfold del
      by_cases y : q = p
      · simp [y]
      · simp [y, gq]
    cases o with
    | lst hl r z => exact key _ hl (.lst upd_same (r.up (Ex.new hg)) z)
    | dct hl r z => exact key _ hl (.dct upd_same (r.up (Ex.new hg)) z)
  · exact hp.elim
def rLendF (i : Nat) (vs : List Nat) (re : RE) : RE := fun δ => match δ[i]? with
  | some (some (.ow d)) => if okNs (wipeD (δ.set i (some (.sh d))) vs) = true then (re (wipeD (δ.set i (some (.sh d))) vs)).bind fun z => if flat1 z = true then some z else none else none
  | _ => none
theorem a_lendF {i : Nat} {vs : List Nat} {de : DE} {re : RE} (ht : AgE de re) : AgE (dLendF i vs de) (rLendF i vs re) := fun δ z P h p => by
  unfold rLendF at h
  split at h
  · rename_i d hd
    split at h
    · rename_i hns
      unfold dLendF
      rw [hd]
      obtain ⟨w, hw, h⟩ := bnd h
      split at h
      · rename_i hf
        cases h
        exact ⟨hns, ht _ z _ hw ⟨hf, p⟩⟩
      · cases h
    · cases h
  · cases h
end
end GP

set_option Elab.async false
set_option linter.all false
set_option maxRecDepth 100000
set_option maxHeartbeats 400000
/-! G30: y = {k: v for ..} where the model stores before the block goes. -/
namespace GP
open PySem PySem.Spec PyProof.Rows L2
section
variable {X : Cx}
theorem ps_setDc {i : Nat} {y : Str} {py pos spos : Pos} {kx vx tg iter : Expr} {ifs : List Expr} {scope : Scope} {own : List (Str × Nat)} {wi : TI} {g : TG} {tt : TT} {tk tv : TE} (hc : X.calm = true) (hN : X.N.Nodup) (hy : X.N[i]? = some y) (hyl : X.env.scope.names.lookup y = some .local)
    (hsw : swapsWith (.DictComp kx vx [⟨tg, iter, ifs, 0⟩] scope pos) (some (.Name y py)) spos.line X.env = pure true) (hi : PI X tg iter wi) (bo : BlkOk X.N X.env.scope scope own)
    (hg : ∀ s H C cl fp, PG (X.blk s H scope (compEnvC scope cl C X.env) fp) tg g) (ht : ∀ s H C cl fp, PTs (X.blk s H scope (compEnvC scope cl C X.env) fp) ifs tt)
    (hk : ∀ s H C cl fp, PE (X.blk s H scope (compEnvC scope cl C X.env) fp) kx tk) (hv : ∀ s H C cl fp, PE (X.blk s H scope (compEnvC scope cl C X.env) fp) vx tv) (hs : ∀ x, foldedSetIterable iter X.env x = pure x := by intro _; rfl) :
    PS X (.Assign [.Name y py] (.DictComp kx vx [⟨tg, iter, ifs, 0⟩] scope pos) spos) (tAsg (tDc wi g tt tk tv (own.map (·.2))) (gName i)) := ⟨fun pins s σ H D I h => by
  have h0 : tDc wi g tt tk tv (own.map (·.2)) σ H fun x H1 => gName i x σ H1 D.nx := h
  rw [exec_Assign_Name_used _ _ _ _ hsw]
  refine wpAny_bind (wpAny_standAt (wpAny_bind ?_))
  show wpAny _ X.A (do let _ ← comprehension (.DictComp kx vx [⟨tg, iter, ifs, 0⟩] scope pos) scope X.env (firstIterPos [⟨tg, iter, ifs, 0⟩] pos) newDict false (eval iter X.env) (some (assign (.Name y py) X.env))) _ _ s
  refine wpAny_bind (thn (dc_core (Qf := fun _ z => SP X pins D .next z) hc hN I hi bo hg ht hk hv hs h0 fun dd cc z m Hz Iz q hn fp => ?_) fun _ _ fin => wpAny_pure (wpAny_pure fin))
  show wpAny _ _ (assign (.Name y py) X.env (.ref dd)) _ _ _
  refine wpAny_assign_Name (store_ok2 (v := V.ref dd) Iz hN hy (.inl hyl) rfl (fun z2 J ⟨a, sb, ha⟩ => ?_) (.inr hyl))
  obtain ⟨p0, p1, p2, p3, p4, p5⟩ := fp
  have off : cc ≠ a := ha.elim (fun e => by rw [e]; exact p1) fun e w => p4 y a e w.symm
  exact ⟨m, hn.sameBut sb off, fun h3 sb3 => ⟨_, Hz, J.turned (t' := z2.toks) (fun b o hb e => (sb3.2 b hb).trans e) p0 p1 p3 p4 p5, q⟩⟩⟩
theorem sw_trueD {kx vx : Expr} {gs : List Comprehension} {scope : Scope} {pos py : Pos} {y : Str} {l : Nat} {env : PySem.Env} (fk : env.scope.kind = .function) (ly : env.scope.names.lookup y = some .local) (sl : (py.line == pos.line) = true)
    (ny : (scope.names.any fun (n, k) => n == y && (k == .local || k == .cell)) = false) : swapsWith (.DictComp kx vx gs scope pos) (some (.Name y py)) l env = pure true := by
  have e1 : env.blockKind = .function := by unfold Env.blockKind; rw [fk]; rfl
  have e2 : env.kindOf y = some .local := ly
  unfold swapsWith
  simp only [e1, e2, ny, Expr.pos, sl]
  rfl
end
end GP

set_option Elab.async false
set_option linter.all false
set_option maxRecDepth 100000
set_option maxHeartbeats 400000
/-! G31: a list or a tuple unpacked into names, the last one perhaps starred. -/
namespace GP
open PySem PySem.Spec PyProof.Rows L2
section
variable {prog : Program} {w : World} {A : Around} {E : Value → Shared → Prop} {s : Shared}
theorem cnK_ext (k : Bool) {h h' : Heap} {a it : Addr} {vs : Array Value} (x : cnK k h a vs) (e : ∀ b o, b ≠ it → h.get? b = some o → h'.get? b = some o) (ne : a ≠ it) : cnK k h' a vs := by
  cases k with
  | true => obtain ⟨o, q, r⟩ := x; exact ⟨o, e a o ne q, r⟩
  | false => obtain ⟨o, q, r⟩ := x; exact ⟨o, e a o ne q, r⟩
theorem itK_ty (k : Bool) {h : Heap} {it a : Addr} {i : Nat} {g : Array GenState} {d : Drawn} {t : Nat} {os : OsState} (x : itK k h it a i) : Shared.TypeIs ⟨h, g, d, t, os⟩ (.ref it) (if k then "tuple_iterator" else "list_iterator") := by
  cases k with
  | true => exact Heap.IsTupleIter.typeIs (s := ⟨h, g, d, t, os⟩) x
  | false => exact Heap.IsListIter.typeIs (s := ⟨h, g, d, t, os⟩) x
theorem nextK_item (k : Bool) {it a : Addr} {i : Nat} {vs : Array Value} {x : Value} {Q : Option Value → Shared → Prop} (hit : itK k s.heap it a i) (hc : cnK k s.heap a vs) (hx : vs[i]? = some x)
    (hQ : ∀ h', itK k h' it a (i + 1) → Heap.SameBut it s.heap h' → Q (some x) { s with heap := h' }) : wpAny (model prog w) A (pyNext (.ref it)) Q E s := by
  cases k with
  | true => exact wpAny_pyNext_tuple_item hit hc hx hQ
  | false => exact wpAny_pyNext_list_item hit hc hx hQ
theorem nextK_end (k : Bool) {it a : Addr} {i : Nat} {vs : Array Value} {Q : Option Value → Shared → Prop} (hh : A.handled = none) (hit : itK k s.heap it a i) (hc : cnK k s.heap a vs) (hx : vs[i]? = none)
    (hQ : ∀ h', Heap.ExtBut it s.heap h' → Q none { s with heap := h' }) : wpAny (model prog w) A (pyNext (.ref it)) Q E s := by
  cases k with
  | true => exact wpAny_pyNext_tuple_end hh hit hc hx hQ
  | false => exact wpAny_pyNext_list_end hh hit hc hx hQ
theorem iterK (k : Bool) {a : Addr} {vs : Array Value} {Q : Value → Shared → Prop} (hc : cnK k s.heap a vs) (hQ : Q (.ref s.heap.objs.size) { s with heap := s.heap.push (obK k a) }) : wpAny (model prog w) A (pyIter (.ref a)) Q E s := by
  cases k with
  | true => exact wpAny_pyIter_tuple hc hQ
  | false => exact wpAny_pyIter_list hc hQ
theorem selfK (k : Bool) {it a : Addr} {i : Nat} {Q : Value → Shared → Prop} (hit : itK k s.heap it a i) (h : Q (.ref it) s) : wpAny (model prog w) A (pyIter (.ref it)) Q E s := by
  cases k with
  | true => exact wpAny_pyIter_tupleiter hit h
  | false => exact wpAny_pyIter_listiter hit h
theorem drawsK (k : Bool) {it a : Addr} {vs : Array Value} (ne : a ≠ it) : ∀ (n i : Nat) (s : Shared) (Q : List Value → Shared → Prop), itK k s.heap it a i → cnK k s.heap a vs → i + n ≤ vs.size →
    (∀ h', itK k h' it a (i + n) → Heap.SameBut it s.heap h' → Q ((vs.toList.drop i).take n) { s with heap := h' }) → wpAny (model prog w) A (draw (.ref it) n) Q E s
  | 0, i, s, Q, hit, _, _, hQ => by
    show wpAny _ _ (pure []) Q E s
    exact wpAny_pure (by simpa using hQ s.heap hit (Heap.SameBut.refl ..))
  | n + 1, i, s, Q, hit, hc, hle, hQ => by
    have hl : i < vs.size := by omega
    show wpAny _ _ (pyNext (.ref it) >>= _) Q E s
    refine wpAny_bind (nextK_item k hit hc (x := vs[i]) (by simp [hl]) fun h1 it1 s1 => ?_)
    refine wpAny_bind (wpAny_holding (drawsK k ne n (i + 1) _ _ it1 (cnK_ext k hc s1.extBut ne) (by omega) fun h2 it2 s2 => wpAny_pure ?_))
    have e : vs.toList.drop i = vs[i] :: vs.toList.drop (i + 1) := by simp [List.drop_eq_getElem_cons, hl]
    have q := hQ h2 (by rw [show i + (n + 1) = i + 1 + n by omega]; exact it2) (s1.trans s2)
    rw [e, List.take_succ_cons] at q
    exact q
/-- the rest of an iterator, walked -/
theorem walksK (k : Bool) {it a : Addr} {vs : Array Value} (hh : A.handled = none) (ne : a ≠ it) (i : Nat) (hi : i ≤ vs.size) :
    WalksS prog w A it [it, a] [it] (fun x y => x = y) (vs.size - i) (fun j v => vs[i + j]? = some v) (fun j s => itK k s.heap it a (i + j) ∧ cnK k s.heap a vs) where
  sub := by simp
  grefl := fun _ => rfl
  gtrans := fun _ _ _ x y => x.trans y
  frame := fun j s h' tk st _ e => ⟨itK_at k st.1 fun o q => e it (by simp) o q, by
    obtain ⟨_, hc⟩ := st
    cases k with
    | true => obtain ⟨o, q, r⟩ := hc; exact ⟨o, e a (by simp) o q, r⟩
    | false => obtain ⟨o, q, r⟩ := hc; exact ⟨o, e a (by simp) o q, r⟩⟩
  item := fun j s Q E hj st hQ => by
    have hl : i + j < vs.size := by omega
    refine nextK_item k st.1 st.2 (x := vs[i + j]) (by simp [hl]) fun h' it' sb => hQ _ _ (by simp [hl]) ⟨it', cnK_ext k st.2 sb.extBut ne⟩ ⟨fun b o hb q => sb.extBut b o (by simpa using hb) q, rfl, rfl, rfl, Nat.le_refl _⟩
  done := fun s Q E st hQ => by
    refine nextK_end k hh st.1 st.2 (by simp; omega) fun h' eb => hQ _ ⟨fun b o hb q => eb b o (by simpa using hb) q, rfl, rfl, rfl, Nat.le_refl _⟩
  self := fun j s Q E st h => selfK k st.1 h
theorem noIterK (k : Bool) {a : Addr} {vs : Array Value} {Q : Bool → Shared → Prop} (hc : cnK k s.heap a vs) (h : Q false s) : wpAny (model prog w) A (notIterableAtAll (.ref a)) Q E s := by
  unfold notIterableAtAll
  cases k with
  | true =>
    refine wpAny_bind (wpAny_specialOf (Heap.IsTuple.typeIs (s := s) hc) F.slot_tuple_iter.lookup ?_)
    exact wpAny_pure h
  | false =>
    refine wpAny_bind (wpAny_specialOf (Heap.IsList.typeIs (s := s) hc) slot_list_iter.lookup ?_)
    exact wpAny_pure h
/-- n items, no star -/
theorem itemsK (k : Bool) {a : Addr} {vs : Array Value} {Q : List Value → Shared → Prop} (hh : A.handled = none) (hc : cnK k s.heap a vs)
    (hQ : ∀ h', (∀ b o, s.heap.get? b = some o → h'.get? b = some o) → Q vs.toList { s with heap := h' }) : wpAny (model prog w) A (unpackItems (.ref a) vs.size none) Q E s := by
  have hlt : a ≠ s.heap.objs.size := Nat.ne_of_lt (cnK_lt k hc)
  unfold unpackItems
  refine wpAny_bind (noIterK k hc ?_)
  simp only [Bool.false_eq_true, if_false]
  refine wpAny_bind (wpAny_holding (iterK k hc ?_))
  refine wpAny_bind (wpAny_holding (drawsK k hlt vs.size 0 _ _ (itK_0 k (Heap.get?_push_size _ (by cases k <;> rfl))) (cnK_ext k (it := s.heap.objs.size) hc (fun b o _ q => Heap.get?_push_of_some _ q) hlt) (by omega) fun h1 it1 s1 => ?_))
  rw [show List.take vs.size (List.drop 0 vs.toList) = vs.toList by rw [List.drop_zero]; exact List.take_of_length_le (by simp), if_neg (by simp)]
  have c0 : cnK k (s.heap.push (obK k a)) a vs := cnK_ext k (it := s.heap.objs.size) hc (fun b o _ q => Heap.get?_push_of_some _ q) hlt
  have c1 : cnK k h1 a vs := cnK_ext k (it := s.heap.objs.size) c0 s1.extBut hlt
  refine wpAny_bind (wpAny_holding (nextK_end k hh it1 c1 (by simp) fun h2 e2 => ?_))
  simp only [Option.isSome_none, Bool.false_eq_true, if_false]
  exact wpAny_pure (hQ h2 fun b o q => e2 b o (Nat.ne_of_lt (Heap.lt_size q)) (s1.extBut b o (Nat.ne_of_lt (Heap.lt_size q)) (Heap.get?_push_of_some _ q)))
/-- n items and a list of all further ones -/
theorem itemsS (k : Bool) {a : Addr} {vs : Array Value} {n : Nat} {Q : List Value → Shared → Prop} (hh : A.handled = none) (hc : cnK k s.heap a vs) (hn : n ≤ vs.size) (hz : vs.size ≤ sizeLine)
    (hQ : ∀ (h' : Heap) (tk : Nat), s.toks ≤ tk → (∀ b o, s.heap.get? b = some o → h'.get? b = some o) → Q (vs.toList.take n ++ [.ref h'.objs.size]) { s with heap := h'.push { cls := .type "list", data := .seq (vs.toList.drop n).toArray }, toks := tk }) :
    wpAny (model prog w) A (unpackItems (.ref a) (n + 1) (some n)) Q E s := by
  have hlt : a ≠ s.heap.objs.size := Nat.ne_of_lt (cnK_lt k hc)
  have c0 : cnK k (s.heap.push (obK k a)) a vs := cnK_ext k (it := s.heap.objs.size) hc (fun b o _ q => Heap.get?_push_of_some _ q) hlt
  unfold unpackItems
  refine wpAny_bind (noIterK k hc ?_)
  simp only [Bool.false_eq_true, if_false]
  refine wpAny_bind (wpAny_holding (iterK k hc ?_))
  refine wpAny_bind (wpAny_holding (drawsK k hlt n 0 _ _ (itK_0 k (Heap.get?_push_size _ (by cases k <;> rfl))) c0 (by omega) fun h1 it1 s1 => ?_))
  have c1 : cnK k h1 a vs := cnK_ext k (it := s.heap.objs.size) c0 s1.extBut hlt
  have l1 : (List.take n (List.drop 0 vs.toList)).length = n := by rw [List.drop_zero, List.length_take]; simp; omega
  rw [if_neg (by rw [l1]; omega)]
  rw [Nat.zero_add] at it1
  have itl : s.heap.objs.size < h1.objs.size := by obtain ⟨o, q, _⟩ := itK_ob k it1; exact Heap.lt_size q
  have al : a < h1.objs.size := cnK_lt k c1
  refine wpAny_bind (wpAny_holding (wpAny_collect_iter (T := if k then "tuple_iterator" else "list_iterator") (by cases k <;> simp) (walksK (A := A.in1) k hh hlt n hn) (fun j z st => itK_ty k st.1) ⟨by rw [Nat.add_zero]; exact it1, c1⟩ (by simp [itl, al]) (by simp) (fun s2 acc mv it => ?_) (by omega)))
  have la : acc.toList = vs.toList.drop n := by
    refine List.ext_getElem? fun j => ?_
    rw [List.getElem?_drop, Array.getElem?_toList, Array.getElem?_toList]
    by_cases hj : j < vs.size - n
    · obtain ⟨x, hx⟩ : ∃ x, acc[j]? = some x := ⟨acc[j]'(by rw [it.1]; exact hj), by simp [it.1, hj]⟩
      rw [hx, it.2 j x hx]
    · rw [Array.getElem?_eq_none (by rw [it.1]; omega), Array.getElem?_eq_none (by omega)]
  rw [la]
  have e0 : n + 1 - 1 - n = 0 := by omega
  rw [e0, if_neg (by omega), Nat.sub_zero, List.take_length, List.drop_length]
  have sz : (vs.toList.drop n).length ≤ sizeLine := by rw [List.length_drop]; simp; omega
  refine wpAny_bind (wpAny_newList (wpAny_pure ?_) sz)
  rw [List.append_nil, List.drop_zero]
  obtain ⟨h2, g2, d2, t2, o2⟩ := s2
  have eg : s.gens = g2 := mv.gens
  have ed : d2 = s.drawn := mv.drawn
  have eo : o2 = s.os := mv.os
  subst eg ed eo
  refine hQ h2 t2 mv.toks fun b o q => mv.heap b o (by simp; exact Nat.ne_of_lt (Heap.lt_size q)) (s1.extBut b o (Nat.ne_of_lt (Heap.lt_size q)) (Heap.get?_push_of_some _ q))
end
section
variable {X : Cx}
/-- names = a list or a tuple of that length -/
def gSeqN (K : FK) (n : Nat) (t : TGs) : TG := fun v σ H Q => ∃ k a xs, v = .ref a ∧ sqK k K H a xs ∧ xs.length = n ∧ t xs σ H Q
theorem pg_seqN {es : List Expr} {kk : Nat} {t : TGs} {n : Nat} {pos : Pos} (hc : X.calm = true) (h : PGs X es t)
    (hn : (assignEach es X.env).length = n := by rfl) (hst : (assignEach es X.env).findIdx? (·.1) = none := by rfl) : PG X (.Tuple es kk pos) (gSeqN X.K n t) := by
  refine ⟨fun pins s σ H v u Q I r hw => ?_⟩
  obtain ⟨k, a, xs, rfl, hq, hl, hw⟩ := hw
  cases r
  obtain ⟨us, rv, hu⟩ := inv_sqK I hq
  rw [assign_Tuple]
  refine wpAny_bind (wpAny_standAt ?_)
  unfold unpack
  rw [hn, hst, show n = us.toArray.size by simp [← hl, rv.length]]
  refine wpAny_bind (wpAny_holding (itemsK k (I.ok.hd hc) hu fun h' hx => ?_))
  exact h.run pins _ σ H xs _ Q (I.kept (t' := s.toks) hx) (by simpa using rv) hw
/-- names, *name = a list or a tuple -/
def gStar (K : FK) (n : Nat) (t : TGs) : TG := fun v σ H Q => ∃ k a xs, v = .ref a ∧ sqK k K H a xs ∧ n ≤ xs.length ∧ xs.length ≤ sizeLine ∧ ∀ p, H p = none → t (xs.take n ++ [.ref p]) σ (upd H p (.lst (xs.drop n))) Q
theorem Vals.take' : ∀ {xs : List V} {us : List Value} (n : Nat), Vals xs us → Vals (xs.take n) (us.take n)
  | _, _, 0, _ => .nil
  | _, _, _ + 1, .nil => .nil
  | _, _, n + 1, .cons h t => .cons h (Vals.take' n t)
theorem Vals.drop' : ∀ {xs : List V} {us : List Value} (n : Nat), Vals xs us → Vals (xs.drop n) (us.drop n)
  | _, _, 0, h => h
  | _, _, _ + 1, .nil => .nil
  | _, _, n + 1, .cons _ t => Vals.drop' n t
theorem Vals.snoc' {x : V} {u : Value} (r : RelV x u) : ∀ {xs : List V} {us : List Value}, Vals xs us → Vals (xs ++ [x]) (us ++ [u])
  | _, _, .nil => .cons r .nil
  | _, _, .cons h t => .cons h (Vals.snoc' r t)
theorem pg_star {es es' : List Expr} {kk : Nat} {t : TGs} {n : Nat} {pos : Pos} (hc : X.calm = true) (h : PGs X es' t)
    (hn : (assignEach es X.env).length = n + 1 := by rfl) (hst : (assignEach es X.env).findIdx? (·.1) = some n := by rfl) (hm : (assignEach es X.env).map (·.2) = (assignEach es' X.env).map (·.2) := by rfl) : PG X (.Tuple es kk pos) (gStar X.K n t) := by
  refine ⟨fun pins s σ H v u Q I r hw => ?_⟩
  obtain ⟨k, a, xs, rfl, hq, hl, hz, hw⟩ := hw
  cases r
  obtain ⟨us, rv, hu⟩ := inv_sqK I hq
  have lu := rv.length
  rw [assign_Tuple]
  refine wpAny_bind (wpAny_standAt ?_)
  unfold unpack
  rw [hn, hst, hm]
  refine wpAny_bind (wpAny_holding (itemsS k (I.ok.hd hc) hu (by simp; omega) (by simp; omega) fun h' tk le hx => ?_))
  have I1 : Inv X pins σ H { s with heap := h', toks := tk } := I.kept hx
  have rd := Vals.drop' n rv
  have I2 := I1.laid (o := .lst (xs.drop n)) (t' := tk) (h' := h'.push { cls := .type "list", data := .seq (us.drop n).toArray }) (a := h'.objs.size) (fun b o e => Heap.get?_push_of_some _ e) (Nat.le_refl _) ⟨by rw [List.length_drop]; omega, us.drop n, 0, rd, Heap.get?_push_size _ rfl⟩
  exact h.run pins _ σ _ _ _ Q I2 (by simpa using Vals.snoc' (x := .ref h'.objs.size) rfl (Vals.take' n rv)) (hw _ (I1.hok.fresh (Nat.le_refl _)))
/-- a tuple of any things == () -/
def gEqE (K : FK) : R2 := fun x y H Q => ∃ a b xs, x = .ref a ∧ y = .ref b ∧ SqT K H a xs ∧ SqT K H b [] ∧ Q (.bl xs.isEmpty) H
theorem g_eqE (un : X.A.units < cLine) : OpR X (compareOp .Eq) (gEqE X.K) := fun pins s σ H x y v u Q I rx ry h => by
  obtain ⟨a, b, xs, rfl, rfl, ha, hb, fin⟩ := h
  cases rx
  cases ry
  obtain ⟨us, rv, pa, _⟩ := I.tuple ha
  obtain ⟨ws, rw_, pb, _⟩ := I.tuple hb
  cases rw_
  show wpAny _ _ (richCompare .Eq (.ref a) (.ref b)) _ _ s
  refine SeqAt.rcIn_tuples (e := fun _ => true) pa pb un (fun j _ h2 => by simp at h2) (fin_bl I fin ?_)
  have l := rv.length
  cases xs <;> cases us <;> simp at l <;> simp
end
def fEqE : D → D → Option D
  | .tup xs, .tup [] => some (.bl xs.isEmpty)
  | _, _ => none
section
variable {Γ : Cn} {L : LS} {c : Nat} {te : TE} {de : DE} {re : RE} {b : Bool}
theorem tup_sq {G H : Hp} {v : V} {ds : List D} (x : Exf G H) (r : RepT Γ L G H v (.tup ds)) : ∃ a us, v = .ref a ∧ SqT Γ.K H a us ∧ RepL Γ L G us ds := by
  rcases r with r | ⟨p, rfl, o, _⟩
  · cases r with
    | tup h rl z => exact ⟨_, _, rfl, (x.tp h).sq, rl⟩
  · cases o
theorem o_eqE : OpS Γ L (gEqE Γ.K) fEqE := fun t G H x y dx dy z l e rx ry hz Q k => by
  unfold fEqE at hz
  split at hz
  · rename_i xs
    cases hz
    obtain ⟨a, us, rfl, ha, ra⟩ := tup_sq e rx
    obtain ⟨b, ws, rfl, hb, rb⟩ := tup_sq e ry
    cases rb
    refine ⟨a, b, us, rfl, rfl, ha, hb, ?_⟩
    have el : us.isEmpty = xs.isEmpty := by have := ra.len; cases us <;> cases xs <;> simp at this <;> rfl
    rw [el]
    exact k _ G H (At.start e l) (.bl _)
  · cases hz
/-! ### a, b = a list or a tuple -/
def dSeq2 (i j : Nat) : DG := fun d δ P => match sqD d with
  | some [x, y] => P ((δ.set i (some (.sh x))).set j (some (.sh y)))
  | _ => False
def rSeq2 (i j : Nat) : RGt := fun d δ => match sqD d with
  | some [x, y] => some ((δ.set i (some (.sh x))).set j (some (.sh y)))
  | _ => none
theorem a_seq2 (i j : Nat) : AgG (dSeq2 i j) (rSeq2 i j) := fun x δ z P h p => by
  unfold rSeq2 at h
  unfold dSeq2
  split at h
  · cases h; exact p
  · cases h
theorem s_seq2 (i j : Nat) : SG Γ L (gSeqN Γ.K 2 (gCons (gName i) (gCons (gName j) gNil))) (dSeq2 i j) [i, j] := fun t σ δ B G H x d l ex e r P hp Q k => by
  unfold dSeq2 at hp
  split at hp
  · rename_i u w hd
    obtain ⟨kd, a, ys, rfl, rl, z, sq⟩ := sq_of r hd
    cases rl with
    | cons r1 rl => cases rl with
      | cons r2 rl =>
        cases rl
        refine ⟨kd, a, _, rfl, sq G H Ex.rfl' ex, rfl, _, _, rfl, _, _, rfl, rfl, ?_⟩
        refine k _ _ ((e.set i r1).set j r2) (fun vs hv => ?_) hp
        rw [wipe_set (hv j (by simp)), wipe_set (hv i (by simp))]
  · exact hp.elim
/-! ### a, *b = a list or a tuple -/
def dStar1 (de : DE) (i j : Nat) : DQ := fun N δ => de δ fun d => match sqD d with
  | some (x :: xs) => N.nx ((δ.set i (some (.sh x))).set j (some (.sh (.lst xs))))
  | _ => False
def rStar1 (re : RE) (i j : Nat) : RQ := fun δ => (re δ).bind fun d => match sqD d with
  | some (x :: xs) => some (.nx ((δ.set i (some (.sh x))).set j (some (.sh (.lst xs)))))
  | _ => none
theorem a_star1 {i j : Nat} (ha : AgE de re) : AgQ b (dStar1 de i j) (rStar1 re i j) := fun N δ o hb h p => by
  obtain ⟨d, h1, h⟩ := bnd h
  refine ha δ d _ h1 ?_
  split at h
  · rename_i x xs hd
    cases h
    exact p
  · cases h
theorem s_star1 (i j : Nat) (h : SE Γ L c te de) : SS Γ L c (tAsg te (gStar Γ.K 1 (gCons (gName i) (gCons (gName j) gNil)))) (dStar1 de i j) := fun t σ δ B G0 G H a e hc N hp D E => by
  refine h t σ δ B G H a.lw a.gh e hc _ hp _ fun v d G1 H1 a1 r1 q => ?_
  split at q
  · rename_i x xs hd
    obtain ⟨kd, p, ys, rfl, rl, z, sq⟩ := sq_of r1 hd
    cases rl with
    | cons rx rl =>
      rename_i vx vs
      have ll := rl.len
      rw [List.length_cons] at z
      refine ⟨kd, p, _, rfl, sq G1 H1 Ex.rfl' a1.gh, Nat.le_add_left _ _, lim_size (by rw [List.length_cons, ll]; exact z), fun n nn => ?_⟩
      have a2 := At.new (o := .lst vs) a1.gh a1.lw nn
      refine ⟨_, _, rfl, _, _, rfl, rfl, ?_⟩
      exact E.nx _ _ _ _ ((a.tr a1).tr a2) ((((e.step a1).step a2).set i (rx.up a2.gg)).set j (.lst upd_same (rl.up a2.gg) (by omega))) q
  · exact q.elim
/-! ### x.upper() -/
def fUpper : D → Option D
  | .str a => if decide (a.length ≤ 5592405) && okStr (Txt.upper a) then some (.str (Txt.upper a)) else none
  | _ => none
theorem s_upper (h : ST Γ L c te de) : SE Γ L c (tM0 (fun x xs H Q => ∃ a, x = .str a ∧ xs = [] ∧ a.length ≤ 5592405 ∧ Q (.str (Txt.upper a)) H) te) (dUn fUpper de) := fun t σ δ B G H l x e hc P hp Q k => by
  refine h t σ δ B G H l x e hc _ hp _ fun v d G1 H1 a1 r1 q1 => ?_
  split at q1
  · rename_i z hz
    unfold fUpper at hz
    split at hz
    · rename_i a
      split at hz
      · rename_i hb
        cases hz
        rw [Bool.and_eq_true, decide_eq_true_eq] at hb
        obtain ⟨rfl, _⟩ := str_of r1
        exact ⟨⟨a, rfl⟩, a, rfl, rfl, hb.1, k _ _ G1 H1 a1 (.str hb.2) q1⟩
      · cases hz
    · cases hz
  · exact q1.elim
end
end GP

set_option Elab.async false
set_option linter.all false
set_option maxRecDepth 100000
set_option maxHeartbeats 400000
/-! G32: x (not) in a list of texts, x of any built-in kind; xs[::-1]. -/
namespace PySem.SeqAt
open AutoSeq1 (wpAny_loadPart')
open MeetsSeq
section
theorem gp_dict_declines (l : Addr) (es : Array DictEntry) (ep : Nat) (dd : Option Addr) (sl : Array (Option Value)) (b : Str) (u : Tok) :
    Meets (Builtin.«dict.__eq__» ⟨[.ref l, .str b u], []⟩) (fun _ R s => s.heap.get? l = some { cls := .type "dict", dict := dd, data := .dict es ep, slots := sl } ∧ R (.ok (.ret .notImplemented)) s) :=
  .of_wp fun prog w A R s h => by
    obtain ⟨hp, g, d, tk, os⟩ := s
    obtain ⟨hl, h⟩ := h
    have f1 := F.sub_str_dict
    wp_walk using wpAny_loadPart' hl, wpAny_load hl
    exact ⟨_, rfl, h⟩
theorem gp_str_declines (l : Addr) (es : Array DictEntry) (ep : Nat) (dd : Option Addr) (sl : Array (Option Value)) (b : Str) (u : Tok) :
    Meets (Builtin.«str.__eq__» ⟨[.str b u, .ref l], []⟩) (fun _ R s => s.heap.get? l = some { cls := .type "dict", dict := dd, data := .dict es ep, slots := sl } ∧ R (.ok (.ret .notImplemented)) s) :=
  .of_wp fun prog w A R s h => by
    obtain ⟨hp, g, d, tk, os⟩ := s
    obtain ⟨hl, h⟩ := h
    wp_walk using wpAny_loadPart' hl, wpAny_load hl
    exact ⟨_, rfl, h⟩
variable {A : Around} {s : Shared}
theorem gp_rc_str_dict {l : Addr} {o : Obj} {es : Array DictEntry} {ep : Nat} (b : Str) (u : Tok) (hl : s.heap.get? l = some o) (hx : o.cls = .type "dict") (hd : o.data = .dict es ep) (hu : A.units < cLine) : RcAt A s (.str b u) (.ref l) false := fun prog w E Q h => by
  obtain ⟨cls, dd, data, sl⟩ := o
  simp only at hx hd
  subst hx hd
  exact rc_eq_decline_or (k := false) (typeIs_str s b u) ⟨_, hl, rfl⟩ (by decide) F.sub_dict_str F.slot_str_eq F.slot_dict_eq_refl
    (fun _ q => call_meets F.slot_str_eq (typeIs_str s b u) F.entry_str_eq (F.args_str_eq_2 _ _) (gp_str_declines l es ep dd sl b u) ⟨hl, q⟩)
    (fun _ q => call_meets F.slot_dict_eq_refl ⟨_, hl, rfl⟩ F.entry_dict_eq (F.args_dict_eq_2 _ _) (gp_dict_declines l es ep dd sl b u) ⟨hl, q⟩)
    (fun _ q => wpAny_of_eq (rfl : isSame (.str b u) (.ref l) = pure false) q) (.inr hu) h
theorem gp_eq_str_dict {l : Addr} {o : Obj} {es : Array DictEntry} {ep : Nat} (b : Str) (u : Tok) (hl : s.heap.get? l = some o) (hx : o.cls = .type "dict") (hd : o.data = .dict es ep) (hu : A.units < cLine) : EqAt A s (.str b u) (.ref l) false := fun prog w E Q h => by
  unfold eqBool
  refine wpAny_holding (wpAny_ite_split (fun q => absurd (eq_of_beq q) nofun) fun _ => ?_)
  exact wpAny_bind (gp_rc_str_dict b u hl hx hd hu prog w E _ (wpAny_truthy_bool h))
end
end PySem.SeqAt
namespace GP
open PySem PySem.Spec PyProof.Rows L2
section
variable {X : Cx}
/-- a value that is no text: flat, or a list, a tuple, a dict -/
def NoTxt (K : FK) (H : Hp) (x : V) : Prop := x = .non ∨ (∃ b, x = .bl b) ∨ (∃ i, x = .int i) ∨ ∃ a, x = .ref a ∧ ((∃ xs, SqL K H a xs) ∨ (∃ xs, SqT K H a xs) ∨ ∃ kvs, Rd H a (.dK kvs))
/-- no text is not in a list of texts -/
def gNotInX (K : FK) : R2 := fun x y H Q => ∃ (p : Addr) (ss : List Str), y = .ref p ∧ SqL K H p (ss.map V.str) ∧ NoTxt K H x ∧ Q (.bl true) H
theorem vals_strs : ∀ {ss : List Str} {us : List Value}, Vals (ss.map V.str) us → ∀ u ∈ us, ∃ b t, u = .str b t
  | [], _, .nil, u, h => by cases h
  | c :: ss, _, .cons r t, u, h => by
    rcases List.mem_cons.mp h with rfl | h
    · obtain ⟨k, rfl⟩ := r
      exact ⟨c, k, rfl⟩
    · exact vals_strs t u h
theorem g_notInX (un : X.A.in1.units < cLine) : OpR X (compareOp .NotIn) (gNotInX X.K) := fun pins s σ H x y v u Q I rx ry h => by
  obtain ⟨p, ss, rfl, hq, nt, q⟩ := h
  cases ry
  obtain ⟨its, r, pl, hz⟩ := I.list hq
  refine SeqAt.notIn_listAt (fun _ => false) pl.isList (fun w hw => ?_) ⟨.bl true, H, I, ?_, q⟩
  · obtain ⟨b, t, rfl⟩ := vals_strs r w (by simpa using hw)
    rcases nt with rfl | ⟨b', rfl⟩ | ⟨i, rfl⟩ | ⟨a, rfl, ⟨xs, hl⟩ | ⟨xs, ht⟩ | ⟨kvs, hd⟩⟩
    · cases rx
      exact SeqAt.EqAt.str_none b t
    · cases rx
      exact SeqAt.EqAt.str_bool b t b'
    · obtain ⟨k, rfl⟩ := rx
      exact SeqAt.EqAt.str_int b t i k
    · cases rx
      obtain ⟨ys, _, pa, _⟩ := I.list hl
      exact SeqAt.EqAt.str_list b t pa.isList un
    · cases rx
      obtain ⟨ys, _, pa, _⟩ := I.tuple ht
      exact SeqAt.EqAt.str_tuple b t pa un
    · cases rx
      obtain ⟨_, _, us, _, o, es, ep, ho, hx, hdt, _⟩ := (show ObjOk X.prog X.w H s.heap a (.dK kvs) from hd.ok I.hok)
      exact SeqAt.gp_eq_str_dict b t ho hx.1 hdt un
  · rw [show its.toArray.any (fun _ => false) = false by simp]
    rfl
def gNotIn2 (K : FK) : R2 := fun x y H Q => gNotIn K x y H Q ∨ gNotInX K x y H Q
theorem g_notIn2 {k : Nat} (rm : Room k X.A) (un : X.A.units + 1 < cLine) : OpR X (compareOp .NotIn) (gNotIn2 X.K) := (g_notIn rm).or (g_notInX un)
end
def noTxt : D → Bool
  | .non => true
  | .bl _ => true
  | .int _ => true
  | .lst _ => true
  | .tup _ => true
  | .dct _ => true
  | _ => false
def isTxt : D → Bool
  | .str _ => true
  | _ => false
def fNotIn2 (x y : D) : Option D := match y with
  | .lst ys => if noTxt x && ys.all isTxt then some (.bl true) else fNotIn x y
  | _ => fNotIn x y
section
variable {Γ : Cn} {L : LS} {c : Nat} {te : TE} {de : DE} {re : RE}
theorem txts_of {G : Hp} : ∀ {vs : List V} {ds : List D}, RepL Γ L G vs ds → ds.all isTxt = true → ∃ ss : List Str, vs = ss.map V.str
  | _, _, .nil, _ => ⟨[], rfl⟩
  | _, _, .cons (d := d) r t, h => by
    rw [List.all_cons, Bool.and_eq_true] at h
    obtain ⟨ss, rfl⟩ := txts_of t h.2
    cases d with
    | str x =>
      cases r
      exact ⟨x :: ss, rfl⟩
    | _ => cases h.1
theorem noTxt_of {G H : Hp} {v : V} {d : D} (x : Exf G H) (r : RepT Γ L G H v d) (h : noTxt d = true) : NoTxt Γ.K H v := by
  rcases r with r | ⟨p, rfl, o, _⟩
  · cases r with
    | non => exact .inl rfl
    | bl b => exact .inr (.inl ⟨b, rfl⟩)
    | int i => exact .inr (.inr (.inl ⟨i, rfl⟩))
    | lst hg _ _ => exact .inr (.inr (.inr ⟨_, rfl, .inl ⟨_, x.sl (SqL.of hg)⟩⟩))
    | tup hg _ _ => exact .inr (.inr (.inr ⟨_, rfl, .inr (.inl ⟨_, (x.tp hg).sq⟩)⟩))
    | dct hg _ _ => exact .inr (.inr (.inr ⟨_, rfl, .inr (.inr ⟨_, x.dk hg⟩)⟩))
    | _ => cases h
  · cases o with
    | lst hl _ _ => exact .inr (.inr (.inr ⟨_, rfl, .inl ⟨_, SqL.of hl⟩⟩))
    | dct hl _ _ => exact .inr (.inr (.inr ⟨_, rfl, .inr (.inr ⟨_, .inl hl⟩)⟩))
theorem lst_sq {G H : Hp} {v : V} {ds : List D} (x : Exf G H) (r : RepT Γ L G H v (.lst ds)) : ∃ a us, v = .ref a ∧ SqL Γ.K H a us ∧ RepL Γ L G us ds ∧ ds.length ≤ LIM := by
  rcases r with r | ⟨p, rfl, o, _⟩
  · cases r with
    | lst h rl z => exact ⟨_, _, rfl, x.sl (SqL.of h), rl, z⟩
  · cases o with
    | lst h rl z => exact ⟨_, _, rfl, SqL.of h, rl, z⟩
theorem o_notIn2 : OpS Γ L (gNotIn2 Γ.K) fNotIn2 := fun t G H x y dx dy z l e rx ry hz Q k => by
  unfold fNotIn2 at hz
  split at hz
  · rename_i ys
    split at hz
    · rename_i hb
      cases hz
      rw [Bool.and_eq_true] at hb
      obtain ⟨a, us, rfl, ha, ra, _⟩ := lst_sq e ry
      obtain ⟨ss, rfl⟩ := txts_of ra hb.2
      exact .inr ⟨a, ss, rfl, ha, noTxt_of e rx hb.1, k _ G H (At.start e l) (.bl _)⟩
    · exact .inl (o_notIn t G H x y dx _ z l e rx ry hz Q k)
  · exact .inl (o_notIn t G H x y dx dy z l e rx ry hz Q k)
/-! ### xs[::-1] -/
def dRevL (de : DE) : DE := fun δ P => de δ fun d => match d with
  | .lst xs => P (.lst xs.reverse)
  | _ => False
def rRevL (re : RE) : RE := fun δ => (re δ).bind fun d => match d with
  | .lst xs => some (.lst xs.reverse)
  | _ => none
theorem a_revL (ha : AgE de re) : AgE (dRevL de) (rRevL re) := fun δ z P h p => by
  obtain ⟨x, h1, h⟩ := bnd h
  refine ha δ x _ h1 ?_
  split at h
  · cases h
    exact p
  · cases h
theorem RepL.rev {G : Hp} : ∀ {v : List V} {d : List D}, RepL Γ L G v d → RepL Γ L G v.reverse d.reverse
  | _, _, .nil => .nil
  | _, _, .cons h t => by
    rw [List.reverse_cons, List.reverse_cons]
    exact (RepL.rev t).app (.cons h .nil)
theorem s_revL (h : ST Γ L c te de) : SF Γ L c (tRevL Γ.K te) (dRevL de) := fun t σ δ B G H l x e hc P hp Q k => by
  refine h t σ δ B G H l x e hc _ hp _ fun v d G1 H1 a1 r1 q1 => ?_
  split at q1
  · rename_i xs
    obtain ⟨a, us, rfl, ha, ra, z⟩ := lst_sq a1.gh r1
    refine ⟨a, us, rfl, ha, fun p np => ?_⟩
    have a2 := At.newH (o := .lst us.reverse) a1.gh a1.lw np
    have np0 : H p = none := by
      cases z : H p with
      | none => rfl
      | some o => rw [a1.bh p o z (a1.lw.out np)] at np; cases np
    exact k p _ _ _ (a1.tr a2) np0 (.lst upd_same ra.rev (by rw [List.length_reverse]; exact z)) (a1.gh.none np) q1
  · exact q1.elim
end
/-! ### a list of any things == [], != [] -/
section
variable {X : Cx}
def gEqL0 (K : FK) : R2 := fun x y H Q => ∃ a b xs, x = .ref a ∧ y = .ref b ∧ SqL K H a xs ∧ SqL K H b [] ∧ Q (.bl xs.isEmpty) H
def gNeL0 (K : FK) : R2 := fun x y H Q => ∃ a b xs, x = .ref a ∧ y = .ref b ∧ SqL K H a xs ∧ SqL K H b [] ∧ Q (.bl (!xs.isEmpty)) H
theorem g_eqL0 (un : X.A.units < cLine) : OpR X (compareOp .Eq) (gEqL0 X.K) := fun pins s σ H x y v u Q I rx ry h => by
  obtain ⟨a, b, xs, rfl, rfl, ha, hb, fin⟩ := h
  cases rx
  cases ry
  obtain ⟨us, rv, pa, _⟩ := I.list ha
  obtain ⟨ws, rw_, pb, _⟩ := I.list hb
  cases rw_
  show wpAny _ _ (richCompare .Eq (.ref a) (.ref b)) _ _ s
  cases rv with
  | nil => exact SeqAt.RcAt.lists (e := fun _ => true) pa.isList pb.isList rfl un (fun j h1 _ => by simp at h1) X.prog X.w _ _ (fin_bl I fin rfl)
  | cons _ _ => exact SeqAt.RcAt.lists_lengths pa.isList pb.isList (by simp) un X.prog X.w _ _ (fin_bl I fin rfl)
theorem g_neL0 (un : X.A.units < cLine) : OpR X (compareOp .NotEq) (gNeL0 X.K) := fun pins s σ H x y v u Q I rx ry h => by
  obtain ⟨a, b, xs, rfl, rfl, ha, hb, fin⟩ := h
  cases rx
  cases ry
  obtain ⟨us, rv, pa, _⟩ := I.list ha
  obtain ⟨ws, rw_, pb, _⟩ := I.list hb
  cases rw_
  show wpAny _ _ (richCompare .NotEq (.ref a) (.ref b)) _ _ s
  cases rv with
  | nil => exact SeqAt.RcNeAt.lists (e := fun _ => true) pa.isList pb.isList rfl un (fun j h1 _ => by simp at h1) X.prog X.w _ _ (fin_bl I fin rfl)
  | cons _ _ => exact SeqAt.RcNeAt.lists_lengths pa.isList pb.isList (by simp) un X.prog X.w _ _ (fin_bl I fin rfl)
end
def fEqL0 : D → D → Option D
  | .lst xs, .lst [] => some (.bl xs.isEmpty)
  | _, _ => none
def fNeL0 : D → D → Option D
  | .lst xs, .lst [] => some (.bl (!xs.isEmpty))
  | _, _ => none
section
variable {Γ : Cn} {L : LS}
theorem o_eqL0 : OpS Γ L (gEqL0 Γ.K) fEqL0 := fun t G H x y dx dy z l e rx ry hz Q k => by
  unfold fEqL0 at hz
  split at hz
  · rename_i xs
    cases hz
    obtain ⟨a, us, rfl, ha, ra, _⟩ := lst_sq e rx
    obtain ⟨b, ws, rfl, hb, rb, _⟩ := lst_sq e ry
    cases rb
    refine ⟨a, b, us, rfl, rfl, ha, hb, ?_⟩
    rw [show us.isEmpty = xs.isEmpty by have := ra.len; cases us <;> cases xs <;> simp at this <;> rfl]
    exact k _ G H (At.start e l) (.bl _)
  · cases hz
theorem o_neL0 : OpS Γ L (gNeL0 Γ.K) fNeL0 := fun t G H x y dx dy z l e rx ry hz Q k => by
  unfold fNeL0 at hz
  split at hz
  · rename_i xs
    cases hz
    obtain ⟨a, us, rfl, ha, ra, _⟩ := lst_sq e rx
    obtain ⟨b, ws, rfl, hb, rb, _⟩ := lst_sq e ry
    cases rb
    refine ⟨a, b, us, rfl, rfl, ha, hb, ?_⟩
    rw [show us.isEmpty = xs.isEmpty by have := ra.len; cases us <;> cases xs <;> simp at this <;> rfl]
    exact k _ G H (At.start e l) (.bl _)
  · cases hz
end
end GP

set_option Elab.async false
set_option linter.all false
set_option maxRecDepth 100000
set_option maxHeartbeats 4000000
/-! S0: is_list, is_name, is_row (printed by gen2). -/
namespace GP
open PySem PySem.Spec PyProof.Rows L2
def dc_LETTERS : D := .str "abcdefghijklmnopqrstuvwxyz"
def dc_LONGEST : D := .int 8
def t_is_list (Γ : Cn) : TS := tRet (tCB (gIsi Γ.K) (tCons (tVar 0) (tCons (tTup (tCons (tC (.ty "list")) (tCons (tC (.ty "tuple")) (tNil)))) (tNil))))
def d_is_list : DQ := dRet (dCB fIsi (dCons (dVar 0) (dCons (dTup (dCons (dC (.ty "list")) (dCons (dC (.ty "tuple")) (dNil)))) (dNil))))
theorem snd_is_list {Γ : Cn} {L : LS} : SS Γ L 0 (t_is_list Γ) d_is_list := by
  unfold t_is_list d_is_list
  exact s_ret (s_cb k_isi (s_consT (s_var 0) (s_consT (SE.t (s_tup (s_cons (s_c fun _ => .ty _) (s_cons (s_c fun _ => .ty _) (s_nil))))) (s_nilT))))
def dp_is_list : DSp := dpOf 1 d_is_list
def sp_is_list (Γ : Cn) : Sp := lift Γ 1 0 dp_is_list
def r_is_list : RQ := rRet (rCB fIsi (rCons (rVar 0) (rCons (rTup (rCons (rC (.ty "list")) (rCons (rC (.ty "tuple")) (rNil)))) (rNil))))
def R_is_list : List D → Option D := runOf 1 r_is_list
theorem ag_is_list : AgF dp_is_list R_is_list := by
  refine ag_of ?_
  unfold d_is_list r_is_list
  exact a_ret (a_cb (a_cons (a_var 0) (a_cons (a_tup (a_cons (a_c _) (a_cons (a_c _) (a_nil)))) (a_nil))))
def t_is_name (Γ : Cn) : TS := tRet (tAndV (tCB (gIsi Γ.K) (tCons (tVar 0) (tCons (tC (.ty "str")) (tNil)))) (tAndV (tChain (gLe) (gLe) (tC (.int 1)) (tCB (gLen Γ.K) (tCons (tVar 0) (tNil))) (tC (Γ.con
   "LONGEST"))) (tCB (rAll Γ.K) (tCons (tLc (gIter Γ.K (tVar 0)) (gName 1) (tYes) (tOp (gIn Γ.K) (tVar 1) (tC (Γ.con "LETTERS"))) [1]) (tNil)))))
def d_is_name : DQ := dRet (dAndV (dCB fIsi (dCons (dVar 0) (dCons (dC (.ty "str")) (dNil)))) (dAndV (dChain fLe fLe (dC (.int 1)) (dCB fLen (dCons (dVar 0) (dNil))) (dC dc_LONGEST)) (dCB fAll
   (dCons (dLc (dIter (dVar 0)) (dName 1) (dYes) (dOp fIn (dVar 1) (dC dc_LETTERS)) [1]) (dNil)))))
theorem snd_is_name {Γ : Cn} (k_LONGEST : ∀ L G, Rep Γ L G (Γ.con "LONGEST") dc_LONGEST) (k_LETTERS : ∀ L G, Rep Γ L G (Γ.con "LETTERS") dc_LETTERS) {L : LS} : SS Γ L 0 (t_is_name Γ) d_is_name := by
  unfold t_is_name d_is_name
  exact s_ret (s_andV (SE.t (s_cb k_isi (s_consT (s_var 0) (s_consT (SE.t (s_c fun _ => .ty _)) (s_nilT))))) (s_andV (SE.t (s_chain o_le o_le (SE.t (s_c fun _ => .int _)) (SE.t
   (s_cb k_len (s_consT (s_var 0) (s_nilT)))) (SE.t (s_c fun _ => k_LONGEST _ _)))) (s_cb k_all (s_consT (SF.t (s_lc (s_iterT (s_var 0)) (s_name 1) (s_yes) (s_op o_in
   (s_var 1) (SE.t (s_c fun _ => k_LETTERS _ _))))) (s_nilT)))))
def dp_is_name : DSp := dpOf 2 d_is_name
def sp_is_name (Γ : Cn) : Sp := lift Γ 1 0 dp_is_name
def r_is_name : RQ := rRet (rAndV (rCB fIsi (rCons (rVar 0) (rCons (rC (.ty "str")) (rNil)))) (rAndV (rChain fLe fLe (rC (.int 1)) (rCB fLen (rCons (rVar 0) (rNil))) (rC dc_LONGEST)) (rCB fAll
   (rCons (rLc (rIter (rVar 0)) (rName 1) (rYes) (rOp fIn (rVar 1) (rC dc_LETTERS)) [1]) (rNil)))))
def R_is_name : List D → Option D := runOf 2 r_is_name
theorem ag_is_name : AgF dp_is_name R_is_name := by
  refine ag_of ?_
  unfold d_is_name r_is_name
  exact a_ret (a_andV (a_cb (a_cons (a_var 0) (a_cons (a_c _) (a_nil)))) (a_andV (a_chain (a_c _) (a_cb (a_cons (a_var 0) (a_nil))) (a_c _)) (a_cb (a_cons (a_lc (a_iter (a_var
   0)) (a_name 1) (a_yes) (a_op (a_var 1) (a_c _))) (a_nil)))))
def t_is_row (Γ : Cn) : TS := tSeq (tIfS (tOr (tNot (tTru Γ.K (tCB (gIsi Γ.K) (tCons (tVar 0) (tCons (tC (.ty "tuple")) (tNil)))))) (tTest (tOp (gNe Γ.K) (tCB (gLen Γ.K) (tCons (tVar 0) (tNil))) (tC
   (.int 2))))) (tRet (tC (.bl false))) (tNext)) (tSeq (tAsg (tVar 0) (gTup Γ.K 2 (gCons (gName 2) (gCons (gName 3) (gNil))))) (tSeq (tIfS (tOr (tNot (tTru Γ.K (tFn
   (sp_is_name Γ) E0 (tCons (tVar 2) (tNil))))) (tTest (tOp (gIn Γ.K) (tVar 2) (tVar 1)))) (tRet (tC (.bl false))) (tNext)) (tRet (tOrV (tOp (gIs) (tVar 3) (tC .non))
   (tAndV (tCB (gIsi Γ.K) (tCons (tVar 3) (tCons (tC (.ty "str")) (tNil)))) (tOp (gIn Γ.K) (tVar 3) (tVar 1)))))))
def d_is_row : DQ := dSeq (dIfS (dOr (dNot (dTru (dCB fIsi (dCons (dVar 0) (dCons (dC (.ty "tuple")) (dNil)))))) (dTest (dOp fNe (dCB fLen (dCons (dVar 0) (dNil))) (dC (.int 2))))) (dRet (dC
   (.bl false))) (dNext)) (dSeq (dAsgG (dVarS 0) (dTup2 2 3)) (dSeq (dIfS (dOr (dNot (dTru (dFn dp_is_name (dCons (dVarS 2) (dNil))))) (dTest (dOp fIn (dVar 2) (dVar
   1)))) (dRet (dC (.bl false))) (dNext)) (dRet (dOrV (dOp fIs (dVar 3) (dC .non)) (dAndV (dCB fIsi (dCons (dVar 3) (dCons (dC (.ty "str")) (dNil)))) (dOp fIn (dVar 3)
   (dVar 1)))))))
theorem snd_is_row {Γ : Cn} {L : LS} : SS Γ L 0 (t_is_row Γ) d_is_row := by
  unfold t_is_row d_is_row
  exact s_seq (s_if (s_or (s_not (s_tru (SE.t (s_cb k_isi (s_consT (s_var 0) (s_consT (SE.t (s_c fun _ => .ty _)) (s_nilT))))))) (s_test (SE.t (s_op o_ne (SE.t (s_cb k_len
   (s_consT (s_var 0) (s_nilT)))) (SE.t (s_c fun _ => .int _)))))) (s_ret (s_c fun _ => .bl _)) (s_next)) (s_seq (s_asgG (s_varS 0) (s_tup2 2 3)) (s_seq (s_if (s_or
   (s_not (s_tru (SE.t (s_fn (s := dp_is_name) (cf := 0) (s_cons (s_varS 2) (s_nil)))))) (s_test (SE.t (s_op o_in (s_var 2) (s_var 1))))) (s_ret (s_c fun _ => .bl _))
   (s_next)) (s_ret (s_orV (SE.t (s_op o_is (s_var 3) (SE.t (s_c fun _ => .non)))) (s_andV (SE.t (s_cb k_isi (s_consT (s_var 3) (s_consT (SE.t (s_c fun _ => .ty _))
   (s_nilT))))) (s_op o_in (s_var 3) (s_var 1)))))))
def dp_is_row : DSp := dpOf 4 d_is_row
def sp_is_row (Γ : Cn) : Sp := lift Γ 2 0 dp_is_row
def r_is_row : RQ := rSeq (rIfS (rOr (rNot (rTru (rCB fIsi (rCons (rVar 0) (rCons (rC (.ty "tuple")) (rNil)))))) (rTest (rOp fNe (rCB fLen (rCons (rVar 0) (rNil))) (rC (.int 2))))) (rRet (rC
   (.bl false))) (rNext)) (rSeq (rAsgG (rVarS 0) (rTup2 2 3)) (rSeq (rIfS (rOr (rNot (rTru (rFn R_is_name (rCons (rVarS 2) (rNil))))) (rTest (rOp fIn (rVar 2) (rVar 1))))
   (rRet (rC (.bl false))) (rNext)) (rRet (rOrV (rOp fIs (rVar 3) (rC .non)) (rAndV (rCB fIsi (rCons (rVar 3) (rCons (rC (.ty "str")) (rNil)))) (rOp fIn (rVar 3) (rVar
   1)))))))
def R_is_row : List D → Option D := runOf 4 r_is_row
theorem ag_is_row : AgF dp_is_row R_is_row := by
  refine ag_of ?_
  unfold d_is_row r_is_row
  exact a_seq (a_ifS (a_or (a_not (a_tru (a_cb (a_cons (a_var 0) (a_cons (a_c _) (a_nil)))))) (a_test (a_op (a_cb (a_cons (a_var 0) (a_nil))) (a_c _)))) (a_ret (a_c _)) (a_next))
   (a_seq (a_asgG (a_varS 0) (a_tup2 2 3)) (a_seq (a_ifS (a_or (a_not (a_tru (a_fn ag_is_name (a_cons (a_varS 2) (a_nil))))) (a_test (a_op (a_var 2) (a_var 1)))) (a_ret
   (a_c _)) (a_next)) (a_ret (a_orV (a_op (a_var 3) (a_c _)) (a_andV (a_cb (a_cons (a_var 3) (a_cons (a_c _) (a_nil)))) (a_op (a_var 3) (a_var 1)))))))
end GP

set_option Elab.async false
set_option linter.all false
set_option maxRecDepth 100000
set_option maxHeartbeats 4000000
/-! S1: runs step by step; names and rows. -/
namespace GP
open PySem PySem.Spec PyProof.Rows L2
section
variable {δ : DS} {i j m : Nat} {a b c : RE} {t u : RT} {A B : RQ} {r : RA} {f g : D → D → Option D} {d : D}
@[simp] theorem x_var : rVar i δ = rdS δ i := rfl
@[simp] theorem x_varS : rVarS i δ = shS δ i := rfl
@[simp] theorem x_c : rC d δ = some d := rfl
@[simp] theorem x_op : rOp f a b δ = (a δ).bind fun x => (b δ).bind fun y => f x y := rfl
@[simp] theorem x_un {f : D → Option D} : rUn f a δ = (a δ).bind f := rfl
@[simp] theorem x_test : rTest a δ = (a δ).bind blD := rfl
@[simp] theorem x_tru : rTru a δ = (a δ).bind truD := rfl
@[simp] theorem x_not : rNot t δ = (t δ).map (!·) := rfl
@[simp] theorem x_and : rAnd t u δ = (t δ).bind fun x => if x = true then u δ else some false := rfl
@[simp] theorem x_or : rOr t u δ = (t δ).bind fun x => if x = true then some true else u δ := rfl
@[simp] theorem x_andV : rAndV a b δ = ((a δ).bind blD).bind fun x => if x = true then b δ else some (.bl false) := rfl
@[simp] theorem x_orV : rOrV a b δ = ((a δ).bind blD).bind fun x => if x = true then some (.bl true) else b δ := rfl
@[simp] theorem x_notV : rNotV a δ = ((a δ).bind blD).map fun x => .bl (!x) := rfl
@[simp] theorem x_if : rIf t a b δ = (t δ).bind fun x => if x = true then a δ else b δ := rfl
@[simp] theorem x_nil : rNil δ = some [] := rfl
@[simp] theorem x_cons : rCons a r δ = (a δ).bind fun x => (r δ).map fun xs => x :: xs := rfl
@[simp] theorem x_tup : rTup r δ = (r δ).map .tup := rfl
@[simp] theorem x_lst : rLst r δ = (r δ).map .lst := rfl
@[simp] theorem x_newD : rNewD δ = some (.dct []) := rfl
@[simp] theorem x_cb {f : List D → Option D} : rCB f r δ = (r δ).bind f := rfl
@[simp] theorem x_fn {R : List D → Option D} : rFn R r δ = (r δ).bind R := rfl
@[simp] theorem x_fnK {R : List D → Option D} {perm : List Nat} : rFnK R perm r δ = (r δ).bind fun ds => R (pickL .non perm ds) := rfl
@[simp] theorem x_chain : rChain f g a b c δ = (a δ).bind fun x => (b δ).bind fun y => ((f x y).bind blD).bind fun k => if k = true then (c δ).bind fun z => g y z else some (.bl false) := rfl
@[simp] theorem x_noPart : rNoPart δ = some none := rfl
@[simp] theorem x_part : rPart a δ = ((a δ).bind intD).map some := rfl
@[simp] theorem x_sl {l h : RO} : rSl a l h δ = (a δ).bind fun x => (l δ).bind fun lo => (h δ).bind fun hi => fSl lo hi x := rfl
@[simp] theorem x_m1 {f : Str → D → Option D} : rM1 f a b δ = ((a δ).bind strD).bind fun s => (b δ).bind fun y => f s y := rfl
@[simp] theorem x_fld {f : Str} : rFld f a δ = (a δ).bind (fldD f) := rfl
@[simp] theorem x_mt {cn : String} {m : Str} {R : List D → Option D} : rMt cn m R a r δ = ((a δ).bind (metD cn m)).bind fun x => (r δ).bind fun xs => R (x :: xs) := rfl
@[simp] theorem x_pr {cn : String} {R : List D → Option D} : rPr cn R a δ = ((a δ).bind (insD cn)).bind fun x => R [x] := rfl
@[simp] theorem x_get2 : rGet2 a b c δ = (a δ).bind fun o => (b δ).bind fun y => (c δ).bind fun z => get2D o y z := rfl
@[simp] theorem x_iter : rIter a δ = (a δ).bind seqD := rfl
@[simp] theorem x_rng1 : rRng1 r δ = (r δ).bind rng1D := rfl
@[simp] theorem x_keys : rKeys a δ = (a δ).bind keysD := rfl
@[simp] theorem x_enum : rEnum r δ = (r δ).bind enumD := rfl
@[simp] theorem x_zip : rZip r δ = (r δ).bind zipD := rfl
@[simp] theorem x_name : rName i d δ = some (δ.set i (some (.sh d))) := rfl
@[simp] theorem x_tup2 {x y : D} : rTup2 i j (.tup [x, y]) δ = some ((δ.set i (some (.sh x))).set j (some (.sh y))) := rfl
@[simp] theorem x_tup3 {x y z : D} : rTup3 i j m (.tup [x, y, z]) δ = some (((δ.set i (some (.sh x))).set j (some (.sh y))).set m (some (.sh z))) := rfl
@[simp] theorem x_tup21 {x y z : D} : rTup21 i j m (.tup [.tup [x, y], z]) δ = some (((δ.set i (some (.sh x))).set j (some (.sh y))).set m (some (.sh z))) := rfl
@[simp] theorem x_tup12 {x y z : D} : rTup12 i j m (.tup [x, .tup [y, z]]) δ = some (((δ.set i (some (.sh x))).set j (some (.sh y))).set m (some (.sh z))) := rfl
@[simp] theorem x_yes : rYes δ = some true := rfl
@[simp] theorem x_next : rNext δ = some (.nx δ) := rfl
@[simp] theorem x_seq : rSeq A B δ = (A δ).bind fun o => match o with
  | .nx δ' => B δ'
  | o => some o := rfl
@[simp] theorem x_asg : rAsg a i δ = (a δ).map fun x => .nx (δ.set i (some (.sh x))) := rfl
@[simp] theorem x_asgO : rAsgO a i δ = (a δ).map fun x => .nx (δ.set i (some (.ow x))) := rfl
@[simp] theorem x_asgG {g : RGt} : rAsgG a g δ = (a δ).bind fun x => (g x δ).map .nx := rfl
@[simp] theorem x_drop : rDrop a δ = (a δ).map fun _ => .nx δ := rfl
@[simp] theorem x_ret : rRet a δ = (a δ).map .rt := rfl
@[simp] theorem x_retN : rRetN δ = some (.rt .non) := rfl
@[simp] theorem x_ifS : rIfS t A B δ = (t δ).bind fun x => if x = true then A δ else B δ := rfl
@[simp] theorem x_frz : rFrz i A δ = A (frz δ i) := rfl
@[simp] theorem x_for {g : RGt} : rFor r g B δ = (r δ).bind fun items => rForL g B items δ := rfl
@[simp] theorem x_par {k1 k2 : Bool} : rPar k1 k2 i j a b δ = (a δ).bind fun x => (b δ).map fun y => .nx ((δ.set i (some (mkS k1 x))).set j (some (mkS k2 y))) := rfl
@[simp] theorem x_lc {g : RGt} {vs : List Nat} : rLc r g t a vs δ = (r δ).bind fun items => (compL (lcStep g t a (wipeD δ vs)) items).map .lst := rfl
@[simp] theorem x_dc {g : RGt} {vs : List Nat} : rDc r g t a b vs δ = (r δ).bind fun items => (dcL (dcStep g t a b (wipeD δ vs)) items []).map .dct := rfl
@[simp] theorem x_lcStep {g : RGt} {x : D} : lcStep g t a δ x = (g x δ).bind fun δ' => (t δ').bind fun b => if b = true then (a δ').map some else some none := rfl
@[simp] theorem x_dcStep {g : RGt} {x : D} : dcStep g t a b δ x = (g x δ).bind fun δ' => (t δ').bind fun c => if c = true then (a δ').bind fun y => (b δ').bind fun z => (keyD y).map fun k => some (k, z) else some none := rfl
@[simp] theorem x_mkT : mkS true d = .ow d := rfl
@[simp] theorem x_mkF : mkS false d = .sh d := rfl
@[simp] theorem x_bl {b : Bool} : blD (.bl b) = some b := rfl
@[simp] theorem x_int {b : Int} : intD (.int b) = some b := rfl
@[simp] theorem x_str {b : Str} : strD (.str b) = some b := rfl
@[simp] theorem x_truB {b : Bool} : truD (.bl b) = some b := rfl
end
/-! reading a slot of a written list of slots -/
@[simp] theorem rd_0s (d : D) (δ : DS) : rdS (some (.sh d) :: δ) 0 = some d := rfl
@[simp] theorem rd_0o (d : D) (δ : DS) : rdS (some (.ow d) :: δ) 0 = some d := rfl
@[simp] theorem rd_s (o : Option Sl) (δ : DS) (n : Nat) : rdS (o :: δ) (n + 1) = rdS δ n := rfl
@[simp] theorem sh_0s (d : D) (δ : DS) : shS (some (.sh d) :: δ) 0 = some d := rfl
@[simp] theorem sh_s (o : Option Sl) (δ : DS) (n : Nat) : shS (o :: δ) (n + 1) = shS δ n := rfl
@[simp] theorem x_wipe1 (δ : DS) (i : Nat) : wipeD δ [i] = δ.set i none := rfl
@[simp] theorem x_wipe2 (δ : DS) (i j : Nat) : wipeD δ [i, j] = (δ.set j none).set i none := rfl
@[simp] theorem x_wipe3 (δ : DS) (i j k : Nat) : wipeD δ [i, j, k] = ((δ.set k none).set j none).set i none := rfl
/-! operators on plain values -/
@[simp] theorem eq_ii (i j : Int) : fEq (.int i) (.int j) = some (.bl (decide (i = j))) := by
  show some (D.bl (i == j)) = _
  by_cases h : i = j <;> simp [h]
@[simp] theorem ne_ii (i j : Int) : fNe (.int i) (.int j) = some (.bl (!decide (i = j))) := by
  show some (D.bl (!(i == j))) = _
  by_cases h : i = j <;> simp [h]
@[simp] theorem eq_ss (i j : Str) : fEq (.str i) (.str j) = some (.bl (decide (i = j))) := by
  show some (D.bl (i == j)) = _
  by_cases h : i = j <;> simp [h]
@[simp] theorem ne_ss (i j : Str) : fNe (.str i) (.str j) = some (.bl (!decide (i = j))) := by
  show some (D.bl (!(i == j))) = _
  by_cases h : i = j <;> simp [h]
@[simp] theorem lt_ii (i j : Int) : fLt (.int i) (.int j) = some (.bl (decide (i < j))) := rfl
@[simp] theorem le_ii (i j : Int) : fLe (.int i) (.int j) = some (.bl (decide (i ≤ j))) := rfl
@[simp] theorem gt_ii (i j : Int) : fGt (.int i) (.int j) = some (.bl (decide (j < i))) := rfl
@[simp] theorem ge_ii (i j : Int) : fGe (.int i) (.int j) = some (.bl (decide (j ≤ i))) := rfl
@[simp] theorem add_ii (i j : Int) : fAdd (.int i) (.int j) = some (.int (i + j)) := rfl
@[simp] theorem sub_ii (i j : Int) : fSub (.int i) (.int j) = some (.int (i - j)) := rfl
@[simp] theorem len_l (xs : List D) : fLen [.lst xs] = some (.int xs.length) := rfl
@[simp] theorem len_t (xs : List D) : fLen [.tup xs] = some (.int xs.length) := rfl
@[simp] theorem len_s (x : Str) : fLen [.str x] = some (.int x.length) := rfl
@[simp] theorem len_d (xs : List (Key × D)) : fLen [.dct xs] = some (.int xs.length) := rfl
@[simp] theorem is_non : fIs .non .non = some (.bl true) := rfl
@[simp] theorem is_str (x : Str) : fIs (.str x) .non = some (.bl false) := rfl
@[simp] theorem is_int (x : Int) : fIs (.int x) .non = some (.bl false) := rfl
@[simp] theorem isn_non : fIsNot .non .non = some (.bl false) := rfl
@[simp] theorem isn_str (x : Str) : fIsNot (.str x) .non = some (.bl true) := rfl
@[simp] theorem isn_int (x : Int) : fIsNot (.int x) .non = some (.bl true) := rfl
@[simp] theorem seqD_l (xs : List D) : seqD (.lst xs) = some xs := rfl
@[simp] theorem seqD_t (xs : List D) : seqD (.tup xs) = some xs := rfl
@[simp] theorem keyD_s (x : Str) : keyD (.str x) = some (.inr x) := rfl
@[simp] theorem keyD_i (x : Int) : keyD (.int x) = some (.inl x) := rfl
@[simp] theorem keysD_d (xs : List (Key × D)) : keysD (.dct xs) = some (xs.map fun kv => kD kv.1) := rfl
@[simp] theorem kD_s (x : Str) : kD (.inr x) = .str x := rfl
@[simp] theorem isi_ss (x : Str) : fIsi [.str x, .ty "str"] = some (.bl true) := rfl
@[simp] theorem isi_ns : fIsi [.non, .ty "str"] = some (.bl false) := rfl
@[simp] theorem isi_is (x : Int) : fIsi [.int x, .ty "str"] = some (.bl false) := rfl
@[simp] theorem isi_ii (x : Int) : fIsi [.int x, .ty "int"] = some (.bl true) := rfl
@[simp] theorem isi_ib (x : Int) : fIsi [.int x, .ty "bool"] = some (.bl false) := rfl
@[simp] theorem isi_tt (x : List D) : fIsi [.tup x, .ty "tuple"] = some (.bl true) := rfl
@[simp] theorem isi_ll (x : List D) : fIsi [.lst x, .ty "list"] = some (.bl true) := rfl
@[simp] theorem isi_dd (x : List (Key × D)) : fIsi [.dct x, .ty "dict"] = some (.bl true) := rfl
@[simp] theorem isi_lq (x : List D) : fIsi [.lst x, .tup [.ty "list", .ty "tuple"]] = some (.bl true) := rfl
@[simp] theorem isi_tq (x : List D) : fIsi [.tup x, .tup [.ty "list", .ty "tuple"]] = some (.bl true) := rfl
@[simp] theorem outD_rt (d : D) : outD (.rt d) = some d := rfl
@[simp] theorem outD_nx (δ : DS) : outD (.nx δ) = some .non := rfl
@[simp] theorem outF_rt (d : D) : outF (.rt d) = some d := rfl
@[simp] theorem st_1 (n : Nat) (a : D) : startD (n + 1) [a] = some (.sh a) :: List.replicate n none := by simp [startD]
@[simp] theorem st_2 (n : Nat) (a b : D) : startD (n + 2) [a, b] = some (.sh a) :: some (.sh b) :: List.replicate n none := by simp [startD]
@[simp] theorem st_3 (n : Nat) (a b c : D) : startD (n + 3) [a, b, c] = some (.sh a) :: some (.sh b) :: some (.sh c) :: List.replicate n none := by simp [startD]
@[simp] theorem st_4 (n : Nat) (a b c d : D) : startD (n + 4) [a, b, c, d] = some (.sh a) :: some (.sh b) :: some (.sh c) :: some (.sh d) :: List.replicate n none := by simp [startD]
@[simp] theorem st_5 (n : Nat) (a b c d e : D) : startD (n + 5) [a, b, c, d, e] = some (.sh a) :: some (.sh b) :: some (.sh c) :: some (.sh d) :: some (.sh e) :: List.replicate n none := by simp [startD]
/-! comprehensions -/
theorem compL_map {α : Type} {f : D → Option (Option D)} {e h : α → D} : ∀ {xs : List α}, (∀ x ∈ xs, f (e x) = some (some (h x))) → compL f (xs.map e) = some (xs.map h)
  | [], _ => rfl
  | x :: xs, q => by
    rw [List.map_cons, compL, q x List.mem_cons_self, compL_map fun y m => q y (List.mem_cons_of_mem _ m)]
    rfl
theorem compL_filter {α : Type} {f : D → Option (Option D)} {e h : α → D} {p : α → Bool} : ∀ {xs : List α}, (∀ x ∈ xs, f (e x) = some (if p x = true then some (h x) else none)) → compL f (xs.map e) = some ((xs.filter p).map h)
  | [], _ => rfl
  | x :: xs, q => by
    rw [List.map_cons, compL, q x List.mem_cons_self, compL_filter fun y m => q y (List.mem_cons_of_mem _ m), List.filter_cons]
    cases p x <;> rfl
/-! ### names -/
theorem blsD_map {α : Type} (f : α → Bool) (xs : List α) : blsD (xs.map fun x => .bl (f x)) = some (xs.map f) := by
  induction xs with
  | nil => rfl
  | cons x xs ih => rw [List.map_cons, blsD, ih]; rfl
theorem fAll_map {α : Type} (f : α → Bool) (xs : List α) : fAll [.lst (xs.map fun x => .bl (f x))] = some (.bl (xs.all f)) := by
  show (blsD _).map _ = _
  rw [blsD_map]
  simp
theorem in_letters (c : Nat) : decide (c ∈ letters.cps.toList) = isLow c := by
  rw [letters_list]
  unfold isLow
  by_cases h : 97 ≤ c ∧ c ≤ 122
  · rw [decide_eq_true h.1, decide_eq_true h.2]
    exact decide_eq_true (List.mem_map.mpr ⟨c - 97, by simp; omega, by omega⟩)
  · rw [show (decide (97 ≤ c) && decide (c ≤ 122)) = false by rw [← Bool.not_eq_true, Bool.and_eq_true, decide_eq_true_eq, decide_eq_true_eq]; exact h]
    refine decide_eq_false fun m => h ?_
    obtain ⟨k, hk, e⟩ := List.mem_map.mp m
    simp at hk
    omega
theorem R_is_name_str (w : Str) : R_is_name [.str w] = some (.bl (isNm w)) := by
  have hc : compL (lcStep (rName 1) rYes (rOp fIn (rVar 1) (rC dc_LETTERS)) ([some (.sh (.str w)), none] : DS)) (w.cps.toList.map fun c => D.str ⟨#[c]⟩) = some (w.cps.toList.map fun c => .bl (isLow c)) := by
    refine compL_map fun c _ => ?_
    rw [← in_letters]
    rfl
  have e1 : fIsi [.str w, .ty "str"] = some (.bl true) := rfl
  simp only [R_is_name, runOf, r_is_name, startD, List.map_cons, List.map_nil, List.length_cons, List.length_nil, List.cons_append, List.nil_append, List.replicate, x_ret, x_andV, x_cb, x_cons, x_var, x_c, x_nil, rd_0s, Option.bind_some, Option.map_some, e1, x_bl, if_true, x_chain, fLen, fLe, fCmp, fInt, dc_LONGEST, x_lc, x_iter, seqD, x_wipe1, List.set_cons_succ, List.set_cons_zero, hc, fAll_map, outD]
  by_cases h1 : (1 : Int) ≤ w.length
  · simp [h1]
    by_cases h2 : (w.length : Int) ≤ 8
    · simp [h2, outD]
      unfold isNm
      have h3 : 1 ≤ w.length := by omega
      have h4 : w.length ≤ 8 := by omega
      simp [h3, h4]
    · simp [h2, outD]
      unfold isNm
      have h4 : ¬ w.length ≤ 8 := by omega
      simp [h4]
  · simp [h1, outD]
    unfold isNm
    have h3 : ¬ 1 ≤ w.length := by omega
    simp [h3]
end GP
namespace GP
open PySem PySem.Spec PyProof.Rows L2
/-! ### rows of a forest -/
abbrev Row := Str × Option Str
def optD : Option Str → D
  | none => .non
  | some s => .str s
def rowD (r : Row) : D := .tup [.str r.1, optD r.2]
def parK (rows : List Row) : List (Key × D) := rows.map fun r => (.inr r.1, optD r.2)
def forD (rows : List Row) : D := .ins "Forest" [("parents", .dct (parK rows))]
def nms (rows : List Row) : List Str := rows.map (·.1)
/-- the rows of a forest -/
structure OkF (rows : List Row) : Prop where
  ne : rows ≠ []
  le : rows.length ≤ 8
  nd : (nms rows).Nodup
  nm : ∀ r ∈ rows, isNm r.1 = true
  pa : ∀ (i : Nat) (r : Row) (q : Str), rows[i]? = some r → r.2 = some q → q ∈ nms (rows.take i)
theorem valD_par (n : Str) : ∀ rows : List Row, valD (parK rows) (.inr n) = (rows.find? fun r => decide (r.1 = n)).map fun r => optD r.2
  | [] => rfl
  | r :: rows => by
    have ih := valD_par n rows
    unfold valD parK at ih ⊢
    rw [List.map_cons]
    by_cases h : r.1 = n
    · rw [List.find?_cons_of_pos (by simp [h]), List.find?_cons_of_pos (by simp [h])]
      rfl
    · rw [List.find?_cons_of_neg (by simp [h]), List.find?_cons_of_neg (by simp [h])]
      exact ih
theorem find_none {rows : List Row} {n : Str} : (rows.find? fun r => decide (r.1 = n)) = none ↔ n ∉ nms rows := by
  rw [List.find?_eq_none]
  unfold nms
  constructor
  · intro h m
    obtain ⟨r, hr, e⟩ := List.mem_map.mp m
    exact h r hr (by simpa using e)
  · intro h r hr e
    exact h (List.mem_map.mpr ⟨r, hr, by simpa using e⟩)
theorem isSome_par (n : Str) (rows : List Row) : (valD (parK rows) (.inr n)).isSome = (nms rows).contains n := by
  rw [valD_par]
  cases h : rows.find? fun r => decide (r.1 = n) with
  | none =>
    have := find_none.mp h
    simp [this]
  | some r =>
    have h1 := List.mem_of_find?_eq_some h
    have h2 := List.find?_some h
    have : n ∈ nms rows := List.mem_map.mpr ⟨r, h1, by simpa using h2⟩
    simp [this]
theorem fIn_par (n : Str) (rows : List Row) : fIn (.str n) (.dct (parK rows)) = some (.bl ((nms rows).contains n)) := by
  have h : inD (.str n) (.dct (parK rows)) = some (valD (parK rows) (.inr n)).isSome := rfl
  unfold fIn
  rw [h, isSome_par]
  rfl
theorem fNotIn_par (n : Str) (rows : List Row) : fNotIn (.str n) (.dct (parK rows)) = some (.bl (!(nms rows).contains n)) := by
  have h : inD (.str n) (.dct (parK rows)) = some (valD (parK rows) (.inr n)).isSome := rfl
  unfold fNotIn
  rw [h, isSome_par]
  rfl
/-- is the row a pair of a new name and an earlier one or None -/
def okRow (r : Row) (earlier : List Row) : Bool := isNm r.1 && !(nms earlier).contains r.1 && match r.2 with
  | none => true
  | some q => (nms earlier).contains q
theorem R_is_row_ok (r : Row) (earlier : List Row) : R_is_row [rowD r, .dct (parK earlier)] = some (.bl (okRow r earlier)) := by
  obtain ⟨n, q⟩ := r
  unfold okRow
  cases h1 : isNm n
  · simp [R_is_row, runOf, r_is_row, rowD, R_is_name_str, h1]
  · by_cases h2 : n ∈ nms earlier
    · simp [R_is_row, runOf, r_is_row, rowD, R_is_name_str, h1, fIn_par, h2]
    · cases q with
      | none => simp [R_is_row, runOf, r_is_row, rowD, R_is_name_str, h1, fIn_par, h2, optD]
      | some q => simp [R_is_row, runOf, r_is_row, rowD, R_is_name_str, h1, fIn_par, h2, optD]
theorem okRow_of {rows : List Row} (h : OkF rows) {i : Nat} {r : Row} (hi : rows[i]? = some r) : okRow r (rows.take i) = true := by
  have hl : i < rows.length := (List.getElem?_eq_some_iff.mp hi).1
  have hm : r ∈ rows := List.mem_of_getElem? hi
  unfold okRow
  rw [h.nm r hm]
  have h1 : r.1 ∉ nms (rows.take i) := fun m => by
    have e : nms rows = nms (rows.take i) ++ nms (rows.drop i) := by unfold nms; rw [← List.map_append, List.take_append_drop]
    have nd := h.nd
    rw [e] at nd
    have hd : rows.drop i = r :: rows.drop (i + 1) := by
      rw [List.drop_eq_getElem_cons hl]
      rw [List.getElem?_eq_getElem hl] at hi
      rw [Option.some.inj hi]
    exact (List.nodup_append.mp nd).2.2 r.1 m r.1 (by rw [hd]; exact List.mem_cons_self) rfl
  cases hq : r.2 with
  | none => simp [h1]
  | some q =>
    have := h.pa i r q hi hq
    simp [h1, this]
end GP

set_option Elab.async false
set_option linter.all false
set_option maxRecDepth 100000
set_option maxHeartbeats 4000000
/-! S2: Forest(rows). -/
namespace GP
open PySem PySem.Spec PyProof.Rows L2 ClX
structure KcF (Γ : Cn) : Prop where
  ad : Γ.cls "Forest" = some (Γ.adr "Forest")
  cl : Cls Γ.K (Γ.adr "Forest")
  na : NoAttr Γ.K (Γ.adr "Forest") "parents"
  co : Γ.con "Forest" = .ref (Γ.adr "Forest")
  mo : ∃ mc u, CRead Γ.K (Γ.adr "Forest") mc ∧ CVal Γ.K (Γ.adr "Forest") mc "MOST" (.int 8) u
def dp_Forest_init : DSp := fun ds P => ∃ rows, (ds = [.lst (rows.map rowD)] ∨ ds = [.tup (rows.map rowD)]) ∧ OkF rows ∧ P (forD rows)
def sp_Forest_init (Γ : Cn) : Sp := liftI Γ "Forest" 1 0 dp_Forest_init
def t_Forest_c (Γ : Cn) : TT := tOr (tNot (tTru Γ.K (tFn (sp_is_list Γ) E0 (tCons (tVar 1) (tNil))))) (tNot (tTest (tChain (gLe) (gLe) (tC (.int 1)) (tCB (gLen Γ.K) (tCons (tVar 1) (tNil))) (tCVal Γ.K (tC (Γ.con "Forest")) "MOST"))))
def t_Forest_b (Γ : Cn) : TS := tSeq (tIfS (tNot (tTru Γ.K (tFn (sp_is_row Γ) E0 (tCons (tVar 2) (tCons (tFld Γ.K (tVar 0) "parents") (tNil)))))) (tNever) (tNext)) (tSeq (tAsg (tVar 2) (gTup Γ.K 2 (gCons (gName 3) (gCons (gName 4) (gNil))))) (tAsg (tVar 4) (L2.gSub (tFld Γ.K (tVar 0) "parents") (tVar 3) gSet)))
def t_Forest_init (Γ : Cn) : TS := tSeq (tIfS (t_Forest_c Γ) (tNever) (tNext)) (tSeq (sFld Γ.K (tVar 0) (tDNewK) "parents") (tFor (gIter Γ.K (tVar 1)) (gName 2) (t_Forest_b Γ)))
section
variable {Γ : Cn} {L : LS}
theorem s_most (C : KcF Γ) : SE Γ L 0 (tCVal Γ.K (tC (Γ.con "Forest")) "MOST") (dC (.int 8)) := fun t σ δ B G H l x e hc P hp Q k => by
  obtain ⟨mc, u, h1, h2⟩ := C.mo
  exact ⟨_, mc, .int 8, u, C.co, h1, h2, k _ _ G H (At.start x l) (.int 8) hp⟩
def d_Forest_c : DT := dOr (dNot (dTru (dFn dp_is_list (dCons (dVarS 1) dNil)))) (dNot (dTest (dChain fLe fLe (dC (.int 1)) (dCB fLen (dCons (dVar 1) dNil)) (dC (.int 8)))))
theorem snd_Forest_c (C : KcF Γ) : SB Γ L 0 (t_Forest_c Γ) d_Forest_c :=
  s_or (s_not (s_tru (SE.t (s_fn (s := dp_is_list) (cf := 0) (s_cons (s_varS 1) s_nil))))) (s_not (s_test (SE.t (s_chain o_le o_le (SE.t (s_c fun _ => .int _)) (SE.t (s_cb k_len (s_consT (s_var 1) s_nilT))) (SE.t (s_most C))))))
theorem R_is_list_l (xs : List D) : R_is_list [.lst xs] = some (.bl true) := rfl
theorem R_is_list_t (xs : List D) : R_is_list [.tup xs] = some (.bl true) := rfl
theorem forest_c {rows : List Row} (ok : OkF rows) {d : D} (hd : d = .lst (rows.map rowD) ∨ d = .tup (rows.map rowD)) (δ : DS) (h : δ[1]? = some (some (.sh d))) (P : Bool → Prop) (p : P false) : d_Forest_c δ P := by
  have hs : shS δ 1 = some d := by unfold shS; rw [h]
  have hr : rdS δ 1 = some d := by unfold rdS; rw [h]
  have ag : AgT d_Forest_c (rOr (rNot (rTru (rFn R_is_list (rCons (rVarS 1) rNil)))) (rNot (rTest (rChain fLe fLe (rC (.int 1)) (rCB fLen (rCons (rVar 1) rNil)) (rC (.int 8)))))) :=
    a_or (a_not (a_tru (a_fn ag_is_list (a_cons (a_varS 1) a_nil)))) (a_not (a_test (a_chain (a_c _) (a_cb (a_cons (a_var 1) a_nil)) (a_c _))))
  refine ag δ false P ?_ p
  have h1 : 1 ≤ rows.length := List.length_pos_iff.mpr ok.ne
  have h2 := ok.le
  have h3 : (1 : Int) ≤ (rows.length : Int) := by omega
  have h4 : (rows.length : Int) ≤ 8 := by omega
  rcases hd with rfl | rfl
  · simp [hs, hr, R_is_list_l, h3, h4]
  · simp [hs, hr, R_is_list_t, h3, h4]
theorem nodup_take {α : Type} {l : List α} (h : l.Nodup) (n : Nat) : (l.take n).Nodup := List.Sublist.nodup (List.take_sublist n l) h
theorem forest_loop (C : KcF Γ) {rows : List Row} (ok : OkF rows) {t : Nat} (ht : t ≤ TMAX) {J : It} {x dx p : Addr} {v : V} {G0 G H1 Hs : Hp} {D : Ends} {σ0 : L2.St} {s2 s3 s4 : Option V} (hI : ItsOf Γ L (fun _ => False) J (rows.map rowD) G Hs)
    (nx : H1 x = none) (ndx : H1 dx = none) (np : H1 p = none) (n1 : dx ≠ x) (n2 : x ≠ p) (n3 : dx ≠ p) (xl : notL L x) (dl : notL L dx) (pl : notL L p) (gx : G x = none) (gd : G dx = none) (gp : G p = none) (hσ : σ0 = [some (.ref x), some v, s2, s3, s4])
    (a0 : At L t H1 G0 G Hs) (hx : Hs x = some (.ins (Γ.adr "Forest") dx [("parents", .ref p)])) (hdx : Hs dx = some (.own x)) (hp : Hs p = some (.dK []))
    (fin : ∀ σ H' G', At L t H1 G0 G' H' → Rep Γ L G' (.ref x) (forD rows) → D.nx σ H') :
    ∃ W : Nat → Nat → L2.St → Hp → Prop, (∃ m, W 0 m σ0 Hs) ∧ ∀ i m σ H, W i m σ H → (J.stop i H ∧ D.nx σ H) ∨ (J.go i H ∧ ∃ M : L2.St → Hp → Prop, (∀ σ' H', M σ' H' → ∃ m', m' < m ∧ W (i + 1) m' σ' H') ∧ ∀ y H', J.yld i H y H' → gName 2 y σ H' fun σ2 H2 => t_Forest_b Γ { D with nx := M, ct := M, bk := D.nx } σ2 H2) := by
  let W : Nat → Nat → L2.St → Hp → Prop := fun i m σ H' => m = rows.length - i ∧ i ≤ rows.length ∧ (∃ s2 s3 s4, σ = [some (.ref x), some v, s2, s3, s4]) ∧ ∃ G' xs, At L t H1 G0 G' H' ∧ Ex G G' ∧ H' x = some (.ins (Γ.adr "Forest") dx [("parents", .ref p)]) ∧ H' dx = some (.own x) ∧ H' p = some (.dK xs) ∧ RepK Γ L G' xs (parK (rows.take i)) ∧ G' x = none ∧ G' dx = none ∧ G' p = none
  refine ⟨W, ⟨rows.length, by simp, Nat.zero_le _, ⟨s2, s3, s4, hσ⟩, G, [], a0, Ex.rfl', hx, hdx, hp, by rw [List.take_zero]; exact .nil, gx, gd, gp⟩, ?_⟩
  rintro i m σ H ⟨rfl, hi, ⟨s2, s3, s4, rfl⟩, G1, xs, a1, y1, hx1, hd1, hp1, rk, g1, g2, g3⟩
  by_cases hlt : i < rows.length
  · right
    obtain ⟨r, hr⟩ : ∃ r, rows[i]? = some r := ⟨rows[i], by simp [hlt]⟩
    have hr' : (rows.map rowD)[i]? = some (rowD r) := by rw [List.getElem?_map, hr]; rfl
    refine ⟨hI.go i G1 H (by rw [List.length_map]; exact hlt) y1 a1.gh (fun _ _ z => z.elim), fun σ2 H2 => W (i + 1) (rows.length - (i + 1)) σ2 H2, fun σ2 H2 w => ⟨_, by omega, w⟩, fun y H2 hy => ?_⟩
    obtain ⟨G2, a2, ry⟩ := hI.yl t i y (rowD r) G1 H H2 hr' a1.lw y1 a1.gh (fun _ _ z => z.elim) hy
    have ax := a1.tr a2
    have hx2 := a2.bh x _ hx1 xl
    have hd2 := a2.bh dx _ hd1 dl
    have hp2 := a2.bh p _ hp1 pl
    have e1 : G2 x = none := stays_none a2 g1 hx1
    have e2 : G2 dx = none := stays_none a2 g2 hd1
    have e3 : G2 p = none := stays_none a2 g3 hp1
    have rk2 := rk.up a2.gg
    -- is_row(row, self.parents)
    obtain ⟨l3, x3⟩ := At.lent ax.lw ax.gh e3 hp2 pl
    have ex3 : Ex G2 (upd G2 p (.dK xs)) := Ex.new e3
    have hlen : (parK (rows.take i)).length ≤ LIM := by
      unfold parK
      rw [List.length_map, List.length_take]
      have := ok.le
      show _ ≤ 1000000
      omega
    refine ⟨y, rfl, .ref x, rfl, x, _, dx, _, .ref p, rfl, hx2, C.cl, C.na, rfl, ?_⟩
    refine ⟨rfl, L, t, [rowD r, .dct (parK (rows.take i))], upd G2 p (.dK xs), fun z => z = .bl true, l3, by omega, x3, .cons (ry.up ex3) (.cons (.dct upd_same (rk2.up ex3) hlen) .nil), ?_, fun z hz w G4 H4 a4 r4 => ?_⟩
    · refine ag_is_row _ _ _ ?_ rfl
      rw [R_is_row_ok, okRow_of ok hr]
    subst hz
    cases r4
    obtain ⟨a5, hp5⟩ := At.lend e3 hp2 pl a4
    refine ⟨true, rfl, ?_⟩
    show (if (!true) = true then _ else _)
    rw [if_neg (by decide)]
    have hx5 := a5.bh x _ hx2 xl
    have hd5 := a5.bh dx _ hd2 dl
    have a6 := ax.tr a5
    have f1 : del G4 p x = none := stays_none a5 e1 hx2
    have f2 : del G4 p dx = none := stays_none a5 e2 hd2
    have rk5 := rk2.up a5.gg
    -- name, parent = row
    cases ry with
    | tup hh rl zz =>
      cases rl with
      | cons rn rl => cases rl with
        | cons rq rl =>
          cases rl
          rename_i ad vn vq
          refine ⟨.ref ad, rfl, ad, [vn, vq], rfl, (a5.gh.tp (a5.gg.tp hh)).sq, rfl, vn, _, rfl, vq, _, rfl, rfl, ?_⟩
          -- self.parents[name] = parent
          refine ⟨vq, rfl, .ref x, rfl, x, _, dx, _, .ref p, rfl, hx5, C.cl, C.na, rfl, vn, rfl, ?_⟩
          cases rn with
          | str oks =>
          have hlx : xs.length < sizeLine := by
            have h1 := rk.len
            have : xs.length ≤ 1000000 := by rw [h1]; exact hlen
            rw [sizeLine_eq]
            omega
          refine .inr ⟨p, _, rfl, DPut.k (k := Sum.inr r.1) hp5 hlx, ?_⟩
          have npr : valD (parK (rows.take i)) (.inr r.1) = none := by
            have h1 := okRow_of ok hr
            unfold okRow at h1
            rw [Bool.and_eq_true, Bool.and_eq_true] at h1
            have h2 := isSome_par r.1 (rows.take i)
            rw [(Bool.not_eq_true' _).mp h1.1.2] at h2
            cases h3 : valD (parK (rows.take i)) (.inr r.1) with
            | none => rfl
            | some z => rw [h3] at h2; cases h2
          have hput : putD (parK (rows.take i)) (.inr r.1) (optD r.2) = parK (rows.take (i + 1)) := by
            have h4 : ((parK (rows.take i)).any fun kv => decide (kv.1 = Sum.inr r.1)) = false := by
              rw [List.any_eq_false]
              intro kv hk e
              unfold valD at npr
              rw [Option.map_eq_none_iff, List.find?_eq_none] at npr
              exact npr kv hk e
            unfold putD
            rw [h4]
            have h5 : rows.take (i + 1) = rows.take i ++ [r] := by rw [List.take_add_one, hr]; rfl
            rw [h5]
            unfold parK
            rw [List.map_append]
            rfl
          have rnew := rk5.put (.inr r.1) oks (rq.up a5.gg)
          rw [hput] at rnew
          exact ⟨rfl, hlt, ⟨some (.ref ad), some (.str r.1), some vq, rfl⟩, del G4 p, _, a6.write np del_same pl, (y1.tr a2.gg).tr a5.gg, by rw [upd_ne n2]; exact hx5, by rw [upd_ne n3]; exact hd5, upd_same, rnew, f1, f2, del_same⟩
  · left
    have hi' : i = rows.length := by omega
    subst hi'
    rw [List.take_length] at rk
    refine ⟨by have := hI.st G1 H y1 a1.gh (fun _ _ z => z.elim); rw [List.length_map] at this; exact this, ?_⟩
    have b1 : Ex G1 (upd G1 p (.dK xs)) := Ex.new g3
    have b2 : Ex (upd G1 p (.dK xs)) (upd (upd G1 p (.dK xs)) dx (.own x)) := Ex.new (by rw [upd_ne n3]; exact g2)
    have b3 : Ex (upd (upd G1 p (.dK xs)) dx (.own x)) (upd (upd (upd G1 p (.dK xs)) dx (.own x)) x (.ins (Γ.adr "Forest") dx [("parents", .ref p)])) := Ex.new (by rw [upd_ne n1.symm, upd_ne n2]; exact g1)
    have hlen : (parK rows).length ≤ LIM := by
      unfold parK
      rw [List.length_map]
      have := ok.le
      show _ ≤ 1000000
      omega
    have ff : ∀ {q : Addr} {o : HO} {G2 : Hp}, At L t H1 G0 G2 H → H q = some o → H1 q = none → notL L q → G2 q = none → At L t H1 G0 (upd G2 q o) H := fun {q o G2} a ho hn hl hg => by
      refine ⟨a.gg.tr (Ex.new hg), fun b u h => ?_, a.bh, fun b u h => ?_, fun pp g e => ?_⟩
      · by_cases z : b = q
        · subst z; rw [upd_same] at h; cases h; exact .inl ho
        · rw [upd_ne z] at h; exact a.gh b u h
      · by_cases z : b = q
        · subst z; exact .inr hn
        · rw [upd_ne z] at h; exact a.nw b u h
      · obtain ⟨h1, h2, h3, c1, gr, cs, lf, tn, k1, k2, k3, k4, k5, k6, k7⟩ := a.lw pp g e
        obtain ⟨m1, m2⟩ := hl pp g e
        exact ⟨by rw [upd_ne (Ne.symm m1)]; exact h1, by rw [upd_ne (Ne.symm m2)]; exact h2, h3, c1, gr, cs, lf, tn, k1, k2, k3, k4, k5, k6, by rw [upd_ne (ne_of_none k7 hg)]; exact k7⟩
    have c1 := ff a1 hp1 np pl g3
    have c2 := ff c1 hd1 ndx dl (by rw [upd_ne n3]; exact g2)
    have c3 := ff c2 hx1 nx xl (by rw [upd_ne n1.symm, upd_ne n2]; exact g1)
    refine fin _ H _ c3 (.ins upd_same (by rw [upd_ne n1, upd_same]) C.ad (.cons (.dct ?_ (rk.up ((b1.tr b2).tr b3)) hlen) .nil))
    rw [upd_ne n2.symm, upd_ne n3.symm, upd_same]
theorem pure_Forest (C : KcF Γ) (vs : List V) (H : Hp) (Q : VK) (E : XK) (h : sp_Forest_init Γ vs H Q E) : t_Forest_init Γ { nx := fun _ H2 => Q .non H2, rt := Q } (L2.start ["self", "rows", "row", "name", "parent"] vs) H := by
  obtain ⟨hlen, x, dx, rest, H1, rfl, rfl, nx, ndx, n1, L, t, ds, G, P, lw, ht, xf, rr, ⟨rows, hd, ok, hP⟩, k⟩ := h
  have key : ∀ d, ds = [d] → (d = .lst (rows.map rowD) ∨ d = .tup (rows.map rowD)) → t_Forest_init Γ { nx := fun _ H2 => Q .non H2, rt := Q } (L2.start ["self", "rows", "row", "name", "parent"] (.ref x :: rest)) (upd (upd H1 dx (.own x)) x (.ins (Γ.adr "Forest") dx [])) := fun d e he => by
    subst e
    cases rr with
    | cons rv rr =>
      cases rr
      rename_i v
      have nx2 : (upd H1 dx (.own x)) x = none := by rw [upd_ne n1.symm]; exact nx
      have a1 := At.newH (o := .own x) xf lw ndx
      have a2 := At.newH (o := .ins (Γ.adr "Forest") dx []) a1.gh a1.lw nx2
      have a12 := a1.tr a2
      have sg : L2.start ["self", "rows", "row", "name", "parent"] [.ref x, v] = [some (.ref x), some v, none, none, none] := rfl
      rw [sg]
      have env : Env Γ L (upd (upd H1 dx (.own x)) x (.ins (Γ.adr "Forest") dx [])) G (upd (upd H1 dx (.own x)) x (.ins (Γ.adr "Forest") dx [])) [some (.ref x), some v, none, none, none] [none, some (.sh d), none, none, none] := by
        refine ⟨fun i d' h => ?_, fun i d' h => ?_, fun i j d' e p _ h => ?_, rfl⟩
        · match i, h with
          | 1, h => cases h; exact ⟨v, rfl, rv⟩
          | 0, h => cases h
          | 2, h => cases h
          | 3, h => cases h
          | 4, h => cases h
          | _ + 5, h => simp at h
        · match i, h with
          | 1, h => cases h
          | 0, h => cases h
          | 2, h => cases h
          | 3, h => cases h
          | 4, h => cases h
          | _ + 5, h => simp at h
        · match i, h with
          | 1, h => cases h
          | 0, h => cases h
          | 2, h => cases h
          | 3, h => cases h
          | 4, h => cases h
          | _ + 5, h => simp at h
      refine snd_Forest_c C t _ _ _ G _ a12.lw a12.gh env (by omega) (fun b => b = false) (forest_c ok he _ rfl _ rfl) _ fun b G2 H2 a3 hb => ?_
      subst hb
      show (if false = true then _ else _)
      rw [if_neg (by decide)]
      -- self.parents = {}
      have a123 := a12.tr a3
      have hx2 : H2 x = some (.ins (Γ.adr "Forest") dx []) := a3.bh x _ upd_same (lw.out nx)
      have hd2 : H2 dx = some (.own x) := a3.bh dx _ (by rw [upd_ne n1, upd_same]) (lw.out ndx)
      intro p np
      have npx : x ≠ p := ne_of_none hx2 np
      have npd : dx ≠ p := ne_of_none hd2 np
      refine ⟨.ref x, rfl, x, _, dx, [], rfl, by rw [upd_ne npx]; exact hx2, C.cl, C.na, by decide, ?_⟩
      have np1 : H1 p = none := a123.old np
      have a4 := At.newH (o := .dK []) a123.gh a123.lw np
      have hx1 : (upd (upd H1 dx (.own x)) x (.ins (Γ.adr "Forest") dx [])) x = some (.ins (Γ.adr "Forest") dx []) := upd_same
      have hd1 : (upd (upd H1 dx (.own x)) x (.ins (Γ.adr "Forest") dx [])) dx = some (.own x) := by rw [upd_ne n1, upd_same]
      have gx : G2 x = none := stays_none a3 (xf.none nx) hx1
      have gd : G2 dx = none := stays_none a3 (xf.none ndx) hd1
      have gp : G2 p = none := a123.gh.none np
      have at5 : At L t H1 G G2 (upd (upd H2 p (.dK [])) x (.ins (Γ.adr "Forest") dx [("parents", .ref p)])) := (a123.tr a4).write nx gx (lw.out nx)
      have rv2 := rv.up a123.gg
      have loop := fun (J : It) (hI : ItsOf Γ L (fun _ => False) J (rows.map rowD) G2 (upd (upd H2 p (.dK [])) x (.ins (Γ.adr "Forest") dx [("parents", .ref p)]))) => forest_loop C ok (t := t) (by omega) (D := { nx := fun _ H2 => Q .non H2, rt := Q }) (s2 := none) (s3 := none) (s4 := none) (v := v) hI nx ndx np1 n1 npx npd (lw.out nx) (lw.out ndx) (lw.out np1) gx gd gp rfl at5 upd_same (by rw [upd_ne n1, upd_ne npd]; exact hd2) (by rw [upd_ne npx.symm, upd_same]) fun σ H' G' a r => k _ hP G' H' a r
      refine ⟨v, rfl, ?_⟩
      rcases he with rfl | rfl
      · cases rv2 with
        | lst hh rl z => exact .inl ⟨_, rfl, ⟨_, at5.gh.sl (SqL.of hh)⟩, loop _ (its_list rl z fun G3 H3 g x3 _ => x3.sl (SqL.of (g _ _ hh)))⟩
      · cases rv2 with
        | tup hh rl z => exact .inr (.inl ⟨_, rfl, ⟨_, (at5.gh.tp hh).sq⟩, loop _ (its_tup rl z fun G3 H3 g x3 => (x3.tp (g.tp hh)).sq)⟩)
  rcases hd with hd | hd
  · exact key _ hd (.inl rfl)
  · exact key _ hd (.inr rfl)
end
end GP

set_option Elab.async false
set_option linter.all false
set_option maxRecDepth 100000
set_option maxHeartbeats 4000000
/-! S3: the program's accounts and claims, and what many laws draw (printed by gen2). -/
namespace GP
open PySem PySem.Spec PyProof.Rows L2
def dc_MOST_AMOUNT : D := .int 1000000000
def dc_MOST_CLAIMS : D := .int 20
def dc_MOST_BALANCE : D := .int 1000000000000
/-! _law_begun: slots 0 _law_script 1 _law_great 2 _law_cell; calls ; cost 0 -/
/-! _law_mixed: slots 0 _law_state 1 _law_found 2 _law_prime 3 _law_blend 4 _law_cell; calls ; cost 0 -/
/-! _law_take: slots 0 _law_state 1 _law_size 2 _law_found; calls _law_mixed; cost 1 -/
/-! _law_pick: slots 0 _law_state 1 _law_some; calls _law_take; cost 1 -/
/-! _law_words: slots 0 _law_state 1 _law_size 2 _law_own 3 _law_letters 4 _law_found 5 _law_k 6 _law_word 7 _law_j 8 _law_letter 9 _law_other; calls _law_pick _law_take; cost 99 -/
/-! _law_forest: slots 0 _law_state 1 _law_most 2 _law_rows 3 _law_name 4 _law_parents 5 _law_row; calls _law_words _law_take _law_pick; cost 109; new -/
def t_law_forest (Γ : Cn) : TS := tSeq (tAsg (tLst (tNil)) (gName 2)) (tSeq (tFor (gIter Γ.K (tFn (sp_law_words Γ) E0 (tCons (tVar 0) (tCons (tOp (gAdd Γ.K) (tC (.int 1)) (tFn (sp_law_take Γ) E0 (tCons
   (tVar 0) (tCons (tVar 1) (tNil))))) (tNil))))) (gName 3) (tSeq (tAsg (tOp (gAdd Γ.K) (tLst (tCons (tC .non) (tNil))) (tLc (gIter Γ.K (tVar 2)) (gName 5) (tYes) (tOp
   (gIx Γ.K) (tVar 5) (tC (.int 0))) [5])) (gName 4)) (tDrop (tBM Γ.K "list" rAppend (tVar 2) (tCons (tTup (tCons (tVar 3) (tCons (tFn (sp_law_pick Γ) E0 (tCons (tVar 0)
   (tCons (tVar 4) (tNil)))) (tNil)))) tNil))))) (tRet (tVar 2)))
def d_law_forest_b1 : DQ := dSeq (dAsg (dOp fAdd (dLst (dCons (dC .non) (dNil))) (dLc (dIter (dVar 2)) (dName 5) (dYes) (dOp fIx (dVar 5) (dC (.int 0))) [5])) 4) (dApp 2 (dTup (dCons (dVarS 3)
   (dCons (dFn dp_law_pick (dCons (dVarS 0) (dCons (dVarS 4) (dNil)))) (dNil)))))
def d_law_forest : DQ := dSeq (dAsgO (dLst (dNil)) 2) (dSeq (dForN 9 (dIter (dFn dp_law_words (dCons (dVarS 0) (dCons (dOp fAdd (dC (.int 1)) (dFn dp_law_take (dCons (dVarS 0) (dCons (dVarS 1)
   (dNil))))) (dNil))))) (dName 3) (d_law_forest_b1)) (dRetV 2))
theorem snd_law_forest {Γ : Cn} {L : LS} : SS Γ L 109 (t_law_forest Γ) d_law_forest := by
  unfold t_law_forest d_law_forest d_law_forest_b1
  exact s_seq (s_asgO 2 (s_lst (s_nil))) (s_seq (s_forN 9 (s_iter (s_fn (s := dp_law_words) (cf := 99) (s_cons (s_varS 0) (s_cons (s_op o_add (SE.t (s_c fun _ => .int _)) (SE.t
   (s_fn (s := dp_law_take) (cf := 1) (s_cons (s_varS 0) (s_cons (s_varS 1) (s_nil)))))) (s_nil))))) (s_name 3) (s_seq (s_asg 4 (s_op o_add (SF.t (s_lst (s_cons (s_c fun
   _ => .non) (s_nil)))) (SF.t (s_lc (s_iterT (s_var 2)) (s_name 5) (s_yes) (s_op o_ix (s_var 5) (SE.t (s_c fun _ => .int _))))))) (s_app 2 (s_tup (s_cons (s_varS 3)
   (s_cons (s_fn (s := dp_law_pick) (cf := 1) (s_cons (s_varS 0) (s_cons (s_varS 4) (s_nil)))) (s_nil))))))) (s_retV 2))
def dp_law_forest : DSp := dpOfF 6 d_law_forest
def sp_law_forest (Γ : Cn) : Sp := liftF Γ 2 109 dp_law_forest
/-! Forest.__init__: slots 0 self 1 rows 2 row 3 name 4 parent; calls is_list is_row; cost 0 -/
/-! _law_claims: slots 0 _law_state 1 _law_names 2 _law_numbers 3 _law_found 4 _law_k 5 _law_claim; calls _law_pick _law_take; cost 81; new -/
def t_law_claims (Γ : Cn) : TS := tSeq (tAsg (tLst (tNil)) (gName 3)) (tSeq (tFor (iRng1 (tCons (tFn (sp_law_pick Γ) E0 (tCons (tVar 0) (tCons (tLst (tCons (tC (.int 0)) (tCons (tC (.int 1)) (tCons (tC
   (.int 2)) (tCons (tC (.int 3)) (tCons (tC (.int 4)) (tCons (tC (.int 6)) (tCons (tC (.int 20)) (tNil))))))))) (tNil)))) (tNil))) (gName 4) (tSeq (tAsg (tFn
   (sp_law_pick Γ) E0 (tCons (tVar 0) (tCons (tLst (tCons (tC (.int 0)) (tCons (tC (.int 1)) (tCons (tFn (sp_law_take Γ) E0 (tCons (tVar 0) (tCons (tVar 2) (tNil))))
   (tCons (tFn (sp_law_take Γ) E0 (tCons (tVar 0) (tCons (tVar 2) (tNil)))) (tCons (tVar 2) (tNil))))))) (tNil)))) (gName 5)) (tDrop (tBM Γ.K "list" rAppend (tVar 3)
   (tCons (tTup (tCons (tFn (sp_law_pick Γ) E0 (tCons (tVar 0) (tCons (tVar 1) (tNil)))) (tCons (tVar 5) (tNil)))) tNil))))) (tRet (tVar 3)))
def d_law_claims_b1 : DQ := dSeq (dAsg (dFn dp_law_pick (dCons (dVarS 0) (dCons (dLst (dCons (dC (.int 0)) (dCons (dC (.int 1)) (dCons (dFn dp_law_take (dCons (dVarS 0) (dCons (dVarS 2) (dNil))))
   (dCons (dFn dp_law_take (dCons (dVarS 0) (dCons (dVarS 2) (dNil)))) (dCons (dVarS 2) (dNil))))))) (dNil)))) 5) (dApp 3 (dTup (dCons (dFn dp_law_pick (dCons (dVarS 0)
   (dCons (dVarS 1) (dNil)))) (dCons (dVarS 5) (dNil)))))
def d_law_claims : DQ := dSeq (dAsgO (dLst (dNil)) 3) (dSeq (dForN 20 (dRng1 (dCons (dFn dp_law_pick (dCons (dVarS 0) (dCons (dLst (dCons (dC (.int 0)) (dCons (dC (.int 1)) (dCons (dC (.int 2))
   (dCons (dC (.int 3)) (dCons (dC (.int 4)) (dCons (dC (.int 6)) (dCons (dC (.int 20)) (dNil))))))))) (dNil)))) (dNil))) (dName 4) (d_law_claims_b1)) (dRetV 3))
theorem snd_law_claims {Γ : Cn} {L : LS} : SS Γ L 81 (t_law_claims Γ) d_law_claims := by
  unfold t_law_claims d_law_claims d_law_claims_b1
  exact s_seq (s_asgO 3 (s_lst (s_nil))) (s_seq (s_forN 20 (s_rng1 (s_consT (SE.t (s_fn (s := dp_law_pick) (cf := 1) (s_cons (s_varS 0) (s_cons (SF.e (s_lst (s_cons (s_c fun _ =>
   .int _) (s_cons (s_c fun _ => .int _) (s_cons (s_c fun _ => .int _) (s_cons (s_c fun _ => .int _) (s_cons (s_c fun _ => .int _) (s_cons (s_c fun _ => .int _) (s_cons
   (s_c fun _ => .int _) (s_nil)))))))))) (s_nil))))) (s_nilT))) (s_name 4) (s_seq (s_asg 5 (s_fn (s := dp_law_pick) (cf := 1) (s_cons (s_varS 0) (s_cons (SF.e (s_lst
   (s_cons (s_c fun _ => .int _) (s_cons (s_c fun _ => .int _) (s_cons (s_fn (s := dp_law_take) (cf := 1) (s_cons (s_varS 0) (s_cons (s_varS 2) (s_nil)))) (s_cons (s_fn
   (s := dp_law_take) (cf := 1) (s_cons (s_varS 0) (s_cons (s_varS 2) (s_nil)))) (s_cons (s_varS 2) (s_nil)))))))) (s_nil))))) (s_app 3 (s_tup (s_cons (s_fn (s :=
   dp_law_pick) (cf := 1) (s_cons (s_varS 0) (s_cons (s_varS 1) (s_nil)))) (s_cons (s_varS 5) (s_nil))))))) (s_retV 3))
def dp_law_claims : DSp := dpOfF 6 d_law_claims
def sp_law_claims (Γ : Cn) : Sp := liftF Γ 3 81 dp_law_claims
/-! _law_order: slots 0 _law_state 1 _law_some 2 _law_stock 3 _law_found; calls _law_take; cost 101; new -/
def t_law_order (Γ : Cn) : TS := tSeq (tPar 2 3 (tCons (tCB (gList Γ.K) (tCons (tVar 1) (tNil))) (tCons (tLst (tNil)) (tNil)))) (tSeq (tWhile (tTest (tOp (gNe Γ.K) (tVar 2) (tLst (tNil)))) (tDrop (tBM
   Γ.K "list" rAppend (tVar 3) (tCons (tBM Γ.K "list" rPopAt (tVar 2) (tCons (tFn (sp_law_take Γ) E0 (tCons (tVar 0) (tCons (tCB (gLen Γ.K) (tCons (tVar 2) (tNil)))
   (tNil)))) tNil)) tNil)))) (tRet (tVar 3)))
def d_law_order_b1 : DQ := dAppPop 3 2 (dFn dp_law_take (dCons (dVarS 0) (dCons (dCB fLen (dCons (dVar 2) (dNil))) (dNil))))
def d_law_order : DQ := dSeq (dPar true true 2 3 (dCB fList (dCons (dVar 1) (dNil))) (dLst (dNil))) (dSeq (dWhileN 100 (dTest (dOp fNe (dVar 2) (dLst (dNil)))) (d_law_order_b1)) (dRetV 3))
theorem snd_law_order {Γ : Cn} {L : LS} : SS Γ L 101 (t_law_order Γ) d_law_order := by
  unfold t_law_order d_law_order d_law_order_b1
  exact s_seq (s_par (k1 := true) (k2 := true) 2 3 (s_cbF k_list (s_consT (s_var 1) (s_nilT))) (s_lst (s_nil))) (s_seq (s_whileN 100 (s_test (SE.t (s_op o_ne (s_var 2) (SF.t
   (s_lst (s_nil)))))) (s_appPop 3 2 (SE.t (s_fn (s := dp_law_take) (cf := 1) (s_cons (s_varS 0) (s_cons (s_cb k_len (s_consT (s_var 2) (s_nilT))) (s_nil))))))) (s_retV
   3))
def dp_law_order : DSp := dpOfF 4 d_law_order
def sp_law_order (Γ : Cn) : Sp := liftF Γ 2 101 dp_law_order
/-! _law_balances: slots 0 _law_state 1 _law_names 2 _law_numbers 3 _law_found 4 _law_sparse 5 _law_name 6 _law_amount; calls _law_take _law_order _law_pick; cost 147; new -/
def t_law_balances (Γ : Cn) : TS := tSeq (tPar 3 4 (tCons (tDNewK) (tCons (tFn (sp_law_take Γ) E0 (tCons (tVar 0) (tCons (tC (.int 3)) (tNil)))) (tNil)))) (tSeq (tFor (gIter Γ.K (tFn (sp_law_order Γ) E0
   (tCons (tVar 0) (tCons (tVar 1) (tNil))))) (gName 5) (tIfS (tTest (tOp (gGt) (tFn (sp_law_take Γ) E0 (tCons (tVar 0) (tCons (tC (.int 4)) (tNil)))) (tC (.int 0))))
   (tSeq (tAsg (tFn (sp_law_pick Γ) E0 (tCons (tVar 0) (tCons (tLst (tCons (tC (.int 0)) (tCons (tC (.int 1)) (tCons (tFn (sp_law_take Γ) E0 (tCons (tVar 0) (tCons (tVar
   2) (tNil)))) (tCons (tFn (sp_law_take Γ) E0 (tCons (tVar 0) (tCons (tOp (gMul) (tC (.int 2)) (tVar 2)) (tNil)))) (tNil)))))) (tNil)))) (gName 6)) (tAsg (tIf (tAnd
   (tTest (tOp (gEq Γ.K) (tVar 4) (tC (.int 0)))) (tTest (tOp (gGt) (tFn (sp_law_take Γ) E0 (tCons (tVar 0) (tCons (tC (.int 3)) (tNil)))) (tC (.int 0))))) (tC (.int 0))
   (tVar 6)) (L2.gSub (tVar 3) (tVar 5) gSet))) (tNext))) (tRet (tVar 3)))
def d_law_balances_b1 : DQ := dIfS (dTest (dOp fGt (dFn dp_law_take (dCons (dVarS 0) (dCons (dC (.int 4)) (dNil)))) (dC (.int 0)))) (dSeq (dAsg (dFn dp_law_pick (dCons (dVarS 0) (dCons (dLst (dCons
   (dC (.int 0)) (dCons (dC (.int 1)) (dCons (dFn dp_law_take (dCons (dVarS 0) (dCons (dVarS 2) (dNil)))) (dCons (dFn dp_law_take (dCons (dVarS 0) (dCons (dOp fMul (dC
   (.int 2)) (dVar 2)) (dNil)))) (dNil)))))) (dNil)))) 6) (dSetO 3 (dVar 5) (dIf (dAnd (dTest (dOp fEq (dVar 4) (dC (.int 0)))) (dTest (dOp fGt (dFn dp_law_take (dCons
   (dVarS 0) (dCons (dC (.int 3)) (dNil)))) (dC (.int 0))))) (dC (.int 0)) (dVarS 6)))) (dNext)
def d_law_balances : DQ := dSeq (dPar true false 3 4 (dNewD) (dFn dp_law_take (dCons (dVarS 0) (dCons (dC (.int 3)) (dNil))))) (dSeq (dForN 9 (dIter (dFn dp_law_order (dCons (dVarS 0) (dCons (dVarS
   1) (dNil))))) (dName 5) (d_law_balances_b1)) (dRetV 3))
theorem snd_law_balances {Γ : Cn} {L : LS} : SS Γ L 147 (t_law_balances Γ) d_law_balances := by
  unfold t_law_balances d_law_balances d_law_balances_b1
  exact s_seq (s_par (k1 := true) (k2 := false) 3 4 (s_newD) (s_fn (s := dp_law_take) (cf := 1) (s_cons (s_varS 0) (s_cons (s_c fun _ => .int _) (s_nil))))) (s_seq (s_forN 9
   (s_iter (SF.e (s_fnF (s := dp_law_order) (cf := 101) (s_cons (s_varS 0) (s_cons (s_varS 1) (s_nil)))))) (s_name 5) (s_if (s_test (SE.t (s_op o_gt (SE.t (s_fn (s :=
   dp_law_take) (cf := 1) (s_cons (s_varS 0) (s_cons (s_c fun _ => .int _) (s_nil))))) (SE.t (s_c fun _ => .int _))))) (s_seq (s_asg 6 (s_fn (s := dp_law_pick) (cf := 1)
   (s_cons (s_varS 0) (s_cons (SF.e (s_lst (s_cons (s_c fun _ => .int _) (s_cons (s_c fun _ => .int _) (s_cons (s_fn (s := dp_law_take) (cf := 1) (s_cons (s_varS 0)
   (s_cons (s_varS 2) (s_nil)))) (s_cons (s_fn (s := dp_law_take) (cf := 1) (s_cons (s_varS 0) (s_cons (s_op o_mul (SE.t (s_c fun _ => .int _)) (s_var 2)) (s_nil))))
   (s_nil))))))) (s_nil))))) (s_setO 3 (s_if' (s_and (s_test (SE.t (s_op o_eq (s_var 4) (SE.t (s_c fun _ => .int _))))) (s_test (SE.t (s_op o_gt (SE.t (s_fn (s :=
   dp_law_take) (cf := 1) (s_cons (s_varS 0) (s_cons (s_c fun _ => .int _) (s_nil))))) (SE.t (s_c fun _ => .int _)))))) (s_c fun _ => .int _) (s_varS 6)) (s_var 5)))
   (s_next))) (s_retV 3))
def dp_law_balances : DSp := dpOfF 7 d_law_balances
def sp_law_balances (Γ : Cn) : Sp := liftF Γ 3 147 dp_law_balances
/-! Forest.names: slots 0 self; calls ; cost 0; draws nothing -/
def t_Forest_names (Γ : Cn) : TS := tRet (tCB (gTuple Γ.K) (tCons (tFld Γ.K (tVar 0) "parents") (tNil)))
def d_Forest_names : DQ := dRet (dCB fTuple (dCons (dFld "parents" (dVar 0)) (dNil)))
theorem snd_Forest_names {Γ : Cn} (f_parents : FldOk Γ "parents") {L : LS} : SS Γ L 0 (t_Forest_names Γ) d_Forest_names := by
  unfold t_Forest_names d_Forest_names
  exact s_ret (s_cb k_tuple (s_consT (SE.t (s_fld f_parents (s_var 0))) (s_nilT)))
def dp_Forest_names : DSp := dpOf 1 d_Forest_names
def sp_Forest_names (Γ : Cn) : Sp := lift Γ 1 0 dp_Forest_names
def r_Forest_names : RQ := rRet (rCB fTuple (rCons (rFld "parents" (rVar 0)) (rNil)))
def R_Forest_names : List D → Option D := runOf 1 r_Forest_names
theorem ag_Forest_names : AgF dp_Forest_names R_Forest_names := by
  refine ag_of ?_
  unfold d_Forest_names r_Forest_names
  exact a_ret (a_cb (a_cons (a_fld (a_var 0)) (a_nil)))
/-! is_account: slots 0 forest 1 value; calls Forest.names; cost 0; draws nothing -/
def t_is_account (Γ : Cn) : TS := tRet (tAndV (tCB (gIsi Γ.K) (tCons (tVar 1) (tCons (tC (.ty "str")) (tNil)))) (tOp (gIn Γ.K) (tVar 1) (tProp (Γ.adr "Forest") (sp_Forest_names Γ) [] E0 (tVar 0))))
def d_is_account : DQ := dRet (dAndV (dCB fIsi (dCons (dVar 1) (dCons (dC (.ty "str")) (dNil)))) (dOp fIn (dVar 1) (dPr "Forest" dp_Forest_names (dVarS 0))))
theorem snd_is_account {Γ : Cn} (c_Forest : Γ.cls "Forest" = some (Γ.adr "Forest")) {L : LS} : SS Γ L 0 (t_is_account Γ) d_is_account := by
  unfold t_is_account d_is_account
  exact s_ret (s_andV (SE.t (s_cb k_isi (s_consT (s_var 1) (s_consT (SE.t (s_c fun _ => .ty _)) (s_nilT))))) (s_op o_in (s_var 1) (SE.t (s_pr (s := dp_Forest_names) (cf := 0)
   c_Forest (s_varS 0)))))
def dp_is_account : DSp := dpOf 2 d_is_account
def sp_is_account (Γ : Cn) : Sp := lift Γ 2 0 dp_is_account
def r_is_account : RQ := rRet (rAndV (rCB fIsi (rCons (rVar 1) (rCons (rC (.ty "str")) (rNil)))) (rOp fIn (rVar 1) (rPr "Forest" R_Forest_names (rVarS 0))))
def R_is_account : List D → Option D := runOf 2 r_is_account
theorem ag_is_account : AgF dp_is_account R_is_account := by
  refine ag_of ?_
  unfold d_is_account r_is_account
  exact a_ret (a_andV (a_cb (a_cons (a_var 1) (a_cons (a_c _) (a_nil)))) (a_op (a_var 1) (a_pr ag_Forest_names (a_varS 0))))
/-! is_integer: slots 0 value; calls ; cost 0; draws nothing -/
def t_is_integer (Γ : Cn) : TS := tRet (tAndV (tCB (gIsi Γ.K) (tCons (tVar 0) (tCons (tC (.ty "int")) (tNil)))) (tNotV (tCB (gIsi Γ.K) (tCons (tVar 0) (tCons (tC (.ty "bool")) (tNil))))))
def d_is_integer : DQ := dRet (dAndV (dCB fIsi (dCons (dVar 0) (dCons (dC (.ty "int")) (dNil)))) (dNotV (dCB fIsi (dCons (dVar 0) (dCons (dC (.ty "bool")) (dNil))))))
theorem snd_is_integer {Γ : Cn} {L : LS} : SS Γ L 0 (t_is_integer Γ) d_is_integer := by
  unfold t_is_integer d_is_integer
  exact s_ret (s_andV (SE.t (s_cb k_isi (s_consT (s_var 0) (s_consT (SE.t (s_c fun _ => .ty _)) (s_nilT))))) (s_notV (SE.t (s_cb k_isi (s_consT (s_var 0) (s_consT (SE.t (s_c fun
   _ => .ty _)) (s_nilT)))))))
def dp_is_integer : DSp := dpOf 1 d_is_integer
def sp_is_integer (Γ : Cn) : Sp := lift Γ 1 0 dp_is_integer
def r_is_integer : RQ := rRet (rAndV (rCB fIsi (rCons (rVar 0) (rCons (rC (.ty "int")) (rNil)))) (rNotV (rCB fIsi (rCons (rVar 0) (rCons (rC (.ty "bool")) (rNil))))))
def R_is_integer : List D → Option D := runOf 1 r_is_integer
theorem ag_is_integer : AgF dp_is_integer R_is_integer := by
  refine ag_of ?_
  unfold d_is_integer r_is_integer
  exact a_ret (a_andV (a_cb (a_cons (a_var 0) (a_cons (a_c _) (a_nil)))) (a_notV (a_cb (a_cons (a_var 0) (a_cons (a_c _) (a_nil))))))
/-! is_between: slots 0 value 1 least 2 most; calls is_integer; cost 0; draws nothing -/
def t_is_between (Γ : Cn) : TS := tRet (tAndV (tFn (sp_is_integer Γ) E0 (tCons (tVar 0) (tNil))) (tChain (gLe) (gLe) (tVar 1) (tVar 0) (tVar 2)))
def d_is_between : DQ := dRet (dAndV (dFn dp_is_integer (dCons (dVarS 0) (dNil))) (dChain fLe fLe (dVar 1) (dVar 0) (dVar 2)))
theorem snd_is_between {Γ : Cn} {L : LS} : SS Γ L 0 (t_is_between Γ) d_is_between := by
  unfold t_is_between d_is_between
  exact s_ret (s_andV (SE.t (s_fn (s := dp_is_integer) (cf := 0) (s_cons (s_varS 0) (s_nil)))) (s_chain o_le o_le (s_var 1) (s_var 0) (s_var 2)))
def dp_is_between : DSp := dpOf 3 d_is_between
def sp_is_between (Γ : Cn) : Sp := lift Γ 3 0 dp_is_between
def r_is_between : RQ := rRet (rAndV (rFn R_is_integer (rCons (rVarS 0) (rNil))) (rChain fLe fLe (rVar 1) (rVar 0) (rVar 2)))
def R_is_between : List D → Option D := runOf 3 r_is_between
theorem ag_is_between : AgF dp_is_between R_is_between := by
  refine ag_of ?_
  unfold d_is_between r_is_between
  exact a_ret (a_andV (a_fn ag_is_integer (a_cons (a_varS 0) (a_nil))) (a_chain (a_var 1) (a_var 0) (a_var 2)))
/-! is_amount: slots 0 value; calls is_between; cost 0; draws nothing -/
def t_is_amount (Γ : Cn) : TS := tRet (tFn (sp_is_between Γ) E0 (tCons (tVar 0) (tCons (tC (.int 1)) (tCons (tC (Γ.con "MOST_AMOUNT")) (tNil)))))
def d_is_amount : DQ := dRet (dFn dp_is_between (dCons (dVarS 0) (dCons (dC (.int 1)) (dCons (dC dc_MOST_AMOUNT) (dNil)))))
theorem snd_is_amount {Γ : Cn} (k_MOST_AMOUNT : ∀ L G, Rep Γ L G (Γ.con "MOST_AMOUNT") dc_MOST_AMOUNT) {L : LS} : SS Γ L 0 (t_is_amount Γ) d_is_amount := by
  unfold t_is_amount d_is_amount
  exact s_ret (s_fn (s := dp_is_between) (cf := 0) (s_cons (s_varS 0) (s_cons (s_c fun _ => .int _) (s_cons (s_c fun _ => k_MOST_AMOUNT _ _) (s_nil)))))
def dp_is_amount : DSp := dpOf 1 d_is_amount
def sp_is_amount (Γ : Cn) : Sp := lift Γ 1 0 dp_is_amount
def r_is_amount : RQ := rRet (rFn R_is_between (rCons (rVarS 0) (rCons (rC (.int 1)) (rCons (rC dc_MOST_AMOUNT) (rNil)))))
def R_is_amount : List D → Option D := runOf 1 r_is_amount
theorem ag_is_amount : AgF dp_is_amount R_is_amount := by
  refine ag_of ?_
  unfold d_is_amount r_is_amount
  exact a_ret (a_fn ag_is_between (a_cons (a_varS 0) (a_cons (a_c _) (a_cons (a_c _) (a_nil)))))
/-! is_claim: slots 0 forest 1 value; calls is_account is_amount is_between; cost 0; draws nothing -/
def t_is_claim (Γ : Cn) : TS := tSeq (tIfS (tOr (tNot (tTru Γ.K (tCB (gIsi Γ.K) (tCons (tVar 1) (tCons (tC (.ty "tuple")) (tNil)))))) (tOr (tTest (tOp (gNe Γ.K) (tCB (gLen Γ.K) (tCons (tVar 1) (tNil)))
   (tC (.int 2)))) (tNot (tTru Γ.K (tFn (sp_is_account Γ) E0 (tCons (tVar 0) (tCons (tOp (gIx Γ.K) (tVar 1) (tC (.int 0))) (tNil)))))))) (tRet (tC (.bl false))) (tNext))
   (tRet (tOrV (tFn (sp_is_amount Γ) E0 (tCons (tOp (gIx Γ.K) (tVar 1) (tC (.int 1))) (tNil))) (tFn (sp_is_between Γ) E0 (tCons (tOp (gIx Γ.K) (tVar 1) (tC (.int 1)))
   (tCons (tC (.int 0)) (tCons (tC (.int 0)) (tNil)))))))
def d_is_claim : DQ := dSeq (dIfS (dOr (dNot (dTru (dCB fIsi (dCons (dVar 1) (dCons (dC (.ty "tuple")) (dNil)))))) (dOr (dTest (dOp fNe (dCB fLen (dCons (dVar 1) (dNil))) (dC (.int 2)))) (dNot
   (dTru (dFn dp_is_account (dCons (dVarS 0) (dCons (dOp fIx (dVar 1) (dC (.int 0))) (dNil)))))))) (dRet (dC (.bl false))) (dNext)) (dRet (dOrV (dFn dp_is_amount (dCons
   (dOp fIx (dVar 1) (dC (.int 1))) (dNil))) (dFn dp_is_between (dCons (dOp fIx (dVar 1) (dC (.int 1))) (dCons (dC (.int 0)) (dCons (dC (.int 0)) (dNil)))))))
theorem snd_is_claim {Γ : Cn} {L : LS} : SS Γ L 0 (t_is_claim Γ) d_is_claim := by
  unfold t_is_claim d_is_claim
  exact s_seq (s_if (s_or (s_not (s_tru (SE.t (s_cb k_isi (s_consT (s_var 1) (s_consT (SE.t (s_c fun _ => .ty _)) (s_nilT))))))) (s_or (s_test (SE.t (s_op o_ne (SE.t (s_cb k_len
   (s_consT (s_var 1) (s_nilT)))) (SE.t (s_c fun _ => .int _))))) (s_not (s_tru (SE.t (s_fn (s := dp_is_account) (cf := 0) (s_cons (s_varS 0) (s_cons (s_op o_ix (s_var 1)
   (SE.t (s_c fun _ => .int _))) (s_nil))))))))) (s_ret (s_c fun _ => .bl _)) (s_next)) (s_ret (s_orV (SE.t (s_fn (s := dp_is_amount) (cf := 0) (s_cons (s_op o_ix (s_var
   1) (SE.t (s_c fun _ => .int _))) (s_nil)))) (s_fn (s := dp_is_between) (cf := 0) (s_cons (s_op o_ix (s_var 1) (SE.t (s_c fun _ => .int _))) (s_cons (s_c fun _ => .int
   _) (s_cons (s_c fun _ => .int _) (s_nil)))))))
def dp_is_claim : DSp := dpOf 2 d_is_claim
def sp_is_claim (Γ : Cn) : Sp := lift Γ 2 0 dp_is_claim
def r_is_claim : RQ := rSeq (rIfS (rOr (rNot (rTru (rCB fIsi (rCons (rVar 1) (rCons (rC (.ty "tuple")) (rNil)))))) (rOr (rTest (rOp fNe (rCB fLen (rCons (rVar 1) (rNil))) (rC (.int 2)))) (rNot
   (rTru (rFn R_is_account (rCons (rVarS 0) (rCons (rOp fIx (rVar 1) (rC (.int 0))) (rNil)))))))) (rRet (rC (.bl false))) (rNext)) (rRet (rOrV (rFn R_is_amount (rCons
   (rOp fIx (rVar 1) (rC (.int 1))) (rNil))) (rFn R_is_between (rCons (rOp fIx (rVar 1) (rC (.int 1))) (rCons (rC (.int 0)) (rCons (rC (.int 0)) (rNil)))))))
def R_is_claim : List D → Option D := runOf 2 r_is_claim
theorem ag_is_claim : AgF dp_is_claim R_is_claim := by
  refine ag_of ?_
  unfold d_is_claim r_is_claim
  exact a_seq (a_ifS (a_or (a_not (a_tru (a_cb (a_cons (a_var 1) (a_cons (a_c _) (a_nil)))))) (a_or (a_test (a_op (a_cb (a_cons (a_var 1) (a_nil))) (a_c _))) (a_not (a_tru (a_fn
   ag_is_account (a_cons (a_varS 0) (a_cons (a_op (a_var 1) (a_c _)) (a_nil)))))))) (a_ret (a_c _)) (a_next)) (a_ret (a_orV (a_fn ag_is_amount (a_cons (a_op (a_var 1)
   (a_c _)) (a_nil))) (a_fn ag_is_between (a_cons (a_op (a_var 1) (a_c _)) (a_cons (a_c _) (a_cons (a_c _) (a_nil)))))))
/-! need_claims: slots 0 forest 1 claims 2 one; calls is_list is_claim; cost 0; draws nothing -/
def t_need_claims (Γ : Cn) : TS := tIfS (tOr (tNot (tTru Γ.K (tFn (sp_is_list Γ) E0 (tCons (tVar 1) (tNil))))) (tOr (tTest (tOp (gGt) (tCB (gLen Γ.K) (tCons (tVar 1) (tNil))) (tC (Γ.con "MOST_CLAIMS"))))
   (tNot (tTru Γ.K (tCB (rAll Γ.K) (tCons (tLc (gIter Γ.K (tVar 1)) (gName 2) (tYes) (tFn (sp_is_claim Γ) E0 (tCons (tVar 0) (tCons (tVar 2) (tNil)))) [2]) (tNil)))))))
   (tNever) (tNext)
def d_need_claims : DQ := dIfS (dOr (dNot (dTru (dFn dp_is_list (dCons (dVarS 1) (dNil))))) (dOr (dTest (dOp fGt (dCB fLen (dCons (dVar 1) (dNil))) (dC dc_MOST_CLAIMS))) (dNot (dTru (dCB fAll
   (dCons (dLc (dIter (dVar 1)) (dName 2) (dYes) (dFn dp_is_claim (dCons (dVarS 0) (dCons (dVarS 2) (dNil)))) [2]) (dNil))))))) ((fun _ _ => False)) (dNext)
theorem snd_need_claims {Γ : Cn} (k_MOST_CLAIMS : ∀ L G, Rep Γ L G (Γ.con "MOST_CLAIMS") dc_MOST_CLAIMS) {L : LS} : SS Γ L 0 (t_need_claims Γ) d_need_claims := by
  unfold t_need_claims d_need_claims
  exact s_if (s_or (s_not (s_tru (SE.t (s_fn (s := dp_is_list) (cf := 0) (s_cons (s_varS 1) (s_nil)))))) (s_or (s_test (SE.t (s_op o_gt (SE.t (s_cb k_len (s_consT (s_var 1)
   (s_nilT)))) (SE.t (s_c fun _ => k_MOST_CLAIMS _ _))))) (s_not (s_tru (SE.t (s_cb k_all (s_consT (SF.t (s_lc (s_iterT (s_var 1)) (s_name 2) (s_yes) (s_fn (s :=
   dp_is_claim) (cf := 0) (s_cons (s_varS 0) (s_cons (s_varS 2) (s_nil)))))) (s_nilT)))))))) (s_never) (s_next)
def dp_need_claims : DSp := dpOf 3 d_need_claims
def sp_need_claims (Γ : Cn) : Sp := lift Γ 2 0 dp_need_claims
def r_need_claims : RQ := rIfS (rOr (rNot (rTru (rFn R_is_list (rCons (rVarS 1) (rNil))))) (rOr (rTest (rOp fGt (rCB fLen (rCons (rVar 1) (rNil))) (rC dc_MOST_CLAIMS))) (rNot (rTru (rCB fAll
   (rCons (rLc (rIter (rVar 1)) (rName 2) (rYes) (rFn R_is_claim (rCons (rVarS 0) (rCons (rVarS 2) (rNil)))) [2]) (rNil))))))) (rNever) (rNext)
def R_need_claims : List D → Option D := runOf 3 r_need_claims
theorem ag_need_claims : AgF dp_need_claims R_need_claims := by
  refine ag_of ?_
  unfold d_need_claims r_need_claims
  exact a_ifS (a_or (a_not (a_tru (a_fn ag_is_list (a_cons (a_varS 1) (a_nil))))) (a_or (a_test (a_op (a_cb (a_cons (a_var 1) (a_nil))) (a_c _))) (a_not (a_tru (a_cb (a_cons
   (a_lc (a_iter (a_var 1)) (a_name 2) (a_yes) (a_fn ag_is_claim (a_cons (a_varS 0) (a_cons (a_varS 2) (a_nil))))) (a_nil))))))) (a_never) (a_next)
/-! need_balances: slots 0 forest 1 balances 2 name; calls is_account is_between; cost 0; draws nothing -/
def t_need_balances (Γ : Cn) : TS := tSeq (tIfS (tNot (tTru Γ.K (tCB (gIsi Γ.K) (tCons (tVar 1) (tCons (tC (.ty "dict")) (tNil)))))) (tNever) (tNext)) (tIfS (tNot (tTru Γ.K (tCB (rAll Γ.K) (tCons (tLk (tLc
   (iKeys (tVar 1)) (gName 2) (tYes) (tAndV (tFn (sp_is_account Γ) E0 (tCons (tVar 0) (tCons (tVar 2) (tNil)))) (tFn (sp_is_between Γ) E0 (tCons (tOp (gIx Γ.K) (tVar 1)
   (tVar 2)) (tCons (tC (.int 0)) (tCons (tC (Γ.con "MOST_BALANCE")) (tNil)))))) [2])) (tNil))))) (tNever) (tNext))
def d_need_balances : DQ := dSeq (dIfS (dNot (dTru (dCB fIsi (dCons (dVar 1) (dCons (dC (.ty "dict")) (dNil)))))) ((fun _ _ => False)) (dNext)) (dIfS (dNot (dTru (dCB fAll (dCons (dLc (dKeys (dVarS
   1)) (dName 2) (dYes) (dAndV (dFn dp_is_account (dCons (dVarS 0) (dCons (dVarS 2) (dNil)))) (dFn dp_is_between (dCons (dOp fIx (dVar 1) (dVar 2)) (dCons (dC (.int 0))
   (dCons (dC dc_MOST_BALANCE) (dNil)))))) [2]) (dNil))))) ((fun _ _ => False)) (dNext))
theorem snd_need_balances {Γ : Cn} (k_MOST_BALANCE : ∀ L G, Rep Γ L G (Γ.con "MOST_BALANCE") dc_MOST_BALANCE) {L : LS} : SS Γ L 0 (t_need_balances Γ) d_need_balances := by
  unfold t_need_balances d_need_balances
  exact s_seq (s_if (s_not (s_tru (SE.t (s_cb k_isi (s_consT (s_var 1) (s_consT (SE.t (s_c fun _ => .ty _)) (s_nilT))))))) (s_never) (s_next)) (s_if (s_not (s_tru (SE.t (s_cb
   k_all (s_consT (SF.t (s_lcK (loc_var 1) (s_name 2) (s_yes) (s_andV (SE.t (s_fn (s := dp_is_account) (cf := 0) (s_cons (s_varS 0) (s_cons (s_varS 2) (s_nil))))) (s_fn
   (s := dp_is_between) (cf := 0) (s_cons (s_op o_ix (s_var 1) (s_var 2)) (s_cons (s_c fun _ => .int _) (s_cons (s_c fun _ => k_MOST_BALANCE _ _) (s_nil))))))))
   (s_nilT)))))) (s_never) (s_next))
def dp_need_balances : DSp := dpOf 3 d_need_balances
def sp_need_balances (Γ : Cn) : Sp := lift Γ 2 0 dp_need_balances
def r_need_balances : RQ := rSeq (rIfS (rNot (rTru (rCB fIsi (rCons (rVar 1) (rCons (rC (.ty "dict")) (rNil)))))) (rNever) (rNext)) (rIfS (rNot (rTru (rCB fAll (rCons (rLc (rKeys (rVarS 1)) (rName
   2) (rYes) (rAndV (rFn R_is_account (rCons (rVarS 0) (rCons (rVarS 2) (rNil)))) (rFn R_is_between (rCons (rOp fIx (rVar 1) (rVar 2)) (rCons (rC (.int 0)) (rCons (rC
   dc_MOST_BALANCE) (rNil)))))) [2]) (rNil))))) (rNever) (rNext))
def R_need_balances : List D → Option D := runOf 3 r_need_balances
theorem ag_need_balances : AgF dp_need_balances R_need_balances := by
  refine ag_of ?_
  unfold d_need_balances r_need_balances
  exact a_seq (a_ifS (a_not (a_tru (a_cb (a_cons (a_var 1) (a_cons (a_c _) (a_nil)))))) (a_never) (a_next)) (a_ifS (a_not (a_tru (a_cb (a_cons (a_lc (a_keys (a_varS 1)) (a_name
   2) (a_yes) (a_andV (a_fn ag_is_account (a_cons (a_varS 0) (a_cons (a_varS 2) (a_nil)))) (a_fn ag_is_between (a_cons (a_op (a_var 1) (a_var 2)) (a_cons (a_c _) (a_cons
   (a_c _) (a_nil))))))) (a_nil))))) (a_never) (a_next))
/-! Forest.need_account: slots 0 self 1 name; calls ; cost 0; draws nothing -/
def t_Forest_need_account (Γ : Cn) : TS := tIfS (tOr (tNot (tTru Γ.K (tCB (gIsi Γ.K) (tCons (tVar 1) (tCons (tC (.ty "str")) (tNil)))))) (tTest (tOp (gNotIn Γ.K) (tVar 1) (tFld Γ.K (tVar 0) "parents")))) (tNever)
   (tNext)
def d_Forest_need_account : DQ := dIfS (dOr (dNot (dTru (dCB fIsi (dCons (dVar 1) (dCons (dC (.ty "str")) (dNil)))))) (dTest (dOp fNotIn (dVar 1) (dFld "parents" (dVar 0))))) ((fun _ _ => False)) (dNext)
theorem snd_Forest_need_account {Γ : Cn} (f_parents : FldOk Γ "parents") {L : LS} : SS Γ L 0 (t_Forest_need_account Γ) d_Forest_need_account := by
  unfold t_Forest_need_account d_Forest_need_account
  exact s_if (s_or (s_not (s_tru (SE.t (s_cb k_isi (s_consT (s_var 1) (s_consT (SE.t (s_c fun _ => .ty _)) (s_nilT))))))) (s_test (SE.t (s_op o_notIn (s_var 1) (SE.t (s_fld
   f_parents (s_var 0))))))) (s_never) (s_next)
def dp_Forest_need_account : DSp := dpOf 2 d_Forest_need_account
def sp_Forest_need_account (Γ : Cn) : Sp := lift Γ 2 0 dp_Forest_need_account
def r_Forest_need_account : RQ := rIfS (rOr (rNot (rTru (rCB fIsi (rCons (rVar 1) (rCons (rC (.ty "str")) (rNil)))))) (rTest (rOp fNotIn (rVar 1) (rFld "parents" (rVar 0))))) (rNever) (rNext)
def R_Forest_need_account : List D → Option D := runOf 2 r_Forest_need_account
theorem ag_Forest_need_account : AgF dp_Forest_need_account R_Forest_need_account := by
  refine ag_of ?_
  unfold d_Forest_need_account r_Forest_need_account
  exact a_ifS (a_or (a_not (a_tru (a_cb (a_cons (a_var 1) (a_cons (a_c _) (a_nil)))))) (a_test (a_op (a_var 1) (a_fld (a_var 0))))) (a_never) (a_next)
/-! Forest.ancestors: slots 0 self 1 name 2 found; calls Forest.need_account; cost 0; new; draws nothing -/
def t_Forest_ancestors (Γ : Cn) : TS := tSeq (tDrop (tMt (Γ.adr "Forest") "need_account" (sp_Forest_need_account Γ) E0 (tVar 0) (tCons (tVar 1) (tNil)))) (tSeq (tAsg (tLst (tCons (tVar 1) (tNil))) (gName 2))
   (tSeq (tWhile (tTest (tOp (gIsNot) (tOp (gIx Γ.K) (tFld Γ.K (tVar 0) "parents") (tOp (gIx Γ.K) (tVar 2) (tUn gNeg (tC (.int 1))))) (tC .non))) (tDrop (tBM Γ.K "list"
   rAppend (tVar 2) (tCons (tOp (gIx Γ.K) (tFld Γ.K (tVar 0) "parents") (tOp (gIx Γ.K) (tVar 2) (tUn gNeg (tC (.int 1))))) tNil)))) (tRet (tVar 2))))
def d_Forest_ancestors_b1 : DQ := dApp 2 (dOp fIx (dFld "parents" (dVar 0)) (dOp fIx (dVar 2) (dUn fNeg (dC (.int 1)))))
def d_Forest_ancestors : DQ := dSeq (dDrop (dMt "Forest" "need_account" dp_Forest_need_account (dVarS 0) (dCons (dVarS 1) (dNil)))) (dSeq (dAsgO (dLst (dCons (dVarS 1) (dNil))) 2) (dSeq (dWhile (dTest
   (dOp fIsNot (dOp fIx (dFld "parents" (dVar 0)) (dOp fIx (dVar 2) (dUn fNeg (dC (.int 1))))) (dC .non))) (d_Forest_ancestors_b1)) (dRetV 2)))
theorem snd_Forest_ancestors {Γ : Cn} (c_Forest : Γ.cls "Forest" = some (Γ.adr "Forest")) (f_parents : FldOk Γ "parents") {L : LS} : SS Γ L 0 (t_Forest_ancestors Γ) d_Forest_ancestors := by
  unfold t_Forest_ancestors d_Forest_ancestors d_Forest_ancestors_b1
  exact s_seq (s_drop (SE.t (s_mt (s := dp_Forest_need_account) (cf := 0) c_Forest (s_varS 0) (s_cons (s_varS 1) (s_nil))))) (s_seq (s_asgO 2 (s_lst (s_cons (s_varS 1) (s_nil))))
   (s_seq (s_while (s_test (SE.t (s_op o_isNot (SE.t (s_op o_ix (SE.t (s_fld f_parents (s_var 0))) (SE.t (s_op o_ix (s_var 2) (SE.t (s_un o_neg (SE.t (s_c fun _ => .int
   _)))))))) (SE.t (s_c fun _ => .non))))) (s_app 2 (s_op o_ix (SE.t (s_fld f_parents (s_var 0))) (SE.t (s_op o_ix (s_var 2) (SE.t (s_un o_neg (SE.t (s_c fun _ => .int
   _))))))))) (s_retV 2)))
def dp_Forest_ancestors : DSp := dpOfF 3 d_Forest_ancestors
def sp_Forest_ancestors (Γ : Cn) : Sp := liftF Γ 2 0 dp_Forest_ancestors
def r_Forest_ancestors_b1 : RQ := rApp 2 (rOp fIx (rFld "parents" (rVar 0)) (rOp fIx (rVar 2) (rUn fNeg (rC (.int 1)))))
def r_Forest_ancestors : RQ := rSeq (rDrop (rMt "Forest" "need_account" R_Forest_need_account (rVarS 0) (rCons (rVarS 1) (rNil)))) (rSeq (rAsgO (rLst (rCons (rVarS 1) (rNil))) 2) (rSeq (rWhile (rTest
   (rOp fIsNot (rOp fIx (rFld "parents" (rVar 0)) (rOp fIx (rVar 2) (rUn fNeg (rC (.int 1))))) (rC .non))) (r_Forest_ancestors_b1)) (rRetV true 2)))
def R_Forest_ancestors : List D → Option D := runOfF 3 r_Forest_ancestors
theorem ag_Forest_ancestors : AgF dp_Forest_ancestors R_Forest_ancestors := by
  refine ag_ofF ?_
  unfold d_Forest_ancestors r_Forest_ancestors d_Forest_ancestors_b1 r_Forest_ancestors_b1
  exact a_seq (a_drop (a_mt ag_Forest_need_account (a_varS 0) (a_cons (a_varS 1) (a_nil)))) (a_seq (a_asgO (a_lst (a_cons (a_varS 1) (a_nil)))) (a_seq (a_while (a_test (a_op
   (a_op (a_fld (a_var 0)) (a_op (a_var 2) (a_un (a_c _)))) (a_c _))) (a_app (a_op (a_fld (a_var 0)) (a_op (a_var 2) (a_un (a_c _)))))) (a_retV)))
/-! Forest.subtree: slots 0 self 1 name 2 other; calls Forest.need_account Forest.ancestors; cost 0; new; draws nothing -/
def t_Forest_subtree (Γ : Cn) : TS := tSeq (tDrop (tMt (Γ.adr "Forest") "need_account" (sp_Forest_need_account Γ) E0 (tVar 0) (tCons (tVar 1) (tNil)))) (tRet (tLk (tLc (iKeys (tFld Γ.K (tVar 0) "parents"))
   (gName 2) (tTest (tOp (gIn Γ.K) (tVar 1) (tMt (Γ.adr "Forest") "ancestors" (sp_Forest_ancestors Γ) E0 (tVar 0) (tCons (tVar 2) (tNil))))) (tVar 2) [2])))
def d_Forest_subtree : DQ := dSeq (dDrop (dMt "Forest" "need_account" dp_Forest_need_account (dVarS 0) (dCons (dVarS 1) (dNil)))) (dRetF (dLc (dKeys (dFld "parents" (dVarS 0))) (dName 2) (dTest (dOp
   fIn (dVar 1) (dMt "Forest" "ancestors" dp_Forest_ancestors (dVarS 0) (dCons (dVarS 2) (dNil))))) (dVarS 2) [2]))
theorem snd_Forest_subtree {Γ : Cn} (c_Forest : Γ.cls "Forest" = some (Γ.adr "Forest")) (f_parents : FldOk Γ "parents") {L : LS} : SS Γ L 0 (t_Forest_subtree Γ) d_Forest_subtree := by
  unfold t_Forest_subtree d_Forest_subtree
  exact s_seq (s_drop (SE.t (s_mt (s := dp_Forest_need_account) (cf := 0) c_Forest (s_varS 0) (s_cons (s_varS 1) (s_nil))))) (s_retF (s_lcK (loc_fld 0 f_parents) (s_name 2)
   (s_test (SE.t (s_op o_in (s_var 1) (SF.t (s_mtF (s := dp_Forest_ancestors) (cf := 0) c_Forest (s_varS 0) (s_cons (s_varS 2) (s_nil))))))) (s_varS 2)))
def dp_Forest_subtree : DSp := dpOfF 3 d_Forest_subtree
def sp_Forest_subtree (Γ : Cn) : Sp := liftF Γ 2 0 dp_Forest_subtree
def r_Forest_subtree : RQ := rSeq (rDrop (rMt "Forest" "need_account" R_Forest_need_account (rVarS 0) (rCons (rVarS 1) (rNil)))) (rRet (rLc (rKeys (rFld "parents" (rVarS 0))) (rName 2) (rTest (rOp
   fIn (rVar 1) (rMt "Forest" "ancestors" R_Forest_ancestors (rVarS 0) (rCons (rVarS 2) (rNil))))) (rVarS 2) [2]))
def R_Forest_subtree : List D → Option D := runOfF 3 r_Forest_subtree
theorem ag_Forest_subtree : AgF dp_Forest_subtree R_Forest_subtree := by
  refine ag_ofF ?_
  unfold d_Forest_subtree r_Forest_subtree
  exact a_seq (a_drop (a_mt ag_Forest_need_account (a_varS 0) (a_cons (a_varS 1) (a_nil)))) (a_retF (a_lc (a_keys (a_fld (a_varS 0))) (a_name 2) (a_test (a_op (a_var 1) (a_mt
   ag_Forest_ancestors (a_varS 0) (a_cons (a_varS 2) (a_nil))))) (a_varS 2)))
/-! total_by: slots 0 forest 1 balances 2 name 3 one; calls Forest.names Forest.subtree; cost 0; new; draws nothing -/
def t_total_by (Γ : Cn) : TS := tRet (tDc (gIter Γ.K (tProp (Γ.adr "Forest") (sp_Forest_names Γ) [] E0 (tVar 0))) (gName 2) (tYes) (tVar 2) (tCB (rSum Γ.K) (tCons (tLc (gIter Γ.K (tMt (Γ.adr "Forest")
   "subtree" (sp_Forest_subtree Γ) E0 (tVar 0) (tCons (tVar 2) (tNil)))) (gName 3) (tYes) (tDGet2 (tVar 1) (tVar 3) (tC (.int 0))) [3]) (tNil))) [2])
def d_total_by : DQ := dRetF (dDc (dIter (dPr "Forest" dp_Forest_names (dVarS 0))) (dName 2) (dYes) (dVarS 2) (dCB fSum (dCons (dLc (dIter (dMt "Forest" "subtree" dp_Forest_subtree (dVarS 0)
   (dCons (dVarS 2) (dNil)))) (dName 3) (dYes) (dGet2 (dVar 1) (dVar 3) (dC (.int 0))) [3]) (dNil))) [2])
theorem snd_total_by {Γ : Cn} (c_Forest : Γ.cls "Forest" = some (Γ.adr "Forest")) {L : LS} : SS Γ L 0 (t_total_by Γ) d_total_by := by
  unfold t_total_by d_total_by
  exact s_retF (s_dc (s_iterT (SE.t (s_pr (s := dp_Forest_names) (cf := 0) c_Forest (s_varS 0)))) (s_name 2) (s_yes) (SE.t (s_varS 2)) (s_cb k_sum (s_consT (SF.t (s_lc (s_iterT
   (SF.t (s_mtF (s := dp_Forest_subtree) (cf := 0) c_Forest (s_varS 0) (s_cons (s_varS 2) (s_nil))))) (s_name 3) (s_yes) (s_get2 (s_var 1) (s_var 3) (s_c fun _ => .int
   _)))) (s_nilT))))
def dp_total_by : DSp := dpOfF 4 d_total_by
def sp_total_by (Γ : Cn) : Sp := liftF Γ 2 0 dp_total_by
def r_total_by : RQ := rRet (rDc (rIter (rPr "Forest" R_Forest_names (rVarS 0))) (rName 2) (rYes) (rVarS 2) (rCB fSum (rCons (rLc (rIter (rMt "Forest" "subtree" R_Forest_subtree (rVarS 0)
   (rCons (rVarS 2) (rNil)))) (rName 3) (rYes) (rGet2 (rVar 1) (rVar 3) (rC (.int 0))) [3]) (rNil))) [2])
def R_total_by : List D → Option D := runOfF 4 r_total_by
theorem ag_total_by : AgF dp_total_by R_total_by := by
  refine ag_ofF ?_
  unfold d_total_by r_total_by
  exact a_retF (a_dc (a_iter (a_pr ag_Forest_names (a_varS 0))) (a_name 2) (a_yes) (a_varS 2) (a_cb (a_cons (a_lc (a_iter (a_mt ag_Forest_subtree (a_varS 0) (a_cons (a_varS 2)
   (a_nil)))) (a_name 3) (a_yes) (a_get2 (a_var 1) (a_var 3) (a_c _))) (a_nil))))
/-! entitled_by: slots 0 forest 1 claims 2 balances 3 left 4 found 5 account 6 claim 7 line 8 amount 9 name; calls total_by Forest.ancestors; cost 0; new; draws nothing -/
def t_entitled_by (Γ : Cn) : TS := tSeq (tAsg (tFn (sp_total_by Γ) E0 (tCons (tVar 0) (tCons (tVar 2) (tNil)))) (gName 3)) (tSeq (tAsg (tLst (tNil)) (gName 4)) (tSeq (tFor (gIter Γ.K (tVar 1)) (gTup Γ.K 2
   (gCons (gName 5) (gCons (gName 6) (gNil)))) (tSeq (tAsg (tMt (Γ.adr "Forest") "ancestors" (sp_Forest_ancestors Γ) E0 (tVar 0) (tCons (tVar 5) (tNil))) (gName 7)) (tSeq
   (tAsg (tCB (gMin Γ.K) (tCons (tOp (gAdd Γ.K) (tLst (tCons (tVar 6) (tNil))) (tLc (gIter Γ.K (tVar 7)) (gName 9) (tYes) (tOp (gIx Γ.K) (tVar 3) (tVar 9)) [9])) (tNil)))
   (gName 8)) (tSeq (tAsg (tLk (tDc (iKeys (tVar 3)) (gName 9) (tYes) (tVar 9) (tIf (tTest (tOp (gIn Γ.K) (tVar 9) (tVar 7))) (tOp (gDif) (tOp (gIx Γ.K) (tVar 3) (tVar
   9)) (tVar 8)) (tOp (gIx Γ.K) (tVar 3) (tVar 9))) [9])) (gName 3)) (tDrop (tBM Γ.K "list" rAppend (tVar 4) (tCons (tVar 8) tNil))))))) (tRet (tVar 4))))
def d_entitled_by_b1 : DQ := dSeq (dAsg (dMt "Forest" "ancestors" dp_Forest_ancestors (dVarS 0) (dCons (dVarS 5) (dNil))) 7) (dSeq (dAsg (dCB fMin (dCons (dOp fAdd (dLst (dCons (dVarS 6) (dNil)))
   (dLc (dIter (dVar 7)) (dName 9) (dYes) (dOp fIx (dVar 3) (dVar 9)) [9])) (dNil))) 8) (dSeq (dAsg (dDc (dKeys (dVarS 3)) (dName 9) (dYes) (dVarS 9) (dIf (dTest (dOp fIn
   (dVar 9) (dVar 7))) (dOp fSub (dOp fIx (dVar 3) (dVar 9)) (dVar 8)) (dOp fIx (dVar 3) (dVar 9))) [9]) 3) (dApp 4 (dVarS 8))))
def d_entitled_by : DQ := dSeq (dAsg (dFn dp_total_by (dCons (dVarS 0) (dCons (dVarS 2) (dNil)))) 3) (dSeq (dAsgO (dLst (dNil)) 4) (dSeq (dFor (dIter (dVarS 1)) (dTup2 5 6) (d_entitled_by_b1))
   (dRetV 4)))
theorem snd_entitled_by {Γ : Cn} (c_Forest : Γ.cls "Forest" = some (Γ.adr "Forest")) {L : LS} : SS Γ L 0 (t_entitled_by Γ) d_entitled_by := by
  unfold t_entitled_by d_entitled_by d_entitled_by_b1
  exact s_seq (s_asg 3 (SF.e (s_fnF (s := dp_total_by) (cf := 0) (s_cons (s_varS 0) (s_cons (s_varS 2) (s_nil)))))) (s_seq (s_asgO 4 (s_lst (s_nil))) (s_seq (s_for (s_iter
   (s_varS 1)) (s_tup2 5 6) (s_seq (s_asg 7 (SF.e (s_mtF (s := dp_Forest_ancestors) (cf := 0) c_Forest (s_varS 0) (s_cons (s_varS 5) (s_nil))))) (s_seq (s_asg 8 (s_cb
   k_min (s_consT (SE.t (s_op o_add (SF.t (s_lst (s_cons (s_varS 6) (s_nil)))) (SF.t (s_lc (s_iterT (s_var 7)) (s_name 9) (s_yes) (s_op o_ix (s_var 3) (s_var 9))))))
   (s_nilT)))) (s_seq (s_asg 3 (SF.e (s_dcK (loc_var 3) (s_name 9) (s_yes) (SE.t (s_varS 9)) (s_if' (s_test (SE.t (s_op o_in (s_var 9) (s_var 7)))) (s_op o_sub (SE.t
   (s_op o_ix (s_var 3) (s_var 9))) (s_var 8)) (s_op o_ix (s_var 3) (s_var 9)))))) (s_app 4 (s_varS 8)))))) (s_retV 4)))
def dp_entitled_by : DSp := dpOfF 10 d_entitled_by
def sp_entitled_by (Γ : Cn) : Sp := liftF Γ 3 0 dp_entitled_by
def r_entitled_by_b1 : RQ := rSeq (rAsg (rMt "Forest" "ancestors" R_Forest_ancestors (rVarS 0) (rCons (rVarS 5) (rNil))) 7) (rSeq (rAsg (rCB fMin (rCons (rOp fAdd (rLst (rCons (rVarS 6) (rNil))) (rLc
   (rIter (rVar 7)) (rName 9) (rYes) (rOp fIx (rVar 3) (rVar 9)) [9])) (rNil))) 8) (rSeq (rAsg (rDc (rKeys (rVarS 3)) (rName 9) (rYes) (rVarS 9) (rIf (rTest (rOp fIn
   (rVar 9) (rVar 7))) (rOp fSub (rOp fIx (rVar 3) (rVar 9)) (rVar 8)) (rOp fIx (rVar 3) (rVar 9))) [9]) 3) (rApp 4 (rVarS 8))))
def r_entitled_by : RQ := rSeq (rAsg (rFn R_total_by (rCons (rVarS 0) (rCons (rVarS 2) (rNil)))) 3) (rSeq (rAsgO (rLst (rNil)) 4) (rSeq (rFor (rIter (rVarS 1)) (rTup2 5 6) (r_entitled_by_b1))
   (rRetV true 4)))
def R_entitled_by : List D → Option D := runOfF 10 r_entitled_by
theorem ag_entitled_by : AgF dp_entitled_by R_entitled_by := by
  refine ag_ofF ?_
  unfold d_entitled_by r_entitled_by d_entitled_by_b1 r_entitled_by_b1
  exact a_seq (a_asg (a_fn ag_total_by (a_cons (a_varS 0) (a_cons (a_varS 2) (a_nil))))) (a_seq (a_asgO (a_lst (a_nil))) (a_seq (a_for (a_iter (a_varS 1)) (a_tup2 5 6) (a_seq
   (a_asg (a_mt ag_Forest_ancestors (a_varS 0) (a_cons (a_varS 5) (a_nil)))) (a_seq (a_asg (a_cb (a_cons (a_op (a_lst (a_cons (a_varS 6) (a_nil))) (a_lc (a_iter (a_var
   7)) (a_name 9) (a_yes) (a_op (a_var 3) (a_var 9)))) (a_nil)))) (a_seq (a_asg (a_dc (a_keys (a_varS 3)) (a_name 9) (a_yes) (a_varS 9) (a_if (a_test (a_op (a_var 9)
   (a_var 7))) (a_op (a_op (a_var 3) (a_var 9)) (a_var 8)) (a_op (a_var 3) (a_var 9))))) (a_app (a_varS 8)))))) (a_retV)))
/-! entitlements: slots 0 forest 1 claims 2 balances; calls need_claims need_balances entitled_by; cost 0; new; draws nothing -/
def t_entitlements (Γ : Cn) : TS := tSeq (tDrop (tFn (sp_need_claims Γ) E0 (tCons (tVar 0) (tCons (tVar 1) (tNil))))) (tSeq (tDrop (tFn (sp_need_balances Γ) E0 (tCons (tVar 0) (tCons (tVar 2) (tNil)))))
   (tRet (tFn (sp_entitled_by Γ) E0 (tCons (tVar 0) (tCons (tVar 1) (tCons (tVar 2) (tNil)))))))
def d_entitlements : DQ := dSeq (dDrop (dFn dp_need_claims (dCons (dVarS 0) (dCons (dVarS 1) (dNil))))) (dSeq (dDrop (dFn dp_need_balances (dCons (dVarS 0) (dCons (dVarS 2) (dNil))))) (dRetF (dFn
   dp_entitled_by (dCons (dVarS 0) (dCons (dVarS 1) (dCons (dVarS 2) (dNil)))))))
theorem snd_entitlements {Γ : Cn} {L : LS} : SS Γ L 0 (t_entitlements Γ) d_entitlements := by
  unfold t_entitlements d_entitlements
  exact s_seq (s_drop (SE.t (s_fn (s := dp_need_claims) (cf := 0) (s_cons (s_varS 0) (s_cons (s_varS 1) (s_nil)))))) (s_seq (s_drop (SE.t (s_fn (s := dp_need_balances) (cf := 0)
   (s_cons (s_varS 0) (s_cons (s_varS 2) (s_nil)))))) (s_retF (s_fnF (s := dp_entitled_by) (cf := 0) (s_cons (s_varS 0) (s_cons (s_varS 1) (s_cons (s_varS 2)
   (s_nil)))))))
def dp_entitlements : DSp := dpOfF 3 d_entitlements
def sp_entitlements (Γ : Cn) : Sp := liftF Γ 3 0 dp_entitlements
def r_entitlements : RQ := rSeq (rDrop (rFn R_need_claims (rCons (rVarS 0) (rCons (rVarS 1) (rNil))))) (rSeq (rDrop (rFn R_need_balances (rCons (rVarS 0) (rCons (rVarS 2) (rNil))))) (rRet (rFn
   R_entitled_by (rCons (rVarS 0) (rCons (rVarS 1) (rCons (rVarS 2) (rNil)))))))
def R_entitlements : List D → Option D := runOfF 3 r_entitlements
theorem ag_entitlements : AgF dp_entitlements R_entitlements := by
  refine ag_ofF ?_
  unfold d_entitlements r_entitlements
  exact a_seq (a_drop (a_fn ag_need_claims (a_cons (a_varS 0) (a_cons (a_varS 1) (a_nil))))) (a_seq (a_drop (a_fn ag_need_balances (a_cons (a_varS 0) (a_cons (a_varS 2)
   (a_nil))))) (a_retF (a_fn ag_entitled_by (a_cons (a_varS 0) (a_cons (a_varS 1) (a_cons (a_varS 2) (a_nil)))))))
/-! _law_up: slots 0 _law_rows 1 _law_name 2 _law_parents 3 _law_found; calls ; cost 0; new; draws nothing -/
def t_law_up (Γ : Cn) : TS := tSeq (tPar 2 3 (tCons (tCB (gDict Γ.K) (tCons (tVar 0) (tNil))) (tCons (tLst (tNil)) (tNil)))) (tSeq (tWhile (tTest (tOp (gIsNot) (tVar 1) (tC .non))) (tSeq (tDrop (tBM
   Γ.K "list" rAppend (tVar 3) (tCons (tVar 1) tNil))) (tAsg (tOp (gIx Γ.K) (tVar 2) (tVar 1)) (gName 1)))) (tRet (tVar 3)))
def d_law_up_b1 : DQ := dSeq (dApp 3 (dVarS 1)) (dAsg (dOp fIx (dVar 2) (dVar 1)) 1)
def d_law_up : DQ := dSeq (dPar false true 2 3 (dCB fDict (dCons (dVar 0) (dNil))) (dLst (dNil))) (dSeq (dWhile (dTest (dOp fIsNot (dVar 1) (dC .non))) (d_law_up_b1)) (dRetV 3))
theorem snd_law_up {Γ : Cn} {L : LS} : SS Γ L 0 (t_law_up Γ) d_law_up := by
  unfold t_law_up d_law_up d_law_up_b1
  exact s_seq (s_par (k1 := false) (k2 := true) 2 3 (SF.e (s_cbF k_dict (s_consT (s_var 0) (s_nilT)))) (s_lst (s_nil))) (s_seq (s_while (s_test (SE.t (s_op o_isNot (s_var 1)
   (SE.t (s_c fun _ => .non))))) (s_seq (s_app 3 (s_varS 1)) (s_asg 1 (s_op o_ix (s_var 2) (s_var 1))))) (s_retV 3))
def dp_law_up : DSp := dpOfF 4 d_law_up
def sp_law_up (Γ : Cn) : Sp := liftF Γ 2 0 dp_law_up
def r_law_up_b1 : RQ := rSeq (rApp 3 (rVarS 1)) (rAsg (rOp fIx (rVar 2) (rVar 1)) 1)
def r_law_up : RQ := rSeq (rPar false true 2 3 (rCB fDict (rCons (rVar 0) (rNil))) (rLst (rNil))) (rSeq (rWhile (rTest (rOp fIsNot (rVar 1) (rC .non))) (r_law_up_b1)) (rRetV true 3))
def R_law_up : List D → Option D := runOfF 4 r_law_up
theorem ag_law_up : AgF dp_law_up R_law_up := by
  refine ag_ofF ?_
  unfold d_law_up r_law_up d_law_up_b1 r_law_up_b1
  exact a_seq (a_par (a_cb (a_cons (a_var 0) (a_nil))) (a_lst (a_nil))) (a_seq (a_while (a_test (a_op (a_var 1) (a_c _))) (a_seq (a_app (a_varS 1)) (a_asg (a_op (a_var 2) (a_var
   1))))) (a_retV))
/-! _law_whole: slots 0 _law_rows 1 _law_funds 2 _law_found 3 _law_name 4 _law_parent 5 _law_outer; calls _law_up; cost 0; new; draws nothing -/
def t_law_whole (Γ : Cn) : TS := tSeq (tAsg (tCB (gDict Γ.K) (tCons (tLc (gIter Γ.K (tVar 0)) (gTup Γ.K 2 (gCons (gName 3) (gCons (gName 4) (gNil)))) (tYes) (tTup (tCons (tVar 3) (tCons (tC (.int 0))
   (tNil)))) [3, 4]) (tNil))) (gName 2)) (tSeq (tLkS (tFor (iKeys (tVar 1)) (gName 3) (tFor (gIter Γ.K (tFn (sp_law_up Γ) E0 (tCons (tVar 0) (tCons (tVar 3) (tNil)))))
   (gName 5) (tAsg (tOp (gAdd Γ.K) (tOp (gIx Γ.K) (tVar 2) (tVar 5)) (tOp (gIx Γ.K) (tVar 1) (tVar 3))) (L2.gSub (tVar 2) (tVar 5) gSet))))) (tRet (tVar 2)))
def d_law_whole_b1 : DQ := dSetO 2 (dVar 5) (dOp fAdd (dOp fIx (dVar 2) (dVar 5)) (dOp fIx (dVar 1) (dVar 3)))
def d_law_whole_b2 : DQ := dFor (dIter (dFn dp_law_up (dCons (dVarS 0) (dCons (dVarS 3) (dNil))))) (dName 5) (d_law_whole_b1)
def d_law_whole : DQ := dSeq (dAsgO (dCB fDict (dCons (dLc (dIter (dVar 0)) (dTup2 3 4) (dYes) (dTup (dCons (dVarS 3) (dCons (dC (.int 0)) (dNil)))) [3, 4]) (dNil))) 2) (dSeq (dFor (dKeys (dVarS
   1)) (dName 3) (d_law_whole_b2)) (dRetV 2))
theorem snd_law_whole {Γ : Cn} {L : LS} : SS Γ L 0 (t_law_whole Γ) d_law_whole := by
  unfold t_law_whole d_law_whole d_law_whole_b2 d_law_whole_b1
  exact s_seq (s_asgO 2 (s_cbF k_dict (s_consT (SF.t (s_lc (s_iterT (s_var 0)) (s_tup2 3 4) (s_yes) (s_tup (s_cons (s_varS 3) (s_cons (s_c fun _ => .int _) (s_nil))))))
   (s_nilT)))) (s_seq (s_forK (loc_var 1) (s_name 3) (s_for (s_iter (SF.e (s_fnF (s := dp_law_up) (cf := 0) (s_cons (s_varS 0) (s_cons (s_varS 3) (s_nil)))))) (s_name 5)
   (s_setO 2 (s_op o_add (SE.t (s_op o_ix (s_var 2) (s_var 5))) (SE.t (s_op o_ix (s_var 1) (s_var 3)))) (s_var 5)))) (s_retV 2))
def dp_law_whole : DSp := dpOfF 6 d_law_whole
def sp_law_whole (Γ : Cn) : Sp := liftF Γ 2 0 dp_law_whole
def r_law_whole_b1 : RQ := rSetO 2 (rVar 5) (rOp fAdd (rOp fIx (rVar 2) (rVar 5)) (rOp fIx (rVar 1) (rVar 3)))
def r_law_whole_b2 : RQ := rFor (rIter (rFn R_law_up (rCons (rVarS 0) (rCons (rVarS 3) (rNil))))) (rName 5) (r_law_whole_b1)
def r_law_whole : RQ := rSeq (rAsgO (rCB fDict (rCons (rLc (rIter (rVar 0)) (rTup2 3 4) (rYes) (rTup (rCons (rVarS 3) (rCons (rC (.int 0)) (rNil)))) [3, 4]) (rNil))) 2) (rSeq (rFor (rKeys (rVarS
   1)) (rName 3) (r_law_whole_b2)) (rRetV true 2))
def R_law_whole : List D → Option D := runOfF 6 r_law_whole
theorem ag_law_whole : AgF dp_law_whole R_law_whole := by
  refine ag_ofF ?_
  unfold d_law_whole r_law_whole d_law_whole_b2 r_law_whole_b2 d_law_whole_b1 r_law_whole_b1
  exact a_seq (a_asgO (a_cb (a_cons (a_lc (a_iter (a_var 0)) (a_tup2 3 4) (a_yes) (a_tup (a_cons (a_varS 3) (a_cons (a_c _) (a_nil))))) (a_nil)))) (a_seq (a_for (a_keys (a_varS
   1)) (a_name 3) (a_for (a_iter (a_fn ag_law_up (a_cons (a_varS 0) (a_cons (a_varS 3) (a_nil))))) (a_name 5) (a_setO (a_var 5) (a_op (a_op (a_var 2) (a_var 5)) (a_op
   (a_var 1) (a_var 3)))))) (a_retV))
end GP

set_option Elab.async false
set_option linter.all false
set_option maxRecDepth 100000
set_option maxHeartbeats 4000000
/-! S4: ancestors and subtrees, in plain Lean; the program's defs compute them. -/
namespace GP
open PySem PySem.Spec PyProof.Rows L2
/-- the parent of an account -/
def par (rows : List Row) (n : Str) : Option Str := (rows.find? fun r => decide (r.1 = n)).bind (·.2)
def ancN (rows : List Row) : Nat → Str → List Str
  | 0, _ => []
  | k + 1, n => n :: match par rows n with
    | none => []
    | some q => ancN rows k q
/-- an account, its parent and so on -/
def anc (rows : List Row) (n : Str) : List Str := ancN rows 8 n
def sub (rows : List Row) (n : Str) : List Str := (nms rows).filter fun b => (anc rows b).contains n
/-- the place of a name -/
def plc (rows : List Row) (n : Str) : Nat := rows.findIdx fun r => decide (r.1 = n)
section
variable {rows : List Row}
theorem row_of (n : Str) (h : n ∈ nms rows) : ∃ r, rows[plc rows n]? = some r ∧ r.1 = n ∧ (rows.find? fun r => decide (r.1 = n)) = some r := by
  obtain ⟨r0, h1, h2⟩ := List.mem_map.mp h
  have hlt : rows.findIdx (fun r => decide (r.1 = n)) < rows.length := List.findIdx_lt_length_of_exists ⟨r0, h1, by simp [h2]⟩
  refine ⟨rows[plc rows n]'hlt, List.getElem?_eq_getElem hlt, ?_, ?_⟩
  · have := List.findIdx_getElem (w := hlt)
    unfold plc
    simpa using this
  · rw [List.find?_eq_some_iff_getElem]
    refine ⟨by unfold plc; simpa using List.findIdx_getElem (w := hlt), _, hlt, rfl, fun j hj => ?_⟩
    have := List.not_of_lt_findIdx hj
    simpa using this
theorem plc_lt (h : n ∈ nms rows) : plc rows n < rows.length := by
  obtain ⟨r, h1, _⟩ := row_of n h
  exact (List.getElem?_eq_some_iff.mp h1).1
theorem par_in (ok : OkF rows) {n q : Str} (h : n ∈ nms rows) (hp : par rows n = some q) : q ∈ nms rows ∧ plc rows q < plc rows n := by
  obtain ⟨r, h1, h2, h3⟩ := row_of n h
  unfold par at hp
  rw [h3] at hp
  have hm := ok.pa _ r q h1 hp
  obtain ⟨r2, m2, e2⟩ := List.mem_map.mp hm
  obtain ⟨j, hj, ej⟩ := List.getElem_of_mem m2
  have hj' : j < plc rows n := by
    rw [List.length_take] at hj
    omega
  have hjl : j < rows.length := by
    rw [List.length_take] at hj
    omega
  have er : rows[j] = r2 := by rw [← ej, List.getElem_take]
  refine ⟨List.mem_map.mpr ⟨r2, List.mem_of_mem_take m2, e2⟩, ?_⟩
  refine Nat.lt_of_le_of_lt ?_ hj'
  refine Nat.le_of_not_lt fun hlt => ?_
  have := List.not_of_lt_findIdx (p := fun r : Row => decide (r.1 = q)) (xs := rows) (i := j) hlt
  rw [er] at this
  simp [e2] at this
theorem ancN_up (ok : OkF rows) : ∀ (k m : Nat) (n : Str), n ∈ nms rows → plc rows n < k → plc rows n < m → ancN rows k n = ancN rows m n
  | 0, _, _, _, h, _ => by omega
  | _, 0, _, _, _, h => by omega
  | k + 1, m + 1, n, hn, h1, h2 => by
    unfold ancN
    cases hp : par rows n with
    | none => rfl
    | some q =>
      obtain ⟨h3, h4⟩ := par_in ok hn hp
      show n :: ancN rows k q = n :: ancN rows m q
      rw [ancN_up ok k m q h3 (by omega) (by omega)]
theorem anc_eq (ok : OkF rows) {n : Str} (h : n ∈ nms rows) : anc rows n = n :: match par rows n with
    | none => []
    | some q => anc rows q := by
  unfold anc
  rw [ancN]
  cases hp : par rows n with
  | none => rfl
  | some q =>
    obtain ⟨h3, h4⟩ := par_in ok h hp
    have h5 := plc_lt h
    have h6 := ok.le
    show n :: ancN rows 7 q = n :: ancN rows 8 q
    rw [ancN_up ok 7 8 q h3 (by omega) (by omega)]
/-- a proof over the accounts from the roots on -/
theorem anc_ind (ok : OkF rows) {P : Str → Prop} (h : ∀ n, n ∈ nms rows → (∀ q, par rows n = some q → P q) → P n) : ∀ n, n ∈ nms rows → P n := by
  have key : ∀ (k : Nat) (n : Str), n ∈ nms rows → plc rows n < k → P n := by
    intro k
    induction k with
    | zero => intro n _ h; omega
    | succ k ih =>
      intro n hn hk
      refine h n hn fun q hq => ?_
      obtain ⟨h3, h4⟩ := par_in ok hn hq
      exact ih q h3 (by omega)
  intro n hn
  exact key _ n hn (Nat.lt_succ_self _)
theorem anc_self (ok : OkF rows) {n : Str} (h : n ∈ nms rows) : n ∈ anc rows n := by rw [anc_eq ok h]; exact List.mem_cons_self
theorem anc_in (ok : OkF rows) {n a : Str} (h : n ∈ nms rows) (ha : a ∈ anc rows n) : a ∈ nms rows := by
  revert ha
  refine anc_ind (P := fun n => a ∈ anc rows n → a ∈ nms rows) ok (fun n hn ih ha => ?_) n h
  rw [anc_eq ok hn] at ha
  rcases List.mem_cons.mp ha with rfl | ha
  · exact hn
  · cases hp : par rows n with
    | none => rw [hp] at ha; cases ha
    | some q => rw [hp] at ha; exact ih q hp ha
theorem anc_trans (ok : OkF rows) {a b c : Str} (hc : c ∈ nms rows) (h1 : a ∈ anc rows b) (h2 : b ∈ anc rows c) : a ∈ anc rows c := by
  revert h2
  refine anc_ind (P := fun c => b ∈ anc rows c → a ∈ anc rows c) ok (fun c hc ih h2 => ?_) c hc
  rw [anc_eq ok hc] at h2 
  rcases List.mem_cons.mp h2 with rfl | h2
  · exact h1
  · cases hp : par rows c with
    | none => rw [hp] at h2; cases h2
    | some q =>
      rw [hp] at h2
      rw [anc_eq ok hc, hp]
      exact List.mem_cons_of_mem _ (ih q hp h2)
theorem anc_plc (ok : OkF rows) {a n : Str} (h : n ∈ nms rows) (ha : a ∈ anc rows n) : plc rows a ≤ plc rows n := by
  revert ha
  refine anc_ind (P := fun n => a ∈ anc rows n → plc rows a ≤ plc rows n) ok (fun n hn ih ha => ?_) n h
  rw [anc_eq ok hn] at ha
  rcases List.mem_cons.mp ha with rfl | ha
  · exact Nat.le_refl _
  · cases hp : par rows n with
    | none => rw [hp] at ha; cases ha
    | some q =>
      rw [hp] at ha
      have h3 := par_in ok hn hp
      have := ih q hp ha
      omega
theorem anc_nodup (ok : OkF rows) {n : Str} (h : n ∈ nms rows) : (anc rows n).Nodup := by
  refine anc_ind (P := fun n => (anc rows n).Nodup) ok (fun n hn ih => ?_) n h
  rw [anc_eq ok hn]
  cases hp : par rows n with
  | none => simp
  | some q =>
    have h3 := par_in ok hn hp
    refine List.nodup_cons.mpr ⟨fun m => ?_, ih q hp⟩
    have := anc_plc ok h3.1 m
    omega
theorem anc_len (rows : List Row) (n : Str) : (anc rows n).length ≤ 8 := by
  have : ∀ k n, (ancN rows k n).length ≤ k := by
    intro k
    induction k with
    | zero => intro n; exact Nat.le_refl _
    | succ k ih =>
      intro n
      rw [ancN]
      cases par rows n with
      | none => simp
      | some q => have := ih q; simp; omega
  exact this 8 n
end
/-! ### what the program's defs compute -/
theorem fld_for (rows : List Row) : fldD "parents" (forD rows) = some (.dct (parK rows)) := by
  show ([(("parents" : Str), D.dct (parK rows))] : List (Str × D)).lookup ("parents" : Str) = _
  rw [List.lookup_cons]
  simp
theorem met_for (rows : List Row) (m : Str) (h : ¬ m = "parents") : metD "Forest" m (forD rows) = some (forD rows) := by
  have h1 : (m == ("parents" : Str)) = false := by simpa using h
  have h2 : (([(("parents" : Str), D.dct (parK rows))] : List (Str × D)).lookup m).isNone = true := by
    rw [List.lookup_cons, h1]
    rfl
  exact if_pos ⟨rfl, h2⟩
theorem ins_for (rows : List Row) : insD "Forest" (forD rows) = some (forD rows) := rfl
theorem m1 : ¬ (("need_account" : Str) = "parents") := by decide +kernel
theorem m2 : ¬ (("ancestors" : Str) = "parents") := by decide +kernel
theorem m3 : ¬ (("subtree" : Str) = "parents") := by decide +kernel
theorem kD_par (rows : List Row) : (parK rows).map (fun kv => kD kv.1) = (nms rows).map .str := by
  unfold parK nms
  rw [List.map_map, List.map_map]
  rfl
theorem R_names (rows : List Row) : R_Forest_names [forD rows] = some (.tup ((nms rows).map .str)) := by
  have h := kD_par rows
  simp [R_Forest_names, runOf, r_Forest_names, fld_for, fTuple]
  rw [← h]
theorem R_need_account {rows : List Row} {n : Str} (h : n ∈ nms rows) : R_Forest_need_account [forD rows, .str n] = some .non := by
  simp [R_Forest_need_account, runOf, r_Forest_need_account, fld_for, fNotIn_par, h]
theorem ix_par {rows : List Row} {n : Str} (h : n ∈ nms rows) : fIx (.dct (parK rows)) (.str n) = some (optD (par rows n)) := by
  show valD (parK rows) (.inr n) = _
  rw [valD_par]
  obtain ⟨r, _, _, h3⟩ := row_of n h
  unfold par
  rw [h3]
  rfl
theorem ne_neg : fNeg (.int 1) = some (.int (-1)) := rfl
theorem ix_last {xs : List D} {x : D} : fIx (.lst (xs ++ [x])) (.int (-1)) = some x := by
  show atI (xs ++ [x]) (-1) = some x
  have h : ixN (xs ++ [x]).length (-1) = some xs.length := by
    unfold ixN
    rw [if_neg (by omega), if_pos (by rw [List.length_append]; simp; omega)]
    rw [List.length_append]
    congr 1
    simp
    omega
  unfold atI
  rw [h]
  simp
/-! ancestors: the loop goes from parent to parent -/
theorem anc_loop {rows : List Row} (ok : OkF rows) (d1 : Option Sl) : ∀ n, n ∈ nms rows → ∀ (k : Nat) (pre : List Str), plc rows n < k → pre.length + plc rows n < 100 →
    rWhileN (rTest (rOp fIsNot (rOp fIx (rFld "parents" (rVar 0)) (rOp fIx (rVar 2) (rUn fNeg (rC (.int 1))))) (rC .non))) r_Forest_ancestors_b1 k [some (.sh (forD rows)), d1, some (.ow (.lst (pre.map .str ++ [.str n])))] = some (.nx [some (.sh (forD rows)), d1, some (.ow (.lst ((pre ++ anc rows n).map .str)))]) := by
  refine anc_ind ok fun n hn ih => ?_
  intro k pre hk hl
  obtain ⟨k, rfl⟩ : ∃ j, k = j + 1 := ⟨k - 1, by omega⟩
  rw [rWhileN, anc_eq ok hn]
  cases hp : par rows n with
  | none => simp [fld_for, ne_neg, ix_last, ix_par hn, hp, optD]
  | some q =>
    obtain ⟨h3, h4⟩ := par_in ok hn hp
    have h5 := ih q hp k (pre ++ [n]) (by omega) (by rw [List.length_append]; simp; omega)
    have hlim : pre.length + 1 < LIM := by
      show _ < 1000000
      omega
    simp [fld_for, ne_neg, ix_last, ix_par hn, hp, optD, r_Forest_ancestors_b1, rApp, hlim] at h5 ⊢
    exact h5
theorem R_ancestors {rows : List Row} (ok : OkF rows) {n : Str} (h : n ∈ nms rows) : R_Forest_ancestors [forD rows, .str n] = some (.lst ((anc rows n).map .str)) := by
  have h1 := plc_lt h
  have h2 := ok.le
  have h3 := anc_loop ok (some (.sh (.str n))) n h FUEL [] (by show _ < 1000000; omega) (by simp; omega)
  simp [R_Forest_ancestors, runOfF, r_Forest_ancestors, rWhile, met_for rows _ m1, R_need_account h, rRetV] at h3 ⊢
  simp [h3]
theorem in_strs' (n : Str) (l : List Str) : fIn (.str n) (.lst (l.map .str)) = some (.bl (l.contains n)) := by
  unfold fIn
  rw [in_strs]
  rfl
theorem notIn_strs (n : Str) (l : List Str) : fNotIn (.str n) (.lst (l.map .str)) = some (.bl (!l.contains n)) := by
  unfold fNotIn
  rw [in_strs]
  rfl
theorem R_subtree {rows : List Row} (ok : OkF rows) {n : Str} (h : n ∈ nms rows) : R_Forest_subtree [forD rows, .str n] = some (.lst ((sub rows n).map .str)) := by
  have hc : compL (lcStep (rName 2) (rTest (rOp fIn (rVar 1) (rMt "Forest" "ancestors" R_Forest_ancestors (rVarS 0) (rCons (rVarS 2) (rNil))))) (rVarS 2) ([some (.sh (forD rows)), some (.sh (.str n)), none] : DS)) ((nms rows).map .str) = some ((sub rows n).map .str) := by
    refine compL_filter fun b hb => ?_
    simp [met_for rows _ m2, R_ancestors ok hb, in_strs']
    split <;> rfl
  have hk := kD_par rows
  simp [-x_lcStep, R_Forest_subtree, runOfF, r_Forest_subtree, met_for rows _ m1, R_need_account h, fld_for, hk, hc]
end GP

set_option Elab.async false
set_option linter.all false
set_option maxRecDepth 100000
set_option maxHeartbeats 4000000
/-! S5: claims, balances, totals and entitlements; the program's defs compute them. -/
namespace GP
open PySem PySem.Spec PyProof.Rows L2
/-- a dict from names to ints -/
def mapK (ns : List Str) (f : Str → Int) : List (Key × D) := ns.map fun n => (.inr n, .int (f n))
def balK (bs : List (Str × Int)) : List (Key × D) := bs.map fun p => (.inr p.1, .int p.2)
def balOf (bs : List (Str × Int)) (n : Str) : Int := ((bs.find? fun p => decide (p.1 = n)).map (·.2)).getD 0
def clD (c : Str × Int) : D := .tup [.str c.1, .int c.2]
def tot (rows : List Row) (f : Str → Int) (n : Str) : Int := ((sub rows n).map f).sum
def mnL : Int → List Int → Int
  | c, [] => c
  | c, x :: r => min c (mnL x r)
def stepE (rows : List Row) (s : (Str → Int) × List Int) (c : Str × Int) : (Str → Int) × List Int :=
  (fun n => if n ∈ anc rows c.1 then s.1 n - mnL c.2 ((anc rows c.1).map s.1) else s.1 n, s.2 ++ [mnL c.2 ((anc rows c.1).map s.1)])
/-- the entitlements, with so much left at each account -/
def ent (rows : List Row) (f : Str → Int) (cs : List (Str × Int)) : List Int := (cs.foldl (stepE rows) (f, [])).2
structure OkB (rows : List Row) (bs : List (Str × Int)) : Prop where
  nd : (bs.map (·.1)).Nodup
  ok : ∀ p ∈ bs, p.1 ∈ nms rows ∧ 0 ≤ p.2 ∧ p.2 ≤ 1000000000000
structure OkC (rows : List Row) (cs : List (Str × Int)) : Prop where
  le : cs.length ≤ 20
  ok : ∀ c ∈ cs, c.1 ∈ nms rows ∧ 0 ≤ c.2 ∧ c.2 ≤ 1000000000
/-! ### dicts -/
theorem valD_nil (k : Key) : valD [] k = none := rfl
theorem valD_cons (k k' : Key) (d : D) (kvs : List (Key × D)) : valD ((k', d) :: kvs) k = if k' = k then some d else valD kvs k := by
  unfold valD
  by_cases h : k' = k
  · rw [List.find?_cons_of_pos (by simp [h]), if_pos h]; rfl
  · rw [List.find?_cons_of_neg (by simp [h]), if_neg h]
theorem valD_mapK {ns : List Str} (f : Str → Int) (n : Str) : valD (mapK ns f) (.inr n) = if n ∈ ns then some (.int (f n)) else none := by
  induction ns with
  | nil => rfl
  | cons m ns ih =>
    unfold mapK at ih ⊢
    rw [List.map_cons, valD_cons, ih]
    by_cases h : m = n
    · subst h; simp
    · have h' : ¬ n = m := fun e => h e.symm
      have h'' : ¬ (Sum.inr m : Key) = Sum.inr n := fun e => h (Sum.inr.inj e)
      simp [h', h'']
theorem valD_balK {bs : List (Str × Int)} (n : Str) : valD (balK bs) (.inr n) = (bs.find? fun p => decide (p.1 = n)).map fun p => .int p.2 := by
  induction bs with
  | nil => rfl
  | cons p bs ih =>
    unfold balK at ih ⊢
    rw [List.map_cons, valD_cons, ih]
    by_cases h : p.1 = n
    · rw [List.find?_cons_of_pos (by simp [h])]; subst h; simp
    · rw [List.find?_cons_of_neg (by simp [h])]
      have h'' : ¬ (Sum.inr p.1 : Key) = Sum.inr n := fun e => h (Sum.inr.inj e)
      simp [h'']
theorem get2_bal (bs : List (Str × Int)) (n : Str) : get2D (.dct (balK bs)) (.str n) (.int 0) = some (.int (balOf bs n)) := by
  show some ((valD (balK bs) (.inr n)).getD (.int 0)) = _
  rw [valD_balK]
  unfold balOf
  cases bs.find? fun p => decide (p.1 = n) <;> rfl
theorem ix_mapK {ns : List Str} (f : Str → Int) {n : Str} (h : n ∈ ns) : fIx (.dct (mapK ns f)) (.str n) = some (.int (f n)) := by
  show valD (mapK ns f) (.inr n) = _
  rw [valD_mapK, if_pos h]
theorem keys_mapK (ns : List Str) (f : Str → Int) : (mapK ns f).map (fun kv => kD kv.1) = ns.map .str := by
  unfold mapK
  rw [List.map_map]
  rfl
theorem keys_balK (bs : List (Str × Int)) : (balK bs).map (fun kv => kD kv.1) = (bs.map (·.1)).map .str := by
  unfold balK
  rw [List.map_map, List.map_map]
  rfl
theorem putD_new {acc : List (Key × D)} {k : Key} {v : D} (h : ∀ kv ∈ acc, kv.1 ≠ k) : putD acc k v = acc ++ [(k, v)] := by
  unfold putD
  have : (acc.any fun kv => decide (kv.1 = k)) = false := by
    rw [List.any_eq_false]
    intro kv hk e
    exact h kv hk (by simpa using e)
  rw [this]
  rfl
theorem dcL_map {α : Type} {f : D → Option (Option (Key × D))} {e : α → D} {kk : α → Key} {vv : α → D} : ∀ {xs : List α} {acc : List (Key × D)}, (∀ x ∈ xs, f (e x) = some (some (kk x, vv x))) → (xs.map kk).Nodup → (∀ kv ∈ acc, ∀ x ∈ xs, kv.1 ≠ kk x) → dcL f (xs.map e) acc = some (acc ++ xs.map fun x => (kk x, vv x))
  | [], acc, _, _, _ => by simp [dcL]
  | x :: xs, acc, h, nd, ha => by
    rw [List.map_cons, dcL, h x List.mem_cons_self]
    show dcL f (xs.map e) (putD acc (kk x) (vv x)) = _
    rw [List.map_cons, List.nodup_cons] at nd
    rw [putD_new fun kv hk => ha kv hk x List.mem_cons_self, dcL_map (fun y m => h y (List.mem_cons_of_mem _ m)) nd.2 fun kv hk y m => ?_]
    · simp
    · rcases List.mem_append.mp hk with hk | hk
      · exact ha kv hk y (List.mem_cons_of_mem _ m)
      · rw [List.mem_singleton.mp hk]
        intro e
        exact nd.1 (List.mem_map.mpr ⟨y, m, e.symm⟩)
theorem nodup_inr {ns : List Str} (h : ns.Nodup) : (ns.map fun n => (Sum.inr n : Key)).Nodup := nodup_map (fun a b e => Sum.inr.inj e) h
theorem dcL_names {f : D → Option (Option (Key × D))} {ns : List Str} {g : Str → Int} (nd : ns.Nodup) (h : ∀ n ∈ ns, f (.str n) = some (some (.inr n, .int (g n)))) : dcL f (ns.map .str) [] = some (mapK ns g) := by
  have := dcL_map (f := f) (e := D.str) (kk := fun n => Sum.inr n) (vv := fun n => .int (g n)) (acc := []) h (nodup_inr nd) (fun _ m => by cases m)
  rw [this]
  rfl
theorem intsD_map {α : Type} (f : α → Int) (xs : List α) : intsD (xs.map fun x => .int (f x)) = some (xs.map f) := by
  induction xs with
  | nil => rfl
  | cons x xs ih => rw [List.map_cons, intsD, ih]; rfl
theorem fSum_map {α : Type} (f : α → Int) (xs : List α) : fSum [.lst (xs.map fun x => .int (f x))] = some (.int (xs.map f).sum) := by
  show (intsD _).map _ = _
  rw [intsD_map]
  rfl
theorem minL_mn : ∀ (l : List Int) (c : Int), minL (c :: l) = some (mnL c l)
  | [], c => rfl
  | x :: r, c => by
    rw [minL, minL_mn r x, mnL]
    · simp [Int.min_def]
    · intro h; cases h
theorem fMin_cons {c : Int} {α : Type} (f : α → Int) (xs : List α) : fMin [.lst (.int c :: xs.map fun x => .int (f x))] = some (.int (mnL c (xs.map f))) := by
  show (match intsD (.int c :: xs.map fun x => .int (f x)) with
    | some bs => (minL bs).map D.int
    | none => none) = _
  have h : intsD (.int c :: xs.map fun x => .int (f x)) = some (c :: xs.map f) := by rw [intsD, intsD_map]; rfl
  rw [h]
  show (minL (c :: xs.map f)).map D.int = _
  rw [minL_mn]
  rfl
/-! ### total_by -/
theorem R_total {rows : List Row} (ok : OkF rows) (bs : List (Str × Int)) : R_total_by [forD rows, .dct (balK bs)] = some (.dct (mapK (nms rows) (tot rows (balOf bs)))) := by
  have hc : ∀ n : Str, compL (lcStep (rName 3) rYes (rGet2 (rVar 1) (rVar 3) (rC (.int 0))) ([some (.sh (forD rows)), some (.sh (.dct (balK bs))), some (.sh (.str n)), none] : DS)) ((sub rows n).map .str) = some ((sub rows n).map fun b => .int (balOf bs b)) := fun n => by
    refine compL_map fun b hb => ?_
    simp [get2_bal]
  have hd : dcL (dcStep (rName 2) (rYes) (rVarS 2) (rCB fSum (rCons (rLc (rIter (rMt "Forest" "subtree" R_Forest_subtree (rVarS 0) (rCons (rVarS 2) (rNil)))) (rName 3) (rYes) (rGet2 (rVar 1) (rVar 3) (rC (.int 0))) [3]) (rNil))) ([some (.sh (forD rows)), some (.sh (.dct (balK bs))), none, none] : DS)) ((nms rows).map .str) [] = some (mapK (nms rows) (tot rows (balOf bs))) := by
    refine dcL_names ok.nd fun n hn => ?_
    simp [-x_lcStep, met_for rows _ m3, R_subtree ok hn, hc, fSum_map, tot]
  simp [-x_dcStep, -x_lcStep, R_total_by, runOfF, r_total_by, ins_for, R_names, hd]
/-! ### loops over typed items -/
theorem for_fold {α S : Type} {g : RGt} {b : RQ} {e : α → D} (st : S → DS → Prop) (step : S → α → S) : ∀ (xs : List α) (s : S) (δ : DS), st s δ → (∀ x ∈ xs, ∀ s δ, st s δ → ∃ δ', (g (e x) δ).bind b = some (.nx δ') ∧ st (step s x) δ') → ∃ δ', rForL g b (xs.map e) δ = some (.nx δ') ∧ st (xs.foldl step s) δ'
  | [], s, δ, h, _ => ⟨δ, rfl, h⟩
  | x :: xs, s, δ, h, hs => by
    obtain ⟨δ1, h1, h2⟩ := hs x List.mem_cons_self s δ h
    obtain ⟨δ2, h3, h4⟩ := for_fold st step xs _ δ1 h2 fun y m => hs y (List.mem_cons_of_mem _ m)
    refine ⟨δ2, ?_, h4⟩
    rw [List.map_cons, rForL]
    obtain ⟨δ0, h5, h6⟩ := bnd h1
    rw [h5]
    show (b δ0).bind _ = _
    rw [h6]
    exact h3
theorem for_foldI {α S : Type} {g : RGt} {b : RQ} {e : α → D} (st : Nat → S → DS → Prop) (step : S → α → S) : ∀ (xs : List α) (k : Nat) (s : S) (δ : DS), st k s δ → (∀ i x, xs[i]? = some x → ∀ s δ, st (k + i) s δ → ∃ δ', (g (e x) δ).bind b = some (.nx δ') ∧ st (k + i + 1) (step s x) δ') → ∃ δ', rForL g b (xs.map e) δ = some (.nx δ') ∧ st (k + xs.length) (xs.foldl step s) δ'
  | [], k, s, δ, h, _ => ⟨δ, rfl, h⟩
  | x :: xs, k, s, δ, h, hs => by
    obtain ⟨δ1, h1, h2⟩ := hs 0 x rfl s δ h
    obtain ⟨δ2, h3, h4⟩ := for_foldI st step xs (k + 1) _ δ1 h2 fun i y m s δ q => by
      rw [show k + 1 + i = k + (i + 1) by omega] at q ⊢
      exact hs (i + 1) y (by simpa using m) s δ q
    refine ⟨δ2, ?_, by rw [List.length_cons, show k + (xs.length + 1) = k + 1 + xs.length by omega]; exact h4⟩
    rw [List.map_cons, rForL]
    obtain ⟨δ0, h5, h6⟩ := bnd h1
    rw [h5]
    show (b δ0).bind _ = _
    rw [h6]
    exact h3
end GP

set_option Elab.async false
set_option linter.all false
set_option maxRecDepth 100000
set_option maxHeartbeats 4000000
/-! S6: entitled_by and the checks of arguments. -/
namespace GP
open PySem PySem.Spec PyProof.Rows L2
theorem stepE_len (rows : List Row) : ∀ (cs : List (Str × Int)) (s : (Str → Int) × List Int), (cs.foldl (stepE rows) s).2.length = s.2.length + cs.length
  | [], s => rfl
  | c :: cs, s => by
    rw [List.foldl_cons, stepE_len rows cs]
    simp [stepE]
    omega
theorem ent_len (rows : List Row) (f : Str → Int) (cs : List (Str × Int)) : (ent rows f cs).length = cs.length := by
  unfold ent
  rw [stepE_len]
  simp
theorem seq_cl {cl : D} {cs : List (Str × Int)} (h : cl = .lst (cs.map clD) ∨ cl = .tup (cs.map clD)) : seqD cl = some (cs.map clD) := by
  rcases h with rfl | rfl <;> rfl
/-- slots: forest claims balances left found account claim line amount name -/
def enS (rows : List Row) (cl bl : D) (s : (Str → Int) × List Int) (a b c d : Option Sl) : DS := [some (.sh (forD rows)), some (.sh cl), some (.sh bl), some (.sh (.dct (mapK (nms rows) s.1))), some (.ow (.lst (s.2.map .int))), a, b, c, d, none]
theorem en_body {rows : List Row} (ok : OkF rows) (cl bl : D) (s : (Str → Int) × List Int) (hs : s.2.length < 100000) (c : Str × Int) (hc : c.1 ∈ nms rows) (a0 b0 c0 d0 : Option Sl) :
    ∃ a b c' d, ((rTup2 5 6 (clD c) (enS rows cl bl s a0 b0 c0 d0)).bind r_entitled_by_b1) = some (.nx (enS rows cl bl (stepE rows s c) a b c' d)) := by
  obtain ⟨f, l⟩ := s
  obtain ⟨n, k⟩ := c
  refine ⟨some (.sh (.str n)), some (.sh (.int k)), some (.sh (.lst ((anc rows n).map .str))), some (.sh (.int (mnL k ((anc rows n).map f)))), ?_⟩
  have hN : ∀ b ∈ anc rows n, b ∈ nms rows := fun b hb => anc_in ok hc hb
  have h1 : ∀ x8, compL (lcStep (rName 9) rYes (rOp fIx (rVar 3) (rVar 9)) ([some (.sh (forD rows)), some (.sh cl), some (.sh bl), some (.sh (.dct (mapK (nms rows) f))), some (.ow (.lst (l.map .int))), some (.sh (.str n)), some (.sh (.int k)), some (.sh (.lst ((anc rows n).map .str))), x8, none] : DS)) ((anc rows n).map .str) = some ((anc rows n).map fun b => .int (f b)) := fun x8 => by
    refine compL_map fun b hb => ?_
    simp [ix_mapK f (hN b hb)]
  have hL : (anc rows n).length + 1 ≤ LIM := by
    have := anc_len rows n
    show _ ≤ 1000000
    omega
  have h2 : fAdd (.lst [.int k]) (.lst ((anc rows n).map fun b => .int (f b))) = some (.lst (.int k :: (anc rows n).map fun b => .int (f b))) := by
    show (if [D.int k].length + ((anc rows n).map fun b => D.int (f b)).length ≤ LIM then _ else _) = _
    rw [if_pos (by simp; omega)]
    rfl
  have h3 : dcL (dcStep (rName 9) (rYes) (rVarS 9) (rIf (rTest (rOp fIn (rVar 9) (rVar 7))) (rOp fSub (rOp fIx (rVar 3) (rVar 9)) (rVar 8)) (rOp fIx (rVar 3) (rVar 9))) ([some (.sh (forD rows)), some (.sh cl), some (.sh bl), some (.sh (.dct (mapK (nms rows) f))), some (.ow (.lst (l.map .int))), some (.sh (.str n)), some (.sh (.int k)), some (.sh (.lst ((anc rows n).map .str))), some (.sh (.int (mnL k ((anc rows n).map f)))), none] : DS)) ((nms rows).map .str) [] = some (mapK (nms rows) (stepE rows (f, l) (n, k)).1) := by
    refine dcL_names ok.nd fun m hm => ?_
    by_cases h : m ∈ anc rows n
    · simp [in_strs', ix_mapK f hm, h, stepE]
    · simp [in_strs', ix_mapK f hm, h, stepE]
  have hk := keys_mapK (nms rows) f
  have hs' : l.length < LIM := by show _ < 1000000; have : l.length < 100000 := hs; omega
  simp [-x_lcStep, -x_dcStep, r_entitled_by_b1, enS, clD, met_for rows _ m2, R_ancestors ok hc, h1, h2, fMin_cons, h3, hk, rApp, hs', stepE]
theorem R_entitled {rows : List Row} (ok : OkF rows) {cl : D} {cs : List (Str × Int)} (h : cl = .lst (cs.map clD) ∨ cl = .tup (cs.map clD)) (hc : ∀ c ∈ cs, c.1 ∈ nms rows) (hl : cs.length ≤ 1000) (bs : List (Str × Int)) :
    R_entitled_by [forD rows, cl, .dct (balK bs)] = some (.lst ((ent rows (tot rows (balOf bs)) cs).map .int)) := by
  obtain ⟨δ', h1, i, a, b, c, d, h2⟩ := for_foldI (α := Str × Int) (S := (Str → Int) × List Int) (g := rTup2 5 6) (b := r_entitled_by_b1) (e := clD) (fun i s δ => s.2.length ≤ i ∧ ∃ a b c d, δ = enS rows cl (.dct (balK bs)) s a b c d) (stepE rows) cs 0 (tot rows (balOf bs), []) (enS rows cl (.dct (balK bs)) (tot rows (balOf bs), []) none none none none) ⟨Nat.le_refl _, none, none, none, none, rfl⟩ (fun i c hm s δ ⟨hi, a, b, c0, d, e⟩ => by
    subst e
    have hlt := (List.getElem?_eq_some_iff.mp hm).1
    obtain ⟨a', b', c', d', h'⟩ := en_body ok cl (.dct (balK bs)) s (by omega) c (hc c (List.mem_of_getElem? hm)) a b c0 d
    exact ⟨_, h', by simp [stepE]; omega, a', b', c', d', rfl⟩)
  subst h2
  unfold enS at h1
  simp [R_entitled_by, runOfF, r_entitled_by, R_total ok, seq_cl h, rRetV] at h1 ⊢
  simp [h1, ent]
/-! ### the checks of arguments -/
theorem R_is_integer_i (i : Int) : R_is_integer [.int i] = some (.bl true) := by simp [R_is_integer, runOf, r_is_integer]
theorem R_is_between_i (i a b : Int) : R_is_between [.int i, .int a, .int b] = some (.bl (decide (a ≤ i) && decide (i ≤ b))) := by
  simp [R_is_between, runOf, r_is_between, R_is_integer_i]
  by_cases h : a ≤ i <;> simp [h]
theorem R_is_amount_i (i : Int) : R_is_amount [.int i] = some (.bl (decide (1 ≤ i) && decide (i ≤ 1000000000))) := by
  simp [R_is_amount, runOf, r_is_amount, R_is_between_i, dc_MOST_AMOUNT]
theorem in_tup_strs (n : Str) (l : List Str) : fIn (.str n) (.tup (l.map .str)) = some (.bl (l.contains n)) := by
  have h1 : (l.map D.str).all flatD = true := by
    rw [List.all_eq_true]
    intro x hx
    obtain ⟨y, _, rfl⟩ := List.mem_map.mp hx
    rfl
  have h2 : ((l.map D.str).any fun y => deq 0 y (.str n)) = l.contains n := by
    induction l with
    | nil => rfl
    | cons m l ih =>
      rw [List.map_cons, List.any_cons, List.contains_cons]
      have h3 : (l.map D.str).all flatD = true := by
        rw [List.map_cons, List.all_cons, Bool.and_eq_true] at h1
        exact h1.2
      rw [ih h3]
      show ((m == n) || _) = ((n == m) || _)
      rw [Bool.beq_comm]
  have h3 : inD (.str n) (.tup (l.map .str)) = some (l.contains n) := by
    show (if flatD (.str n) && (l.map D.str).all flatD then some ((l.map D.str).any fun y => deq 0 y (.str n)) else none) = _
    rw [h1, h2]
    rfl
  unfold fIn
  rw [h3]
  rfl
theorem R_is_account_s (rows : List Row) (n : Str) : R_is_account [forD rows, .str n] = some (.bl ((nms rows).contains n)) := by
  simp [R_is_account, runOf, r_is_account, ins_for, R_names, in_tup_strs]
theorem ix_0 (x y : D) : fIx (.tup [x, y]) (.int 0) = some x := rfl
theorem ix_1 (x y : D) : fIx (.tup [x, y]) (.int 1) = some y := rfl
theorem R_is_claim_ok {rows : List Row} {c : Str × Int} (h : c.1 ∈ nms rows) (h0 : 0 ≤ c.2) (h1 : c.2 ≤ 1000000000) : R_is_claim [forD rows, clD c] = some (.bl true) := by
  by_cases h2 : 1 ≤ c.2
  · simp [R_is_claim, runOf, r_is_claim, clD, ix_0, ix_1, R_is_account_s, h, R_is_amount_i, h1, h2]
  · have h3 : c.2 ≤ 0 := by omega
    simp [R_is_claim, runOf, r_is_claim, clD, ix_0, ix_1, R_is_account_s, h, R_is_amount_i, h1, h2, R_is_between_i, h0, h3]
theorem fAll_true {xs : List D} (h : ∀ x ∈ xs, x = .bl true) : fAll [.lst xs] = some (.bl true) := by
  have e : xs = xs.map fun _ => D.bl ((fun _ : D => true) .non) := by
    conv => lhs; rw [← List.map_id xs]
    exact List.map_congr_left fun x hx => h x hx
  rw [e, fAll_map (fun _ => true)]
  simp
theorem is_list_cl {cl : D} {cs : List (Str × Int)} (h : cl = .lst (cs.map clD) ∨ cl = .tup (cs.map clD)) : R_is_list [cl] = some (.bl true) := by rcases h with rfl | rfl <;> rfl
theorem len_cl {cl : D} {cs : List (Str × Int)} (h : cl = .lst (cs.map clD) ∨ cl = .tup (cs.map clD)) : fLen [cl] = some (.int cs.length) := by rcases h with rfl | rfl <;> simp
theorem R_need_claims_ok {rows : List Row} {cl : D} {cs : List (Str × Int)} (h : cl = .lst (cs.map clD) ∨ cl = .tup (cs.map clD)) (ok : OkC rows cs) : R_need_claims [forD rows, cl] = some .non := by
  have hc : compL (lcStep (rName 2) rYes (rFn R_is_claim (rCons (rVarS 0) (rCons (rVarS 2) rNil))) ([some (.sh (forD rows)), some (.sh cl), none] : DS)) (cs.map clD) = some (cs.map fun _ => .bl true) := by
    refine compL_map fun c hm => ?_
    obtain ⟨h1, h2, h3⟩ := ok.ok c hm
    simp [R_is_claim_ok h1 h2 h3]
  have h2 : ¬ (20 : Int) < cs.length := by have := ok.le; omega
  have h3 : fAll [.lst (cs.map fun _ => D.bl true)] = some (.bl true) := fAll_true fun x hx => by obtain ⟨y, _, rfl⟩ := List.mem_map.mp hx; rfl
  simp [-x_lcStep, R_need_claims, runOf, r_need_claims, is_list_cl h, len_cl h, dc_MOST_CLAIMS, h2, seq_cl h, hc, h3]
theorem valD_bal_in {bs : List (Str × Int)} (nd : (bs.map (·.1)).Nodup) {p : Str × Int} (h : p ∈ bs) : balOf bs p.1 = p.2 ∧ fIx (.dct (balK bs)) (.str p.1) = some (.int p.2) := by
  have key : (bs.find? fun q => decide (q.1 = p.1)) = some p := by
    induction bs with
    | nil => cases h
    | cons q bs ih =>
      rw [List.map_cons, List.nodup_cons] at nd
      rcases List.mem_cons.mp h with rfl | h
      · rw [List.find?_cons_of_pos (by simp)]
      · have : ¬ q.1 = p.1 := fun e => nd.1 (List.mem_map.mpr ⟨p, h, e.symm⟩)
        rw [List.find?_cons_of_neg (by simp [this])]
        exact ih nd.2 h
  refine ⟨by unfold balOf; rw [key]; rfl, ?_⟩
  show valD (balK bs) (.inr p.1) = _
  rw [valD_balK, key]
  rfl
theorem R_need_balances_ok {rows : List Row} {bs : List (Str × Int)} (ok : OkB rows bs) : R_need_balances [forD rows, .dct (balK bs)] = some .non := by
  have hc : compL (lcStep (rName 2) rYes (rAndV (rFn R_is_account (rCons (rVarS 0) (rCons (rVarS 2) rNil))) (rFn R_is_between (rCons (rOp fIx (rVar 1) (rVar 2)) (rCons (rC (.int 0)) (rCons (rC dc_MOST_BALANCE) rNil))))) ([some (.sh (forD rows)), some (.sh (.dct (balK bs))), none] : DS)) ((bs.map (·.1)).map .str) = some ((bs.map (·.1)).map fun _ => .bl true) := by
    refine compL_map fun n hm => ?_
    obtain ⟨p, hp, rfl⟩ := List.mem_map.mp hm
    obtain ⟨h1, h2, h3⟩ := ok.ok p hp
    simp [R_is_account_s, h1, (valD_bal_in ok.nd hp).2, dc_MOST_BALANCE, R_is_between_i, h2, h3]
  have h3 : fAll [.lst ((bs.map (·.1)).map fun _ => D.bl true)] = some (.bl true) := fAll_true fun x hx => by obtain ⟨y, _, rfl⟩ := List.mem_map.mp hx; rfl
  have hk := keys_balK bs
  simp only [List.map_map] at hk hc h3
  simp [-x_lcStep, R_need_balances, runOf, r_need_balances, hk, hc, h3]
theorem R_entitlements_ok {rows : List Row} (ok : OkF rows) {cl : D} {cs : List (Str × Int)} (h : cl = .lst (cs.map clD) ∨ cl = .tup (cs.map clD)) (oc : OkC rows cs) {bs : List (Str × Int)} (ob : OkB rows bs) :
    R_entitlements [forD rows, cl, .dct (balK bs)] = some (.lst ((ent rows (tot rows (balOf bs)) cs).map .int)) := by
  have h1 := R_entitled ok h (fun c hc => (oc.ok c hc).1) (by have := oc.le; omega) bs
  simp [R_entitlements, runOfF, r_entitlements, R_need_claims_ok h oc, R_need_balances_ok ob, h1]
end GP

set_option Elab.async false
set_option linter.all false
set_option maxRecDepth 100000
set_option maxHeartbeats 4000000
/-! S7: the laws' own walk from parent to parent, their own totals. -/
namespace GP
open PySem PySem.Spec PyProof.Rows L2
theorem pairs_rows : ∀ rows : List Row, pairsD (rows.map rowD) = some (parK rows)
  | [] => rfl
  | r :: rows => by
    rw [List.map_cons]
    show (pairsD (rows.map rowD)).map _ = _
    rw [pairs_rows rows]
    rfl
theorem merge_new : ∀ (kvs acc : List (Key × D)), (acc.map (·.1) ++ kvs.map (·.1)).Nodup → mergeD acc kvs = acc ++ kvs
  | [], acc, _ => by simp [mergeD]
  | kv :: kvs, acc, h => by
    have h0 : ∀ x ∈ acc, x.1 ≠ kv.1 := fun x hx e => by
      rw [List.nodup_append] at h
      exact h.2.2 x.1 (List.mem_map.mpr ⟨x, hx, rfl⟩) kv.1 (by simp) e
    have h1 : mergeD acc (kv :: kvs) = mergeD (putD acc kv.1 kv.2) kvs := rfl
    rw [h1, putD_new h0, merge_new kvs]
    · simp
    · rw [List.map_append, List.append_assoc]
      simpa using h
theorem keys_nodup {rows : List Row} (h : (nms rows).Nodup) : ((parK rows).map (·.1)).Nodup := by
  have e : (parK rows).map (·.1) = (nms rows).map fun n => (Sum.inr n : Key) := by
    unfold parK nms
    rw [List.map_map, List.map_map]
    rfl
  rw [e]
  exact nodup_inr h
theorem dict_rows {rows : List Row} (ok : OkF rows) : fDict [.lst (rows.map rowD)] = some (.dct (parK rows)) := by
  show (match pairsD (rows.map rowD) with
    | some kvs => some (D.dct (mergeD [] kvs))
    | none => none) = _
  rw [pairs_rows]
  show some (D.dct (mergeD [] (parK rows))) = _
  rw [merge_new _ _ (by simpa using keys_nodup ok.nd)]
  rfl
theorem up_loop {rows : List Row} (ok : OkF rows) (d0 : Option Sl) : ∀ n, n ∈ nms rows → ∀ (k : Nat) (pre : List Str), plc rows n + 1 < k → pre.length + plc rows n < 100 →
    rWhileN (rTest (rOp fIsNot (rVar 1) (rC .non))) r_law_up_b1 k [d0, some (.sh (.str n)), some (.sh (.dct (parK rows))), some (.ow (.lst (pre.map .str)))] = some (.nx [d0, some (.sh .non), some (.sh (.dct (parK rows))), some (.ow (.lst ((pre ++ anc rows n).map .str)))]) := by
  refine anc_ind ok fun n hn ih => ?_
  intro k pre hk hl
  obtain ⟨k, rfl⟩ : ∃ j, k = j + 1 := ⟨k - 1, by omega⟩
  have hlim : pre.length < LIM := by show _ < 1000000; omega
  rw [rWhileN, anc_eq ok hn]
  cases hp : par rows n with
  | none =>
    obtain ⟨k, rfl⟩ : ∃ j, k = j + 1 := ⟨k - 1, by omega⟩
    simp [r_law_up_b1, rApp, hlim, ix_par hn, hp, optD]
    rw [rWhileN]
    simp
  | some q =>
    obtain ⟨h3, h4⟩ := par_in ok hn hp
    have h5 := ih q hp k (pre ++ [n]) (by omega) (by rw [List.length_append]; simp; omega)
    simp [r_law_up_b1, rApp, hlim, ix_par hn, hp, optD] at h5 ⊢
    exact h5
theorem R_up {rows : List Row} (ok : OkF rows) {n : Str} (h : n ∈ nms rows) : R_law_up [.lst (rows.map rowD), .str n] = some (.lst ((anc rows n).map .str)) := by
  have h1 := plc_lt h
  have h2 := ok.le
  have h3 := up_loop ok (some (.sh (.lst (rows.map rowD)))) n h FUEL [] (by show _ < 1000000; omega) (by simp; omega)
  simp [R_law_up, runOfF, r_law_up, rWhile, dict_rows ok, rRetV] at h3 ⊢
  simp [h3]
/-! ### the totals, summed deposit by deposit -/
/-- a dict's number at a name grows -/
def bump (f : Str → Int) (n : Str) (v : Int) : Str → Int := fun m => if m = n then f m + v else f m
theorem put_mapK {ns : List Str} (nd : ns.Nodup) (f : Str → Int) {n : Str} (h : n ∈ ns) (v : Int) : putD (mapK ns f) (.inr n) (.int (f n + v)) = mapK ns (bump f n v) := by
  have h1 : ((mapK ns f).any fun kv => decide (kv.1 = Sum.inr n)) = true := by
    rw [List.any_eq_true]
    exact ⟨(.inr n, .int (f n)), List.mem_map.mpr ⟨n, h, rfl⟩, by simp⟩
  unfold putD
  rw [h1]
  unfold mapK
  rw [if_pos rfl, List.map_map]
  refine List.map_congr_left fun m hm => ?_
  by_cases e : m = n
  · subst e; simp [bump]
  · have e' : ¬ (Sum.inr m : Key) = Sum.inr n := fun z => e (Sum.inr.inj z)
    simp [bump, e, e']
theorem set_mapK {ns : List Str} (nd : ns.Nodup) (hl : ns.length ≤ 1000) (f : Str → Int) {n : Str} (h : n ∈ ns) (v : Int) : setD (.dct (mapK ns f)) (.str n) (.int (f n + v)) = some (.dct (mapK ns (bump f n v))) := by
  have hl' : (mapK ns f).length < LIM := by
    show _ < 1000000
    unfold mapK
    rw [List.length_map]
    omega
  show (if (mapK ns f).length < LIM then some (D.dct (putD (mapK ns f) (.inr n) (.int (f n + v)))) else none) = _
  rw [if_pos hl', put_mapK nd f h]
def bumps (f : Str → Int) (l : List Str) (v : Int) : Str → Int := l.foldl (fun f n => bump f n v) f
theorem bumps_eq : ∀ (l : List Str) (f : Str → Int) (v : Int) (m : Str), l.Nodup → bumps f l v m = f m + if m ∈ l then v else 0
  | [], f, v, m, _ => by simp [bumps]
  | n :: l, f, v, m, nd => by
    rw [List.nodup_cons] at nd
    have := bumps_eq l (bump f n v) v m nd.2
    unfold bumps at this ⊢
    rw [List.foldl_cons, this]
    by_cases e : m = n
    · subst e; simp [bump, nd.1]
    · simp [bump, e]
/-- what pairs of an account and a number add up to at an account -/
def gath (rows : List Row) (ps : List (Str × Int)) (n : Str) : Int := ((ps.filter fun p => (anc rows p.1).contains n).map (·.2)).sum
theorem gath_cons (rows : List Row) (p : Str × Int) (ps : List (Str × Int)) (n : Str) : gath rows (p :: ps) n = (if n ∈ anc rows p.1 then p.2 else 0) + gath rows ps n := by
  unfold gath
  by_cases h : n ∈ anc rows p.1
  · rw [List.filter_cons_of_pos (by simpa using h)]; simp [h]
  · rw [List.filter_cons_of_neg (by simpa using h)]; simp [h]
theorem gath_fold {rows : List Row} (ok : OkF rows) : ∀ (ps : List (Str × Int)) (f : Str → Int) (n : Str), (∀ p ∈ ps, p.1 ∈ nms rows) → ps.foldl (fun f p => bumps f (anc rows p.1) p.2) f n = f n + gath rows ps n
  | [], f, n, _ => by simp [gath]
  | p :: ps, f, n, h => by
    rw [List.foldl_cons, gath_fold ok ps _ n fun q m => h q (List.mem_cons_of_mem _ m), gath_cons, bumps_eq _ _ _ _ (anc_nodup ok (h p List.mem_cons_self))]
    omega
theorem sum_if (ns : List Str) (P : Str → Bool) (a : Str) (v : Int) (f : Str → Int) (nd : ns.Nodup) (ha : a ∈ ns) (f0 : f a = 0) : ((ns.filter P).map fun b => if b = a then v else f b).sum = ((ns.filter P).map f).sum + if P a = true then v else 0 := by
  induction ns with
  | nil => cases ha
  | cons m ns ih =>
    rw [List.nodup_cons] at nd
    rcases List.mem_cons.mp ha with e | h
    · subst e
      have hr : ∀ b ∈ ns.filter P, (if b = a then v else f b) = f b := fun b hb => if_neg (fun (e : b = a) => nd.1 (e ▸ (List.mem_filter.mp hb).1))
      by_cases hp : P a = true
      · rw [List.filter_cons_of_pos hp, List.map_cons, List.map_cons, List.sum_cons, List.sum_cons, List.map_congr_left hr]
        simp [hp, f0]
        omega
      · rw [List.filter_cons_of_neg hp, List.map_congr_left hr]
        simp [hp]
    · have hm : ¬ m = a := fun (e : m = a) => nd.1 (e.symm ▸ h)
      by_cases hp : P m = true
      · rw [List.filter_cons_of_pos hp, List.map_cons, List.map_cons, List.sum_cons, List.sum_cons, ih nd.2 h, if_neg hm]
        omega
      · rw [List.filter_cons_of_neg hp]
        exact ih nd.2 h
theorem balOf_cons (p : Str × Int) (bs : List (Str × Int)) : balOf (p :: bs) = fun b => if b = p.1 then p.2 else balOf bs b := by
  funext b
  unfold balOf
  by_cases h : p.1 = b
  · rw [List.find?_cons_of_pos (by simp [h])]; simp [h]
  · have h' : ¬ b = p.1 := fun e => h e.symm
    rw [List.find?_cons_of_neg (by simp [h])]
    simp [h']
theorem balOf_out {bs : List (Str × Int)} {n : Str} (h : n ∉ bs.map (·.1)) : balOf bs n = 0 := by
  unfold balOf
  have : (bs.find? fun p => decide (p.1 = n)) = none := by
    rw [List.find?_eq_none]
    intro p hp e
    exact h (List.mem_map.mpr ⟨p, hp, by simpa using e⟩)
  rw [this]
  rfl
theorem tot_gath {rows : List Row} (ok : OkF rows) : ∀ {bs : List (Str × Int)}, (bs.map (·.1)).Nodup → (∀ p ∈ bs, p.1 ∈ nms rows) → ∀ n, tot rows (balOf bs) n = gath rows bs n
  | [], _, _, n => by
    unfold tot gath
    have : balOf [] = fun _ => 0 := rfl
    rw [this]
    simp
    have : ∀ l : List Str, (l.map fun _ => (0 : Int)).sum = 0 := by
      intro l
      induction l with
      | nil => rfl
      | cons _ _ ih => rw [List.map_cons, List.sum_cons, ih]; rfl
    exact this _
  | p :: bs, nd, h, n => by
    rw [List.map_cons, List.nodup_cons] at nd
    have ih := tot_gath ok nd.2 (fun q m => h q (List.mem_cons_of_mem _ m)) n
    rw [gath_cons, ← ih]
    unfold tot sub
    rw [balOf_cons, sum_if _ _ _ _ _ ok.nd (h p List.mem_cons_self) (balOf_out nd.1)]
    simp
    omega
/-! ### _law_whole -/
theorem comp_zero (rows : List Row) (δ : DS) (h : δ.length = 6) : compL (lcStep (rTup2 3 4) rYes (rTup (rCons (rVarS 3) (rCons (rC (.int 0)) rNil))) δ) (rows.map rowD) = some (rows.map fun r => .tup [.str r.1, .int 0]) := by
  refine compL_map fun r _ => ?_
  match δ, h with
  | [a, b, c, d, e, f], _ => simp [rowD]
theorem dict_zero {rows : List Row} (ok : OkF rows) : fDict [.lst (rows.map fun r => .tup [.str r.1, .int 0])] = some (.dct (mapK (nms rows) fun _ => 0)) := by
  have h1 : pairsD (rows.map fun r => .tup [.str r.1, .int 0]) = some (mapK (nms rows) fun _ => 0) := by
    have : ∀ l : List Row, pairsD (l.map fun r => .tup [.str r.1, .int 0]) = some (mapK (nms l) fun _ => 0) := by
      intro l
      induction l with
      | nil => rfl
      | cons r l ih =>
        rw [List.map_cons]
        show (pairsD (l.map fun r => .tup [.str r.1, .int 0])).map _ = _
        rw [ih]
        rfl
    exact this rows
  show (match pairsD (rows.map fun r => .tup [.str r.1, .int 0]) with
    | some kvs => some (D.dct (mergeD [] kvs))
    | none => none) = _
  rw [h1]
  show some (D.dct (mergeD [] (mapK (nms rows) fun _ => 0))) = _
  rw [merge_new]
  · rfl
  · have e : (mapK (nms rows) fun _ => 0).map (·.1) = (nms rows).map fun n => (Sum.inr n : Key) := by
      unfold mapK
      rw [List.map_map]
      rfl
    rw [e]
    simpa using nodup_inr ok.nd
/-- slots: rows funds found name parent outer -/
def whS (rl fl : D) (rows : List Row) (f : Str → Int) (a b c : Option Sl) : DS := [some (.sh rl), some (.sh fl), some (.ow (.dct (mapK (nms rows) f))), a, b, c]
theorem wh_body {rows : List Row} (ok : OkF rows) {bs : List (Str × Int)} (nd : (bs.map (·.1)).Nodup) (hb : ∀ p ∈ bs, p.1 ∈ nms rows) (f : Str → Int) (p : Str × Int) (hp : p ∈ bs) (a b c : Option Sl) :
    ∃ a' b' c', ((rName 3 (.str p.1) (whS (.lst (rows.map rowD)) (.dct (balK bs)) rows f a b c)).bind r_law_whole_b2) = some (.nx (whS (.lst (rows.map rowD)) (.dct (balK bs)) rows (bumps f (anc rows p.1) p.2) a' b' c')) := by
  have hn := hb p hp
  have hix := (valD_bal_in nd hp).2
  obtain ⟨δ', h1, c', h2⟩ := for_fold (α := Str) (S := Str → Int) (g := rName 5) (b := r_law_whole_b1) (e := D.str) (fun f δ => ∃ c', δ = whS (.lst (rows.map rowD)) (.dct (balK bs)) rows f (some (.sh (.str p.1))) b c') (fun f n => bump f n p.2) (anc rows p.1) f (whS (.lst (rows.map rowD)) (.dct (balK bs)) rows f (some (.sh (.str p.1))) b c) ⟨c, rfl⟩ (fun n hm f δ ⟨c', e⟩ => by
    subst e
    refine ⟨_, ?_, some (.sh (.str n)), rfl⟩
    have hn' := anc_in ok hn hm
    have hl : (nms rows).length ≤ 1000 := by
      have := ok.le
      unfold nms
      rw [List.length_map]
      omega
    simp [r_law_whole_b1, rSetO, whS, ix_mapK f hn', hix, set_mapK ok.nd hl f hn'])
  subst h2
  refine ⟨some (.sh (.str p.1)), b, c', ?_⟩
  unfold whS at h1
  simp [r_law_whole_b2, whS, R_up ok hn] at h1 ⊢
  simp [h1, bumps]
theorem R_whole {rows : List Row} (ok : OkF rows) {bs : List (Str × Int)} (nd : (bs.map (·.1)).Nodup) (hb : ∀ p ∈ bs, p.1 ∈ nms rows) : R_law_whole [.lst (rows.map rowD), .dct (balK bs)] = some (.dct (mapK (nms rows) (tot rows (balOf bs)))) := by
  obtain ⟨δ', h1, a, b, c, h2⟩ := for_fold (α := Str × Int) (S := Str → Int) (g := rName 3) (b := r_law_whole_b2) (e := fun p => D.str p.1) (fun f δ => ∃ a b c, δ = whS (.lst (rows.map rowD)) (.dct (balK bs)) rows f a b c) (fun f p => bumps f (anc rows p.1) p.2) bs (fun _ => 0) (whS (.lst (rows.map rowD)) (.dct (balK bs)) rows (fun _ => 0) none none none) ⟨none, none, none, rfl⟩ (fun p hm f δ ⟨a, b, c, e⟩ => by
    subst e
    obtain ⟨a', b', c', h⟩ := wh_body ok nd hb f p hm a b c
    exact ⟨_, h, a', b', c', rfl⟩)
  subst h2
  have hf : (bs.foldl (fun f p => bumps f (anc rows p.1) p.2) fun _ => 0) = tot rows (balOf bs) := by
    funext n
    rw [gath_fold ok bs _ n hb, tot_gath ok nd hb n]
    omega
  rw [hf] at h1
  have hk : (balK bs).map (fun kv => kD kv.1) = bs.map fun p => D.str p.1 := by rw [keys_balK, List.map_map]; rfl
  have hc := comp_zero rows [some (.sh (.lst (rows.map rowD))), some (.sh (.dct (balK bs))), none, none, none, none] rfl
  unfold whS at h1
  simp [-x_lcStep, R_law_whole, runOfF, r_law_whole, hc, dict_zero ok, hk, rRetV] at h1 ⊢
  simp [h1]
end GP

set_option Elab.async false
set_option linter.all false
set_option maxRecDepth 100000
set_option maxHeartbeats 4000000
/-! S8: data step by step, with draws; what the laws draw: forests, orders, claims, balances. -/
namespace GP
open PySem PySem.Spec PyProof.Rows L2
section
variable {δ : DS} {i j m : Nat} {P : D → Prop} {R : Bool → Prop} {S : List D → Prop} {N : DN} {a b c : DE} {t u : DT} {A B : DQ} {r : DA} {f g : D → D → Option D} {d : D}
@[simp] theorem oP_some (z : D) : oP (some z) P = P z := rfl
@[simp] theorem oP_none : oP none P = False := rfl
@[simp] theorem oB_some (z : Bool) : oB (some z) R = R z := rfl
@[simp] theorem oL_some (z : List D) : oL (some z) S = S z := rfl
@[simp] theorem y_var : dVar i δ P = oP (rdS δ i) P := by unfold dVar oP; rfl
@[simp] theorem y_varS : dVarS i δ P = oP (shS δ i) P := by unfold dVarS oP; rfl
@[simp] theorem y_c : dC d δ P = P d := rfl
@[simp] theorem y_op : dOp f a b δ P = a δ fun x => b δ fun y => oP (f x y) P := rfl
@[simp] theorem y_un {f : D → Option D} : dUn f a δ P = a δ fun x => oP (f x) P := rfl
@[simp] theorem y_cb {f : List D → Option D} : dCB f r δ P = r δ fun ds => oP (f ds) P := rfl
@[simp] theorem y_test : dTest a δ R = a δ fun d => bP d R := rfl
@[simp] theorem bP_bl (b : Bool) : bP (.bl b) R = R b := rfl
@[simp] theorem y_tru : dTru a δ R = a δ fun d => oB (truD d) R := rfl
@[simp] theorem y_not : dNot t δ R = t δ fun b => R (!b) := rfl
@[simp] theorem y_and : dAnd t u δ R = t δ fun b => if b = true then u δ R else R false := rfl
@[simp] theorem y_or : dOr t u δ R = t δ fun b => if b = true then R true else u δ R := rfl
@[simp] theorem y_if : dIf t a b δ P = t δ fun x => if x = true then a δ P else b δ P := rfl
@[simp] theorem y_ifS : dIfS t A B N δ = t δ fun x => if x = true then A N δ else B N δ := rfl
@[simp] theorem y_seq : dSeq A B N δ = A { N with nx := B N } δ := rfl
@[simp] theorem y_asg : dAsg a i N δ = a δ fun x => N.nx (δ.set i (some (.sh x))) := rfl
@[simp] theorem y_asgO : dAsgO a i N δ = a δ fun x => N.nx (δ.set i (some (.ow x))) := rfl
@[simp] theorem y_ret : dRet a N δ = (N.own = false ∧ a δ N.rt) := rfl
@[simp] theorem y_retF : dRetF a N δ = a δ N.rt := rfl
@[simp] theorem y_drop : dDrop a N δ = a δ fun _ => N.nx δ := rfl
@[simp] theorem y_next : dNext N δ = N.nx δ := rfl
@[simp] theorem y_nil : dNil δ S = S [] := rfl
@[simp] theorem y_cons : dCons a r δ S = a δ fun x => r δ fun xs => S (x :: xs) := rfl
@[simp] theorem y_tup : dTup r δ P = r δ fun ds => P (.tup ds) := rfl
@[simp] theorem y_lst : dLst r δ P = r δ fun ds => P (.lst ds) := rfl
@[simp] theorem y_newD : dNewD δ P = P (.dct []) := rfl
@[simp] theorem y_fn {s : DSp} : dFn s r δ P = r δ fun ds => s ds P := rfl
@[simp] theorem y_fnK {s : DSp} {perm : List Nat} : dFnK s perm r δ P = r δ fun ds => s (pickL .non perm ds) P := rfl
@[simp] theorem y_frz : dFrz i A N δ = A N (frz δ i) := rfl
@[simp] theorem y_par {k1 k2 : Bool} : dPar k1 k2 i j a b N δ = a δ fun x => b δ fun y => N.nx ((δ.set i (some (mkS k1 x))).set j (some (mkS k2 y))) := rfl
@[simp] theorem y_iter : dIter a δ S = a δ fun d => oL (seqD d) S := rfl
@[simp] theorem y_name {Q : DS → Prop} : dName i d δ Q = Q (δ.set i (some (.sh d))) := rfl
@[simp] theorem y_asgG {g : DG} : dAsgG a g N δ = a δ fun x => g x δ N.nx := rfl
@[simp] theorem y_tup2 {x y : D} {Q : DS → Prop} : dTup2 i j (.tup [x, y]) δ Q = Q ((δ.set i (some (.sh x))).set j (some (.sh y))) := rfl
@[simp] theorem y_tup3 {x y z : D} {Q : DS → Prop} : dTup3 i j m (.tup [x, y, z]) δ Q = Q (((δ.set i (some (.sh x))).set j (some (.sh y))).set m (some (.sh z))) := rfl
end
/-- a number drawn below n -/
theorem u_take {n : Int} {P : D → Prop} (h0 : 0 < n) (h1 : n < 18446744073709551616) (h : ∀ k, 0 ≤ k → k < n → P (.int k)) : dp_law_take [.st, .int n] P := ⟨n, rfl, h0, h1, h⟩
theorem u_pick {d : D} {xs : List D} {P : D → Prop} (hs : seqD d = some xs) (hn : xs ≠ []) (hl : xs.length ≤ 1000 := by decide) (h : ∀ r ∈ xs, P r) : dp_law_pick [.st, d] P := ⟨xs, d, rfl, hs, hn, Nat.le_trans hl (by decide), h⟩
theorem u_words {n : Nat} {P : D → Prop} (hn : n ≤ 9) (h : ∀ ws : List Str, ws.length = n → ws.Nodup → (∀ w ∈ ws, isNm w = true) → P (.lst (ws.map .str))) : dp_law_words [.st, .int n] P := ⟨n, rfl, hn, h⟩
/-- a pure def in data -/
theorem u_fn {s : DSp} {R : List D → Option D} (ag : AgF s R) {ds : List D} {z : D} {P : D → Prop} (h : R ds = some z) (p : P z) : s ds P := ag ds z P h p
/-- a comprehension without draws in data -/
theorem u_lc {dA : DA} {rA : RA} {dg : DG} {rg : RGt} {dt : DT} {rt : RT} {de : DE} {re : RE} {vs : List Nat} (ag : AgE (dLc dA dg dt de vs) (rLc rA rg rt re vs)) {δ : DS} {z : D} {P : D → Prop} (h : rLc rA rg rt re vs δ = some z) (p : P z) : dLc dA dg dt de vs δ P := ag δ z P h p
/-! ### forests -/
def foS (m : Int) (rows : List Row) (a b c : Option Sl) : DS := [some (.sh .st), some (.sh (.int m)), some (.ow (.lst (rows.map rowD))), a, b, c]
theorem ag_fo : AgE (dLc (dIter (dVar 2)) (dName 5) (dYes) (dOp fIx (dVar 5) (dC (.int 0))) [5]) (rLc (rIter (rVar 2)) (rName 5) (rYes) (rOp fIx (rVar 5) (rC (.int 0))) [5]) := a_lc (a_iter (a_var 2)) (a_name 5) a_yes (a_op (a_var 5) (a_c _))
theorem fo_lc (m : Int) (rows : List Row) (a b : Option Sl) : rLc (rIter (rVar 2)) (rName 5) (rYes) (rOp fIx (rVar 5) (rC (.int 0))) [5] (foS m rows a b none) = some (.lst ((nms rows).map .str)) := by
  have hc : compL (lcStep (rName 5) rYes (rOp fIx (rVar 5) (rC (.int 0))) (foS m rows a b none)) (rows.map rowD) = some (rows.map fun r => .str r.1) := by
    refine compL_map fun r _ => ?_
    simp [foS, rowD, ix_0]
  unfold foS at hc ⊢
  simp [-x_lcStep, hc, nms]
theorem fo_body (M : DN) (m : Int) (rows : List Row) (w : Str) (b : Option Sl) (hl : rows.length ≤ 8) (h : ∀ (q : Option Str) (b' : Option Sl), (∀ s, q = some s → s ∈ nms rows) → M.nx (foS m (rows ++ [(w, q)]) (some (.sh (.str w))) b' none)) : d_law_forest_b1 M (foS m rows (some (.sh (.str w))) b none) := by
  unfold d_law_forest_b1
  rw [y_seq, y_asg, y_op, y_lst, y_cons, y_c, y_nil]
  refine ag_fo _ _ _ (fo_lc m rows _ b) ?_
  have hadd : fAdd (.lst [.non]) (.lst ((nms rows).map .str)) = some (.lst (.non :: (nms rows).map .str)) := by
    show (if [D.non].length + ((nms rows).map D.str).length ≤ LIM then _ else _) = _
    rw [if_pos ?_]
    · rfl
    · show _ ≤ 1000000
      simp [nms]
      omega
  rw [hadd, oP_some]
  unfold foS dApp
  simp
  refine u_pick (xs := .non :: (nms rows).map .str) rfl (by simp) (by simp [nms]; omega) fun r hr => ?_
  have hlim : rows.length < LIM := by show _ < 1000000; omega
  refine ⟨hlim, ?_⟩
  rcases List.mem_cons.mp hr with rfl | hr
  · have := h none (some (.sh (.lst (.non :: (nms rows).map .str)))) (fun s e => by cases e)
    unfold foS at this
    simpa [rowD, optD] using this
  · obtain ⟨s, hs, rfl⟩ := List.mem_map.mp hr
    have := h (some s) (some (.sh (.lst (.non :: (nms rows).map .str)))) (fun s' e => by cases e; exact hs)
    unfold foS at this
    simpa [rowD, optD] using this
theorem u_forest {m : Nat} {P : D → Prop} (h1 : 1 ≤ m) (h2 : m ≤ 8) (h : ∀ rows : List Row, OkF rows → rows.length ≤ m → P (.lst (rows.map rowD))) : dp_law_forest [.st, .int m] P := by
  show dForN 9 (dIter (dFn dp_law_words (dCons (dVarS 0) (dCons (dOp fAdd (dC (.int 1)) (dFn dp_law_take (dCons (dVarS 0) (dCons (dVarS 1) (dNil))))) (dNil))))) (dName 3) (d_law_forest_b1) { nx := dRetV 2 { nx := fun _ => False, rt := P, own := true }, rt := P, own := true } (foS m [] none none none)
  simp only [dForN, y_iter, y_fn, y_cons, y_varS, y_op, y_c, y_nil, foS, sh_0s, sh_s, oP_some]
  refine u_take (by omega) (by omega) fun k k0 k1 => ?_
  obtain ⟨k, rfl⟩ := Int.eq_ofNat_of_zero_le k0
  simp only [add_ii, oP_some]
  have e : (1 + (k : Int)) = ((1 + k : Nat) : Int) := by omega
  rw [e]
  refine u_words (by omega) fun ws hl nd nm => ?_
  refine ⟨by rw [List.length_map]; omega, ?_⟩
  refine for_inv (fun i δ => ∃ (rows : List Row) (a b : Option Sl), δ = foS m rows a b none ∧ nms rows = ws.take i ∧ ∀ (j : Nat) (r : Row) (q : Str), rows[j]? = some r → r.2 = some q → q ∈ nms (rows.take j)) (ws.map .str) 0 _ ⟨[], none, none, rfl, by simp [nms], fun j r q h => by simp at h⟩ ?_ (name_mono 3) ?_
  · rintro j x δ hj ⟨rows, a, b, rfl, hr, hp⟩
    rw [Nat.zero_add] at hr
    rw [List.getElem?_map] at hj
    obtain ⟨w, hw, rfl⟩ := Option.map_eq_some_iff.mp hj
    have hjl := (List.getElem?_eq_some_iff.mp hw).1
    have hlen : rows.length = j := by
      have := congrArg List.length hr
      unfold nms at this
      rw [List.length_map, List.length_take] at this
      omega
    intro M _ _ hnx _ _
    show d_law_forest_b1 M (foS m rows (some (.sh (.str w))) b none)
    refine fo_body M m rows w b (by omega) fun q b' hq => hnx _ ⟨rows ++ [(w, q)], _, b', rfl, ?_, fun i r s hi hs => ?_⟩
    · rw [Nat.zero_add, List.take_add_one, hw, ← hr]
      simp [nms]
    · by_cases hij : i < rows.length
      · rw [List.getElem?_append_left hij] at hi
        rw [List.take_append_of_le_length (by omega)]
        exact hp i r s hi hs
      · have : i = rows.length := by
          have := (List.getElem?_eq_some_iff.mp hi).1
          simp at this
          omega
        subst this
        rw [List.getElem?_append_right (by omega)] at hi
        simp at hi
        subst hi
        rw [List.take_left]
        exact hq s hs
  · rintro δ ⟨rows, a, b, rfl, hr, hp⟩
    rw [Nat.zero_add, List.length_map, List.take_length] at hr
    have hlen : rows.length = 1 + k := by
      have := congrArg List.length hr
      unfold nms at this
      rw [List.length_map] at this
      omega
    show P (.lst (rows.map rowD))
    refine h rows ⟨fun e => ?_, by omega, by rw [hr]; exact nd, fun r hm => nm r.1 (by rw [← hr]; exact List.mem_map.mpr ⟨r, hm, rfl⟩), hp⟩ (by omega)
    rw [e] at hlen
    simp at hlen
    omega
/-! ### a drawn order -/
theorem perm_erase {α : Type} : ∀ {l : List α} {i : Nat} (h : i < l.length), (l[i] :: l.eraseIdx i).Perm l
  | x :: l, 0, _ => List.Perm.refl _
  | x :: l, i + 1, h => by
    have hi : i < l.length := by simpa using h
    have ih := perm_erase (l := l) (i := i) hi
    show (l[i]'hi :: x :: l.eraseIdx i).Perm (x :: l)
    exact (List.Perm.swap _ _ _).trans (ih.cons x)
def orS (d : D) (xs ys : List D) : DS := [some (.sh .st), some (.sh d), some (.ow (.lst xs)), some (.ow (.lst ys))]
theorem ne_nil {xs : List D} (hp : plD DEP (.lst xs) = true) : fNe (.lst xs) (.lst []) = some (.bl (!xs.isEmpty)) := by
  have h1 : plD DEP (.lst []) = true := rfl
  show (if plD DEP (.lst xs) && plD DEP (.lst []) then some (D.bl (!deq DEP (.lst xs) (.lst []))) else none) = _
  rw [hp, h1]
  cases xs <;> rfl
theorem plD_lst {xs : List D} (h : ∀ x ∈ xs, plD 11 x = true) : plD DEP (.lst xs) = true := by
  show xs.all (plD 11) = true
  rw [List.all_eq_true]
  exact h
theorem u_order {d : D} {xs : List D} {P : D → Prop} (hd : d = .lst xs ∨ d = .tup xs) (hl : xs.length ≤ 100) (hp : ∀ x ∈ xs, plD 11 x = true) (h : ∀ ys : List D, ys.Perm xs → P (.lst ys)) : dp_law_order [.st, d] P := by
  have hf : fList [d] = some (.lst xs) := by rcases hd with rfl | rfl <;> rfl
  show d_law_order { nx := fun _ => False, rt := P, own := true } [some (.sh .st), some (.sh d), none, none]
  unfold d_law_order
  simp only [y_seq, y_par, y_cb, y_cons, y_var, y_nil, rd_0s, rd_s, oP_some, hf, y_lst, List.set_cons_succ, List.set_cons_zero, x_mkT]
  refine ⟨fun m δ => ∃ zs ys, δ = orS d zs ys ∧ m = zs.length ∧ (ys ++ zs).Perm xs, ⟨xs.length, hl, xs, [], rfl, rfl, List.Perm.refl _⟩, ?_⟩
  rintro m δ ⟨zs, ys, rfl, rfl, hperm⟩
  have hz : ∀ x ∈ zs, plD 11 x = true := fun x hx => hp x (hperm.mem_iff.mp (List.mem_append_right _ hx))
  have hlen := hperm.length_eq
  rw [List.length_append] at hlen
  simp only [orS, y_test, y_op, y_var, rd_0o, rd_s, oP_some, y_lst, y_nil, ne_nil (plD_lst hz), bP_bl]
  cases zs with
  | nil =>
    simp [dRetV]
    refine h ys ?_
    simpa using hperm
  | cons z zs =>
    simp only [List.isEmpty_cons, Bool.not_false, if_true, d_law_order_b1, dAppPop]
    simp
    refine u_take (by omega) (by simp at hlen; omega) fun k k0 k1 => ⟨k0, by omega, by show _ < 1000000; omega, fun y hy => ⟨_, ?_, _, _, ⟨rfl, rfl⟩, rfl, ?_⟩⟩
    · have hk : k.toNat < (z :: zs).length := by simp; omega
      rw [List.length_eraseIdx_of_lt hk]
      simp
    · have hk : k.toNat < (z :: zs).length := by simp; omega
      have hy' : (z :: zs)[k.toNat] = y := by
        rw [List.getElem?_eq_getElem hk] at hy
        exact Option.some.inj hy
      refine List.Perm.trans ?_ hperm
      rw [List.append_assoc]
      refine List.Perm.append_left _ ?_
      have := perm_erase hk
      rw [hy'] at this
      exact this
/-! ### claims -/
def clS (nl : D) (N : Int) (cs : List (Str × Int)) (a b : Option Sl) : DS := [some (.sh .st), some (.sh nl), some (.sh (.int N)), some (.ow (.lst (cs.map clD))), a, b]
theorem cl_body (M : DN) (ns : List Str) (hn : ns ≠ []) (hl : ns.length ≤ 1000) (N : Int) (h0 : 1 ≤ N) (h1 : N ≤ 1000000000) (cs : List (Str × Int)) (hc : cs.length ≤ 100) (a b : Option Sl) (h : ∀ c : Str × Int, c.1 ∈ ns → 0 ≤ c.2 → c.2 ≤ N → ∀ b', M.nx (clS (.lst (ns.map .str)) N (cs ++ [c]) a b')) : d_law_claims_b1 M (clS (.lst (ns.map .str)) N cs a b) := by
  unfold d_law_claims_b1 clS
  simp
  refine u_take (by omega) (by omega) fun k1 a1 b1 => u_take (by omega) (by omega) fun k2 a2 b2 => u_pick rfl (by simp) (by simp) fun r hr => ?_
  have key : ∀ v : Int, r = .int v → 0 ≤ v → v ≤ N → dApp 3 (dTup (dCons (dFn dp_law_pick (dCons (dVarS 0) (dCons (dVarS 1) (dNil)))) (dCons (dVarS 5) (dNil)))) M [some (.sh .st), some (.sh (.lst (ns.map .str))), some (.sh (.int N)), some (.ow (.lst (cs.map clD))), a, some (.sh r)] := by
    rintro v rfl v0 v1
    unfold dApp
    simp
    refine u_pick rfl (by simpa using hn) (by simpa using hl) fun r hr => ?_
    obtain ⟨n, hm, rfl⟩ := List.mem_map.mp hr
    refine ⟨by show _ < 1000000; omega, ?_⟩
    have := h (n, v) hm v0 v1 (some (.sh (.int v)))
    unfold clS at this
    simpa [clD] using this
  simp at hr
  rcases hr with rfl | rfl | rfl | rfl | rfl
  · exact key 0 rfl (by omega) (by omega)
  · exact key 1 rfl (by omega) (by omega)
  · exact key k1 rfl a1 (by omega)
  · exact key k2 rfl a2 (by omega)
  · exact key N rfl (by omega) (by omega)
theorem rng_at {n : Nat} {j : Nat} {x : D} (h : ((List.range n).map fun (i : Nat) => D.int (i : Int))[j]? = some x) : j < n ∧ x = .int j := by
  rw [List.getElem?_map] at h
  obtain ⟨k, hk, rfl⟩ := Option.map_eq_some_iff.mp h
  obtain ⟨h1, h2⟩ := List.getElem?_eq_some_iff.mp hk
  rw [List.getElem_range] at h2
  rw [List.length_range] at h1
  exact ⟨h1, by rw [h2]⟩
theorem u_claims {ns : List Str} {N : Int} {P : D → Prop} (hn : ns ≠ []) (hl : ns.length ≤ 1000) (h0 : 1 ≤ N) (h1 : N ≤ 1000000000) (h : ∀ cs : List (Str × Int), cs.length ≤ 20 → (∀ c ∈ cs, c.1 ∈ ns ∧ 0 ≤ c.2 ∧ c.2 ≤ N) → P (.lst (cs.map clD))) : dp_law_claims [.st, .lst (ns.map .str), .int N] P := by
  show d_law_claims { nx := fun _ => False, rt := P, own := true } [some (.sh .st), some (.sh (.lst (ns.map .str))), some (.sh (.int N)), none, none, none]
  unfold d_law_claims
  simp only [y_seq, y_asgO, y_lst, y_nil, dForN, dRng1, y_cons, y_fn, y_varS, sh_0s, sh_s, y_c, oP_some, List.set_cons_succ, List.set_cons_zero]
  refine u_pick rfl (by simp) (by simp) fun r hr => ?_
  obtain ⟨n, rfl, hn20⟩ : ∃ n : Nat, r = .int n ∧ n ≤ 20 := by
    simp at hr
    rcases hr with rfl | rfl | rfl | rfl | rfl | rfl | rfl
    · exact ⟨0, rfl, by omega⟩
    · exact ⟨1, rfl, by omega⟩
    · exact ⟨2, rfl, by omega⟩
    · exact ⟨3, rfl, by omega⟩
    · exact ⟨4, rfl, by omega⟩
    · exact ⟨6, rfl, by omega⟩
    · exact ⟨20, rfl, by omega⟩
  refine ⟨by show (n : Int) ≤ 1000000; omega, by show -(1000000 : Int) ≤ n; omega, by simp; omega, ?_⟩
  refine for_inv (fun i δ => ∃ (cs : List (Str × Int)) (a b : Option Sl), δ = clS (.lst (ns.map .str)) N cs a b ∧ cs.length = i ∧ ∀ c ∈ cs, c.1 ∈ ns ∧ 0 ≤ c.2 ∧ c.2 ≤ N) _ 0 _ ⟨[], none, none, rfl, rfl, fun c m => by cases m⟩ ?_ (name_mono 4) ?_
  · rintro j x δ hj ⟨cs, a, b, rfl, hcl, hc⟩
    obtain ⟨hjn, rfl⟩ := rng_at hj
    intro M _ _ hnx _ _
    simp at hjn
    show d_law_claims_b1 M (clS (.lst (ns.map .str)) N cs (some (.sh (.int j))) b)
    refine cl_body M ns hn hl N h0 h1 cs (by omega) _ b fun c c1 c2 c3 b' => hnx _ ⟨cs ++ [c], _, b', rfl, by rw [List.length_append]; simp; omega, fun c' m => ?_⟩
    rcases List.mem_append.mp m with m | m
    · exact hc c' m
    · rw [List.mem_singleton.mp m]
      exact ⟨c1, c2, c3⟩
  · rintro δ ⟨cs, a, b, rfl, hcl, hc⟩
    show P (.lst (cs.map clD))
    refine h cs ?_ hc
    rw [hcl]
    simp
    omega
/-! ### balances -/
def baS (nl : D) (N sp : Int) (bs : List (Str × Int)) (a b : Option Sl) : DS := [some (.sh .st), some (.sh nl), some (.sh (.int N)), some (.ow (.dct (balK bs))), some (.sh (.int sp)), a, b]
theorem set_bal {bs : List (Str × Int)} {n : Str} (h : n ∉ bs.map (·.1)) (hl : bs.length ≤ 1000) (v : Int) : setD (.dct (balK bs)) (.str n) (.int v) = some (.dct (balK (bs ++ [(n, v)]))) := by
  have hl' : (balK bs).length < LIM := by
    show _ < 1000000
    unfold balK
    rw [List.length_map]
    omega
  show (if (balK bs).length < LIM then some (D.dct (putD (balK bs) (.inr n) (.int v))) else none) = _
  rw [if_pos hl', putD_new]
  · unfold balK
    rw [List.map_append]
    rfl
  · intro kv hk e
    obtain ⟨p, hp, rfl⟩ := List.mem_map.mp hk
    exact h (List.mem_map.mpr ⟨p, hp, Sum.inr.inj e⟩)
theorem ba_body (M : DN) (nl : D) (N sp : Int) (h0 : 1 ≤ N) (h1 : N ≤ 1000000000) (bs : List (Str × Int)) (hl : bs.length ≤ 1000) (n : Str) (hn : n ∉ bs.map (·.1)) (b : Option Sl) (hk : ∀ b', M.nx (baS nl N sp bs (some (.sh (.str n))) b')) (h : ∀ v : Int, 0 ≤ v → v < 2 * N → ∀ b', M.nx (baS nl N sp (bs ++ [(n, v)]) (some (.sh (.str n))) b')) : d_law_balances_b1 M (baS nl N sp bs (some (.sh (.str n))) b) := by
  unfold d_law_balances_b1
  simp only [baS, y_ifS, y_test, y_op, y_fn, y_cons, y_varS, y_c, y_nil, sh_0s, sh_s, oP_some]
  refine u_take (by omega) (by omega) fun k a1 b1 => ?_
  simp only [gt_ii, oP_some, bP_bl]
  by_cases hk0 : 0 < k
  · rw [if_pos (by simpa using hk0)]
    have hm : fMul (.int 2) (.int N) = some (.int (2 * N)) := rfl
    simp only [y_seq, y_asg, y_fn, y_cons, y_varS, y_c, y_nil, sh_0s, sh_s, oP_some, y_lst, y_op, y_var, rd_0s, rd_s, hm]
    refine u_take (by omega) (by omega) fun k1 a2 b2 => u_take (by omega) (by omega) fun k2 a3 b3 => u_pick rfl (by simp) (by simp) fun r hr => ?_
    have key : ∀ v : Int, r = .int v → 0 ≤ v → v < 2 * N → dSetO 3 (dVar 5) (dIf (dAnd (dTest (dOp fEq (dVar 4) (dC (.int 0)))) (dTest (dOp fGt (dFn dp_law_take (dCons (dVarS 0) (dCons (dC (.int 3)) (dNil)))) (dC (.int 0))))) (dC (.int 0)) (dVarS 6)) M [some (.sh .st), some (.sh nl), some (.sh (.int N)), some (.ow (.dct (balK bs))), some (.sh (.int sp)), some (.sh (.str n)), some (.sh r)] := by
      rintro v rfl v0 v1
      have put : ∀ v' : Int, 0 ≤ v' → v' < 2 * N → oP (some (.str n)) (fun k => match setD (.dct (balK bs)) k (.int v') with
        | some o2 => M.nx (([some (.sh .st), some (.sh nl), some (.sh (.int N)), some (.ow (.dct (balK bs))), some (.sh (.int sp)), some (.sh (.str n)), some (.sh (.int v))] : DS).set 3 (some (.ow o2)))
        | none => False) := fun v' p0 p1 => by
        show match setD (.dct (balK bs)) (.str n) (.int v') with
        | some o2 => M.nx (([some (.sh .st), some (.sh nl), some (.sh (.int N)), some (.ow (.dct (balK bs))), some (.sh (.int sp)), some (.sh (.str n)), some (.sh (.int v))] : DS).set 3 (some (.ow o2)))
        | none => False
        rw [set_bal hn hl]
        exact h v' p0 p1 (some (.sh (.int v)))
      unfold dSetO
      simp only [y_if, y_and, y_test, y_op, y_var, rd_0s, rd_0o, rd_s, y_c, oP_some, eq_ii, bP_bl, y_fn, y_cons, y_varS, sh_0s, sh_s, y_nil]
      by_cases hs : sp = 0
      · rw [if_pos (by simpa using hs)]
        refine u_take (by omega) (by omega) fun k3 a4 b4 => ?_
        simp only [gt_ii, oP_some, bP_bl]
        by_cases h3 : 0 < k3
        · rw [if_pos (by simpa using h3)]
          exact put 0 (by omega) (by omega)
        · rw [if_neg (by simpa using h3)]
          exact put v v0 v1
      · rw [if_neg (by simpa using hs)]
        show if false = true then _ else _
        rw [if_neg (by decide)]
        exact put v v0 v1
    simp at hr
    rcases hr with rfl | rfl | rfl | rfl
    · exact key 0 rfl (by omega) (by omega)
    · exact key 1 rfl (by omega) (by omega)
    · exact key k1 rfl a2 (by omega)
    · exact key k2 rfl a3 (by omega)
  · rw [if_neg (by simpa using hk0)]
    exact hk b
theorem u_balances {ns : List Str} {N : Int} {P : D → Prop} (nd : ns.Nodup) (hl : ns.length ≤ 9) (h0 : 1 ≤ N) (h1 : N ≤ 1000000000) (h : ∀ bs : List (Str × Int), (bs.map (·.1)).Nodup → (∀ p ∈ bs, p.1 ∈ ns ∧ 0 ≤ p.2 ∧ p.2 < 2 * N) → bs.length ≤ 9 → P (.dct (balK bs))) : dp_law_balances [.st, .lst (ns.map .str), .int N] P := by
  show d_law_balances { nx := fun _ => False, rt := P, own := true } [some (.sh .st), some (.sh (.lst (ns.map .str))), some (.sh (.int N)), none, none, none, none]
  unfold d_law_balances
  simp only [y_seq, y_par, y_newD, dForN, y_iter, y_fn, y_cons, y_varS, sh_0s, sh_s, y_c, y_nil, oP_some, List.set_cons_succ, List.set_cons_zero, x_mkT, x_mkF]
  refine u_take (by omega) (by omega) fun sp s0 s1 => ?_
  refine u_order (.inl rfl) (by simp; omega) (fun x hx => by obtain ⟨w, _, rfl⟩ := List.mem_map.mp hx; rfl) fun ys hy => ?_
  obtain ⟨ms, rfl, hms⟩ : ∃ ms : List Str, ys = ms.map .str ∧ ms.Perm ns := by
    have : ∀ (ys : List D), ys.Perm (ns.map .str) → ∃ ms : List Str, ys = ms.map .str ∧ ms.Perm ns := fun ys hy => by
      let g : D → Str := fun d => match d with
        | .str x => x
        | _ => ""
      refine ⟨ys.map g, ?_, ?_⟩
      · rw [List.map_map]
        conv => lhs; rw [← List.map_id ys]
        refine List.map_congr_left fun d hd => ?_
        obtain ⟨w, _, rfl⟩ := List.mem_map.mp (hy.mem_iff.mp hd)
        rfl
      · have := hy.map g
        rw [List.map_map] at this
        have e : ns.map (g ∘ D.str) = ns := by
          conv => rhs; rw [← List.map_id ns]
          rfl
        rw [e] at this
        exact this
    exact this ys hy
  have hml := hms.length_eq
  have mnd : ms.Nodup := hms.nodup_iff.mpr nd
  simp only [seqD_l, oL_some]
  refine ⟨by rw [List.length_map]; omega, ?_⟩
  refine for_inv (fun i δ => ∃ (bs : List (Str × Int)) (a b : Option Sl), δ = baS (.lst (ns.map .str)) N sp bs a b ∧ (bs.map (·.1)).Nodup ∧ (∀ p ∈ bs, p.1 ∈ ms.take i ∧ 0 ≤ p.2 ∧ p.2 < 2 * N) ∧ bs.length ≤ i) (ms.map .str) 0 _ ⟨[], none, none, rfl, List.nodup_nil, (fun p m => by cases m), Nat.le_refl _⟩ ?_ (name_mono 5) ?_
  · rintro j x δ hj ⟨bs, a, b, rfl, hnd, hb, hbl⟩
    rw [Nat.zero_add] at hb hbl
    rw [List.getElem?_map] at hj
    obtain ⟨w, hw, rfl⟩ := Option.map_eq_some_iff.mp hj
    have hjl := (List.getElem?_eq_some_iff.mp hw).1
    have htk : ms.take (j + 1) = ms.take j ++ [w] := by rw [List.take_add_one, hw]; rfl
    have hwn : w ∉ bs.map (·.1) := fun m => by
      obtain ⟨p, hp, e⟩ := List.mem_map.mp m
      have h2 := (hb p hp).1
      have h3 := nodup_take mnd (j + 1)
      rw [htk, List.nodup_append] at h3
      exact h3.2.2 p.1 h2 w (by simp) e
    intro M _ _ hnx _ _
    show d_law_balances_b1 M (baS (.lst (ns.map .str)) N sp bs (some (.sh (.str w))) b)
    refine ba_body M _ N sp h0 h1 bs (by omega) w hwn b (fun b' => hnx _ ⟨bs, _, b', rfl, hnd, fun p hp => ⟨?_, (hb p hp).2⟩, by omega⟩) fun v v0 v1 b' => hnx _ ⟨bs ++ [(w, v)], _, b', rfl, ?_, fun p hp => ?_, ?_⟩
    · rw [Nat.zero_add, htk]
      exact List.mem_append_left _ (hb p hp).1
    · rw [List.map_append, List.nodup_append]
      refine ⟨hnd, by simp, fun a ha b' hb' e => ?_⟩
      simp at hb'
      subst hb'
      exact hwn (e ▸ ha)
    · rw [Nat.zero_add, htk]
      rcases List.mem_append.mp hp with hp | hp
      · exact ⟨List.mem_append_left _ (hb p hp).1, (hb p hp).2⟩
      · rw [List.mem_singleton.mp hp]
        exact ⟨List.mem_append_right _ (by simp), v0, v1⟩
    · rw [List.length_append]
      simp
      omega
  · rintro δ ⟨bs, a, b, rfl, hnd, hb, hbl⟩
    show P (.dct (balK bs))
    rw [Nat.zero_add, List.length_map] at hb hbl
    refine h bs hnd (fun p hp => ⟨?_, (hb p hp).2⟩) (by omega)
    have := (hb p hp).1
    rw [List.take_length] at this
    exact hms.mem_iff.mp this
end GP

set_option Elab.async false
set_option linter.all false
set_option maxRecDepth 100000
set_option maxHeartbeats 4000000
/-! S9: the laws' own counting and overdrawing (printed by gen2), what they compute; facts of the entitlements. -/
namespace GP
open PySem PySem.Spec PyProof.Rows L2
def t_law_counted (Γ : Cn) : TS := tSeq (tAsg (tCB (gDict Γ.K) (tCons (tLc (gIter Γ.K (tVar 0)) (gTup Γ.K 2 (gCons (gName 4) (gCons (gName 5) (gNil)))) (tYes) (tTup (tCons (tVar 4) (tCons (tC (.int 0))
   (tNil)))) [4, 5]) (tNil))) (gName 3)) (tSeq (tFor (iZip Γ.K (tCons (tVar 1) (tCons (tVar 2) (tNil)))) (gTup Γ.K 2 (gCons (gName 6) (gCons (gName 7) (gNil)))) (tFor
   (gIter Γ.K (tFn (sp_law_up Γ) E0 (tCons (tVar 0) (tCons (tOp (gIx Γ.K) (tVar 6) (tC (.int 0))) (tNil))))) (gName 8) (tAsg (tOp (gAdd Γ.K) (tOp (gIx Γ.K) (tVar 3) (tVar
   8)) (tVar 7)) (L2.gSub (tVar 3) (tVar 8) gSet)))) (tRet (tVar 3)))
def d_law_counted_b1 : DQ := dSetO 3 (dVar 8) (dOp fAdd (dOp fIx (dVar 3) (dVar 8)) (dVar 7))
def d_law_counted_b2 : DQ := dFor (dIter (dFn dp_law_up (dCons (dVarS 0) (dCons (dOp fIx (dVar 6) (dC (.int 0))) (dNil))))) (dName 8) (d_law_counted_b1)
def d_law_counted : DQ := dSeq (dAsgO (dCB fDict (dCons (dLc (dIter (dVar 0)) (dTup2 4 5) (dYes) (dTup (dCons (dVarS 4) (dCons (dC (.int 0)) (dNil)))) [4, 5]) (dNil))) 3) (dSeq (dFor (dZip (dCons
   (dVarS 1) (dCons (dVarS 2) (dNil)))) (dTup2 6 7) (d_law_counted_b2)) (dRetV 3))
theorem snd_law_counted {Γ : Cn} {L : LS} : SS Γ L 0 (t_law_counted Γ) d_law_counted := by
  unfold t_law_counted d_law_counted d_law_counted_b2 d_law_counted_b1
  exact s_seq (s_asgO 3 (s_cbF k_dict (s_consT (SF.t (s_lc (s_iterT (s_var 0)) (s_tup2 4 5) (s_yes) (s_tup (s_cons (s_varS 4) (s_cons (s_c fun _ => .int _) (s_nil))))))
   (s_nilT)))) (s_seq (s_for (s_zip (s_cons (s_varS 1) (s_cons (s_varS 2) (s_nil)))) (s_tup2 6 7) (s_for (s_iter (SF.e (s_fnF (s := dp_law_up) (cf := 0) (s_cons (s_varS
   0) (s_cons (s_op o_ix (s_var 6) (SE.t (s_c fun _ => .int _))) (s_nil)))))) (s_name 8) (s_setO 3 (s_op o_add (SE.t (s_op o_ix (s_var 3) (s_var 8))) (s_var 7)) (s_var
   8)))) (s_retV 3))
def dp_law_counted : DSp := dpOfF 9 d_law_counted
def sp_law_counted (Γ : Cn) : Sp := liftF Γ 3 0 dp_law_counted
def r_law_counted_b1 : RQ := rSetO 3 (rVar 8) (rOp fAdd (rOp fIx (rVar 3) (rVar 8)) (rVar 7))
def r_law_counted_b2 : RQ := rFor (rIter (rFn R_law_up (rCons (rVarS 0) (rCons (rOp fIx (rVar 6) (rC (.int 0))) (rNil))))) (rName 8) (r_law_counted_b1)
def r_law_counted : RQ := rSeq (rAsgO (rCB fDict (rCons (rLc (rIter (rVar 0)) (rTup2 4 5) (rYes) (rTup (rCons (rVarS 4) (rCons (rC (.int 0)) (rNil)))) [4, 5]) (rNil))) 3) (rSeq (rFor (rZip (rCons
   (rVarS 1) (rCons (rVarS 2) (rNil)))) (rTup2 6 7) (r_law_counted_b2)) (rRetV true 3))
def R_law_counted : List D → Option D := runOfF 9 r_law_counted
theorem ag_law_counted : AgF dp_law_counted R_law_counted := by
  refine ag_ofF ?_
  unfold d_law_counted r_law_counted d_law_counted_b2 r_law_counted_b2 d_law_counted_b1 r_law_counted_b1
  exact a_seq (a_asgO (a_cb (a_cons (a_lc (a_iter (a_var 0)) (a_tup2 4 5) (a_yes) (a_tup (a_cons (a_varS 4) (a_cons (a_c _) (a_nil))))) (a_nil)))) (a_seq (a_for (a_zip (a_cons
   (a_varS 1) (a_cons (a_varS 2) (a_nil)))) (a_tup2 6 7) (a_for (a_iter (a_fn ag_law_up (a_cons (a_varS 0) (a_cons (a_op (a_var 6) (a_c _)) (a_nil))))) (a_name 8) (a_setO
   (a_var 8) (a_op (a_op (a_var 3) (a_var 8)) (a_var 7))))) (a_retV))
def t_law_overdrawn (Γ : Cn) : TS := tSeq (tAsg (tTup (tCons (tFn (sp_law_whole Γ) E0 (tCons (tVar 0) (tCons (tVar 3) (tNil)))) (tCons (tFn (sp_law_counted Γ) E0 (tCons (tVar 0) (tCons (tVar 1) (tCons (tVar
   2) (tNil))))) (tNil)))) (gTup Γ.K 2 (gCons (gName 4) (gCons (gName 5) (gNil))))) (tSeq (tAsg (tLc (gIter Γ.K (tVar 0)) (gTup Γ.K 2 (gCons (gName 7) (gCons (gName 8)
   (gNil)))) (tTest (tOp (gGt) (tOp (gIx Γ.K) (tVar 5) (tVar 7)) (tOp (gIx Γ.K) (tVar 4) (tVar 7)))) (tVar 7) [7, 8]) (gName 6)) (tRet (tOp (gIx Γ.K) (tOp (gAdd Γ.K)
   (tVar 6) (tLst (tCons (tC .non) (tNil)))) (tC (.int 0)))))
def d_law_overdrawn : DQ := dSeq (dPar false false 4 5 (dFn dp_law_whole (dCons (dVarS 0) (dCons (dVarS 3) (dNil)))) (dFn dp_law_counted (dCons (dVarS 0) (dCons (dVarS 1) (dCons (dVarS 2)
   (dNil)))))) (dSeq (dAsg (dLc (dIter (dVar 0)) (dTup2 7 8) (dTest (dOp fGt (dOp fIx (dVar 5) (dVar 7)) (dOp fIx (dVar 4) (dVar 7)))) (dVarS 7) [7, 8]) 6) (dRet (dOp fIx
   (dOp fAdd (dVar 6) (dLst (dCons (dC .non) (dNil)))) (dC (.int 0)))))
theorem snd_law_overdrawn {Γ : Cn} {L : LS} : SS Γ L 0 (t_law_overdrawn Γ) d_law_overdrawn := by
  unfold t_law_overdrawn d_law_overdrawn
  exact s_seq (s_parT (k1 := false) (k2 := false) 4 5 (SF.e (s_fnF (s := dp_law_whole) (cf := 0) (s_cons (s_varS 0) (s_cons (s_varS 3) (s_nil))))) (SF.e (s_fnF (s :=
   dp_law_counted) (cf := 0) (s_cons (s_varS 0) (s_cons (s_varS 1) (s_cons (s_varS 2) (s_nil))))))) (s_seq (s_asg 6 (SF.e (s_lc (s_iterT (s_var 0)) (s_tup2 7 8) (s_test
   (SE.t (s_op o_gt (SE.t (s_op o_ix (s_var 5) (s_var 7))) (SE.t (s_op o_ix (s_var 4) (s_var 7)))))) (s_varS 7)))) (s_ret (s_op o_ix (SE.t (s_op o_add (s_var 6) (SF.t
   (s_lst (s_cons (s_c fun _ => .non) (s_nil)))))) (SE.t (s_c fun _ => .int _)))))
def dp_law_overdrawn : DSp := dpOf 9 d_law_overdrawn
def sp_law_overdrawn (Γ : Cn) : Sp := lift Γ 4 0 dp_law_overdrawn
def r_law_overdrawn : RQ := rSeq (rPar false false 4 5 (rFn R_law_whole (rCons (rVarS 0) (rCons (rVarS 3) (rNil)))) (rFn R_law_counted (rCons (rVarS 0) (rCons (rVarS 1) (rCons (rVarS 2) (rNil))))))
   (rSeq (rAsg (rLc (rIter (rVar 0)) (rTup2 7 8) (rTest (rOp fGt (rOp fIx (rVar 5) (rVar 7)) (rOp fIx (rVar 4) (rVar 7)))) (rVarS 7) [7, 8]) 6) (rRet (rOp fIx (rOp fAdd
   (rVar 6) (rLst (rCons (rC .non) (rNil)))) (rC (.int 0)))))
def R_law_overdrawn : List D → Option D := runOf 9 r_law_overdrawn
theorem ag_law_overdrawn : AgF dp_law_overdrawn R_law_overdrawn := by
  refine ag_of ?_
  unfold d_law_overdrawn r_law_overdrawn
  exact a_seq (a_par (a_fn ag_law_whole (a_cons (a_varS 0) (a_cons (a_varS 3) (a_nil)))) (a_fn ag_law_counted (a_cons (a_varS 0) (a_cons (a_varS 1) (a_cons (a_varS 2)
   (a_nil)))))) (a_seq (a_asg (a_lc (a_iter (a_var 0)) (a_tup2 7 8) (a_test (a_op (a_op (a_var 5) (a_var 7)) (a_op (a_var 4) (a_var 7)))) (a_varS 7))) (a_ret (a_op (a_op
   (a_var 6) (a_lst (a_cons (a_c _) (a_nil)))) (a_c _))))
/-! ### counted -/
def prs (cs : List (Str × Int)) (xs : List Int) : List (Str × Int) := List.zipWith (fun c x => (c.1, x)) cs xs
theorem comp_zero9 (rows : List Row) (δ : DS) (h : δ.length = 9) : compL (lcStep (rTup2 4 5) rYes (rTup (rCons (rVarS 4) (rCons (rC (.int 0)) rNil))) δ) (rows.map rowD) = some (rows.map fun r => .tup [.str r.1, .int 0]) := by
  refine compL_map fun r _ => ?_
  match δ, h with
  | [a, b, c, d, e, f, g, h, i], _ => simp [rowD]
/-- slots: rows wants spent found name parent pair amount outer -/
def coS (rl wl sl : D) (rows : List Row) (f : Str → Int) (a b c : Option Sl) : DS := [some (.sh rl), some (.sh wl), some (.sh sl), some (.ow (.dct (mapK (nms rows) f))), none, none, a, b, c]
theorem co_body {rows : List Row} (ok : OkF rows) (wl sl : D) (f : Str → Int) (p : (Str × Int) × Int) (hp : p.1.1 ∈ nms rows) (a b c : Option Sl) :
    ∃ a' b' c', ((rTup2 6 7 (.tup [clD p.1, .int p.2]) (coS (.lst (rows.map rowD)) wl sl rows f a b c)).bind r_law_counted_b2) = some (.nx (coS (.lst (rows.map rowD)) wl sl rows (bumps f (anc rows p.1.1) p.2) a' b' c')) := by
  obtain ⟨δ', h1, c', h2⟩ := for_fold (α := Str) (S := Str → Int) (g := rName 8) (b := r_law_counted_b1) (e := D.str) (fun f δ => ∃ c', δ = coS (.lst (rows.map rowD)) wl sl rows f (some (.sh (clD p.1))) (some (.sh (.int p.2))) c') (fun f n => bump f n p.2) (anc rows p.1.1) f (coS (.lst (rows.map rowD)) wl sl rows f (some (.sh (clD p.1))) (some (.sh (.int p.2))) c) ⟨c, rfl⟩ (fun n hm f δ ⟨c', e⟩ => by
    subst e
    refine ⟨_, ?_, some (.sh (.str n)), rfl⟩
    have hn' := anc_in ok hp hm
    have hl : (nms rows).length ≤ 1000 := by
      have := ok.le
      unfold nms
      rw [List.length_map]
      omega
    simp [r_law_counted_b1, rSetO, coS, ix_mapK f hn', set_mapK ok.nd hl f hn'])
  subst h2
  refine ⟨some (.sh (clD p.1)), some (.sh (.int p.2)), c', ?_⟩
  have hix : fIx (clD p.1) (.int 0) = some (.str p.1.1) := rfl
  unfold coS at h1
  simp [r_law_counted_b2, coS, hix, R_up ok hp] at h1 ⊢
  simp [h1, bumps]
theorem zip_eq (cs : List (Str × Int)) (xs : List Int) : List.zipWith (fun x y => D.tup [x, y]) (cs.map clD) (xs.map .int) = (cs.zip xs).map fun p => .tup [clD p.1, .int p.2] := by
  rw [List.zipWith_map, List.zip, List.map_zipWith]
theorem gath_nil (rows : List Row) (n : Str) : gath rows [] n = 0 := rfl
theorem R_counted {rows : List Row} (ok : OkF rows) (cs : List (Str × Int)) (hc : ∀ c ∈ cs, c.1 ∈ nms rows) (xs : List Int) : R_law_counted [.lst (rows.map rowD), .lst (cs.map clD), .lst (xs.map .int)] = some (.dct (mapK (nms rows) (gath rows (prs cs xs)))) := by
  obtain ⟨δ', h1, a, b, c, h2⟩ := for_fold (α := (Str × Int) × Int) (S := Str → Int) (g := rTup2 6 7) (b := r_law_counted_b2) (e := fun p => .tup [clD p.1, .int p.2]) (fun f δ => ∃ a b c, δ = coS (.lst (rows.map rowD)) (.lst (cs.map clD)) (.lst (xs.map .int)) rows f a b c) (fun f p => bumps f (anc rows p.1.1) p.2) (cs.zip xs) (fun _ => 0) (coS (.lst (rows.map rowD)) (.lst (cs.map clD)) (.lst (xs.map .int)) rows (fun _ => 0) none none none) ⟨none, none, none, rfl⟩ (fun p hm f δ ⟨a, b, c, e⟩ => by
    subst e
    obtain ⟨a', b', c', h⟩ := co_body ok (.lst (cs.map clD)) (.lst (xs.map .int)) f p (hc _ (List.of_mem_zip hm).1) a b c
    exact ⟨_, h, a', b', c', rfl⟩)
  subst h2
  have hf : ((cs.zip xs).foldl (fun f p => bumps f (anc rows p.1.1) p.2) fun _ => 0) = gath rows (prs cs xs) := by
    funext n
    have e : prs cs xs = (cs.zip xs).map fun p => (p.1.1, p.2) := by
      unfold prs
      rw [List.zip, List.map_zipWith]
    have := gath_fold ok (prs cs xs) (fun _ => 0) n (fun p hp => by
      rw [e] at hp
      obtain ⟨q, hq, rfl⟩ := List.mem_map.mp hp
      exact hc q.1 (List.of_mem_zip hq).1)
    rw [e, List.foldl_map] at this
    rw [this, e]
    omega
  rw [hf] at h1
  have hz := comp_zero9 rows [some (.sh (.lst (rows.map rowD))), some (.sh (.lst (cs.map clD))), some (.sh (.lst (xs.map .int))), none, none, none, none, none, none] rfl
  have hzip : zipD [.lst (cs.map clD), .lst (xs.map .int)] = some ((cs.zip xs).map fun p => .tup [clD p.1, .int p.2]) := by
    show some (List.zipWith (fun x y => D.tup [x, y]) (cs.map clD) (xs.map .int)) = _
    rw [zip_eq]
  unfold coS at h1
  simp [-x_lcStep, R_law_counted, runOfF, r_law_counted, hz, dict_zero ok, hzip, rRetV] at h1 ⊢
  simp [h1]
/-! ### overdrawn -/
/-- the first account at which the pairs add up to more than its total -/
def ovr (rows : List Row) (g t : Str → Int) : Option Str := (nms rows).find? fun n => decide (t n < g n)
theorem R_lover {rows : List Row} (ok : OkF rows) (cs : List (Str × Int)) (hc : ∀ c ∈ cs, c.1 ∈ nms rows) (xs : List Int) {bs : List (Str × Int)} (nd : (bs.map (·.1)).Nodup) (hb : ∀ p ∈ bs, p.1 ∈ nms rows) :
    R_law_overdrawn [.lst (rows.map rowD), .lst (cs.map clD), .lst (xs.map .int), .dct (balK bs)] = some (optD (ovr rows (gath rows (prs cs xs)) (tot rows (balOf bs)))) := by
  have hcomp : ∀ a b c d e : Option Sl, compL (lcStep (rTup2 7 8) (rTest (rOp fGt (rOp fIx (rVar 5) (rVar 7)) (rOp fIx (rVar 4) (rVar 7)))) (rVarS 7) ([a, b, c, d, some (.sh (.dct (mapK (nms rows) (tot rows (balOf bs))))), some (.sh (.dct (mapK (nms rows) (gath rows (prs cs xs))))), e, none, none] : DS)) (rows.map rowD) = some ((rows.filter fun r => decide (tot rows (balOf bs) r.1 < gath rows (prs cs xs) r.1)).map fun r => .str r.1) := fun a b c d e => by
    refine compL_filter fun r hr => ?_
    have hn : r.1 ∈ nms rows := List.mem_map.mpr ⟨r, hr, rfl⟩
    simp [rowD, ix_mapK _ hn]
    split <;> rfl
  have hl : (rows.filter fun r => decide (tot rows (balOf bs) r.1 < gath rows (prs cs xs) r.1)).length + 1 ≤ LIM := by
    have h1 := List.length_filter_le (fun r : Row => decide (tot rows (balOf bs) r.1 < gath rows (prs cs xs) r.1)) rows
    have h2 := ok.le
    show _ ≤ 1000000
    omega
  have hfin : ((fAdd (.lst ((rows.filter fun r => decide (tot rows (balOf bs) r.1 < gath rows (prs cs xs) r.1)).map fun r => .str r.1)) (.lst [.non])).bind fun x => fIx x (.int 0)) = some (optD (ovr rows (gath rows (prs cs xs)) (tot rows (balOf bs)))) := by
    have h1 : fAdd (.lst ((rows.filter fun r => decide (tot rows (balOf bs) r.1 < gath rows (prs cs xs) r.1)).map fun r => .str r.1)) (.lst [.non]) = some (.lst (((rows.filter fun r => decide (tot rows (balOf bs) r.1 < gath rows (prs cs xs) r.1)).map fun r => .str r.1) ++ [.non])) := by
      show (if _ then _ else _) = _
      rw [if_pos (by simpa using hl)]
    rw [h1]
    have h2 : ovr rows (gath rows (prs cs xs)) (tot rows (balOf bs)) = ((rows.filter fun r => decide (tot rows (balOf bs) r.1 < gath rows (prs cs xs) r.1)).head?).map (·.1) := by
      unfold ovr nms
      rw [List.find?_map, List.head?_filter]
      rfl
    rw [h2]
    cases hh : rows.filter fun r => decide (tot rows (balOf bs) r.1 < gath rows (prs cs xs) r.1) with
    | nil => rfl
    | cons r rs =>
      exact ix_head _ _
  have hfin' : ∀ x, fAdd (.lst ((rows.filter fun r => decide (tot rows (balOf bs) r.1 < gath rows (prs cs xs) r.1)).map fun r => .str r.1)) (.lst [.non]) = some x → fIx x (.int 0) = some (optD (ovr rows (gath rows (prs cs xs)) (tot rows (balOf bs)))) := fun x hx => by
    rw [hx] at hfin
    exact hfin
  simp [-x_lcStep, R_law_overdrawn, runOf, r_law_overdrawn, R_whole ok nd hb, R_counted ok cs hc xs, hcomp]
  obtain ⟨x, hx⟩ : ∃ x, fAdd (.lst ((rows.filter fun r => decide (tot rows (balOf bs) r.1 < gath rows (prs cs xs) r.1)).map fun r => .str r.1)) (.lst [.non]) = some x := by
    obtain ⟨x, hx, _⟩ := bnd hfin
    exact ⟨x, hx⟩
  simp [hx, hfin' x hx]
theorem ovr_none {rows : List Row} {g t : Str → Int} : ovr rows g t = none ↔ ∀ n ∈ nms rows, g n ≤ t n := by
  unfold ovr
  rw [List.find?_eq_none]
  constructor
  · intro h n hn
    have := h n hn
    simpa using this
  · intro h n hn
    have := h n hn
    simpa using this
end GP

set_option Elab.async false
set_option linter.all false
set_option maxRecDepth 100000
set_option maxHeartbeats 4000000
/-! S10: facts of the entitlements, in plain Lean; slices and enumerate of typed lists. -/
namespace GP
open PySem PySem.Spec PyProof.Rows L2
theorem mnL_le : ∀ (l : List Int) (c : Int), mnL c l ≤ c ∧ ∀ x ∈ l, mnL c l ≤ x
  | [], c => ⟨Int.le_refl _, fun x h => by cases h⟩
  | y :: l, c => by
    obtain ⟨h1, h2⟩ := mnL_le l y
    rw [mnL]
    refine ⟨Int.min_le_left _ _, fun x hx => ?_⟩
    rcases List.mem_cons.mp hx with rfl | hx
    · omega
    · have := h2 x hx
      omega
theorem mnL_mem : ∀ (l : List Int) (c : Int), mnL c l = c ∨ mnL c l ∈ l
  | [], c => .inl rfl
  | y :: l, c => by
    rw [mnL]
    rcases mnL_mem l y with h | h
    · rw [h]
      by_cases hc : c ≤ y
      · exact .inl (by omega)
      · exact .inr (by rw [show min c y = y by omega]; exact List.mem_cons_self)
    · by_cases hc : c ≤ mnL y l
      · exact .inl (by omega)
      · exact .inr (by rw [show min c (mnL y l) = mnL y l by omega]; exact List.mem_cons_of_mem _ h)
theorem mnL_ge {l : List Int} {c m : Int} (h1 : m ≤ c) (h2 : ∀ x ∈ l, m ≤ x) : m ≤ mnL c l := by
  rcases mnL_mem l c with h | h
  · omega
  · exact h2 _ h
/-- what is left behind a claim -/
def les (rows : List Row) (f : Str → Int) (a : Str) (m : Int) : Str → Int := fun n => if n ∈ anc rows a then f n - m else f n
theorem les_eq (rows : List Row) (f : Str → Int) (a : Str) (m : Int) (n : Str) : les rows f a m n = if n ∈ anc rows a then f n - m else f n := rfl
def entR (rows : List Row) (f : Str → Int) : List (Str × Int) → List Int
  | [] => []
  | c :: cs => mnL c.2 ((anc rows c.1).map f) :: entR rows (les rows f c.1 (mnL c.2 ((anc rows c.1).map f))) cs
theorem ent_fold (rows : List Row) : ∀ (cs : List (Str × Int)) (f : Str → Int) (l : List Int), (cs.foldl (stepE rows) (f, l)).2 = l ++ entR rows f cs
  | [], f, l => by simp [entR]
  | c :: cs, f, l => by
    rw [List.foldl_cons]
    show (cs.foldl (stepE rows) (les rows f c.1 (mnL c.2 ((anc rows c.1).map f)), l ++ [mnL c.2 ((anc rows c.1).map f)])).2 = _
    rw [ent_fold rows cs, entR]
    simp
theorem ent_eq (rows : List Row) (f : Str → Int) (cs : List (Str × Int)) : ent rows f cs = entR rows f cs := by
  unfold ent
  rw [ent_fold]
  simp
theorem gath_app (rows : List Row) (ps qs : List (Str × Int)) (n : Str) : gath rows (ps ++ qs) n = gath rows ps n + gath rows qs n := by
  unfold gath
  rw [List.filter_append, List.map_append, List.sum_append]
theorem prs_cons (c : Str × Int) (cs : List (Str × Int)) (x : Int) (xs : List Int) : prs (c :: cs) (x :: xs) = (c.1, x) :: prs cs xs := rfl
/-- at each rank: in range, nothing overdrawn, and tight where it is less than the claim -/
theorem ent_facts {rows : List Row} (ok : OkF rows) : ∀ (cs : List (Str × Int)) (f : Str → Int), (∀ n ∈ nms rows, 0 ≤ f n) → (∀ c ∈ cs, c.1 ∈ nms rows ∧ 0 ≤ c.2) → ∀ (k : Nat) (c : Str × Int) (x : Int), cs[k]? = some c → (entR rows f cs)[k]? = some x →
    0 ≤ x ∧ x ≤ c.2 ∧ (∀ n ∈ nms rows, gath rows (prs (cs.take (k + 1)) ((entR rows f cs).take (k + 1))) n ≤ f n) ∧ (x < c.2 → ∃ b ∈ anc rows c.1, gath rows (prs (cs.take (k + 1)) ((entR rows f cs).take (k + 1))) b = f b)
  | [], f, _, _, k, c, x, h, _ => by simp at h
  | d :: cs, f, hf, hc, k, c, x, h1, h2 => by
    obtain ⟨hd, hd0⟩ := hc d List.mem_cons_self
    obtain ⟨m1, m2⟩ := mnL_le ((anc rows d.1).map f) d.2
    have m0 : 0 ≤ mnL d.2 ((anc rows d.1).map f) := mnL_ge hd0 fun y hy => by
      obtain ⟨b, hb, rfl⟩ := List.mem_map.mp hy
      exact hf b (anc_in ok hd hb)
    have m3 : ∀ b ∈ anc rows d.1, mnL d.2 ((anc rows d.1).map f) ≤ f b := fun b hb => m2 _ (List.mem_map.mpr ⟨b, hb, rfl⟩)
    cases k with
    | zero =>
      simp [entR] at h1 h2
      subst h1
      subst h2
      refine ⟨m0, m1, fun n hn => ?_, fun hlt => ?_⟩
      · simp only [entR, List.take_succ_cons, List.take_zero, prs_cons, gath_cons]
        have e : gath rows (prs [] []) n = 0 := rfl
        rw [e]
        by_cases h : n ∈ anc rows d.1
        · have := m3 n h
          simp [h]
          omega
        · have := hf n hn
          simp [h]
          omega
      · rcases mnL_mem ((anc rows d.1).map f) d.2 with h | h
        · omega
        · obtain ⟨b, hb, e⟩ := List.mem_map.mp h
          refine ⟨b, hb, ?_⟩
          simp only [entR, List.take_succ_cons, List.take_zero, prs_cons, gath_cons]
          have e0 : gath rows (prs [] []) b = 0 := rfl
          rw [e0, e]
          simp [hb]
    | succ k =>
      simp [entR] at h1 h2
      have hf' : ∀ n ∈ nms rows, 0 ≤ les rows f d.1 (mnL d.2 ((anc rows d.1).map f)) n := fun n hn => by
        unfold les
        split
        · have := m3 n (by assumption)
          omega
        · exact hf n hn
      obtain ⟨a1, a2, a3, a4⟩ := ent_facts ok cs _ hf' (fun c hc' => hc c (List.mem_cons_of_mem _ hc')) k c x h1 h2
      refine ⟨a1, a2, fun n hn => ?_, fun hlt => ?_⟩
      · have := a3 n hn
        rw [entR, List.take_succ_cons, List.take_succ_cons, prs_cons, gath_cons]
        rw [les_eq] at this
        by_cases h : n ∈ anc rows d.1
        · rw [if_pos h] at this ⊢
          show _ + _ ≤ _
          omega
        · rw [if_neg h] at this ⊢
          omega
      · obtain ⟨b, hb, e⟩ := a4 hlt
        refine ⟨b, hb, ?_⟩
        rw [entR, List.take_succ_cons, List.take_succ_cons, prs_cons, gath_cons]
        rw [les_eq] at e
        by_cases h : b ∈ anc rows d.1
        · rw [if_pos h] at e ⊢
          show _ + _ = _
          omega
        · rw [if_neg h] at e ⊢
          omega
theorem prs_take {cs : List (Str × Int)} {xs : List Int} {k : Nat} {c : Str × Int} (h : cs[k]? = some c) (hx : k ≤ xs.length) (y : Int) : prs (cs.take (k + 1)) (xs.take k ++ [y]) = prs (cs.take k) (xs.take k) ++ [(c.1, y)] := by
  have hk := (List.getElem?_eq_some_iff.mp h).1
  rw [List.take_add_one, h]
  unfold prs
  rw [List.zipWith_append (by simp; omega)]
  rfl
theorem take_succ_app {α : Type} {xs : List α} {k : Nat} {x : α} (h : xs[k]? = some x) : xs.take (k + 1) = xs.take k ++ [x] := by
  rw [List.take_add_one, h]
  rfl
/-! ### slices, enumerate -/
theorem cut_take {α : Type} (xs : List α) (k : Nat) : cutD xs none (some (k : Int)) = xs.take k := by
  unfold cutD
  rw [HT.sIx_none, HT.sIx_nat, List.drop_zero, Nat.sub_zero]
  by_cases h : k ≤ xs.length
  · rw [Nat.min_eq_left h]
  · rw [Nat.min_eq_right (by omega), List.take_length, List.take_of_length_le (by omega)]
theorem sl_take {α : Type} (e : α → D) (xs : List α) (k : Nat) : fSl none (some (k : Int)) (.lst (xs.map e)) = some (.lst ((xs.take k).map e)) := by
  show some (D.lst (cutD (xs.map e) none (some (k : Int)))) = _
  rw [cut_take, List.map_take]
def enu {α : Type} (xs : List α) : List (Nat × α) := (List.range xs.length).zip xs
theorem enu_at {α : Type} {xs : List α} {i : Nat} {p : Nat × α} (h : (enu xs)[i]? = some p) : p.1 = i ∧ xs[i]? = some p.2 := by
  unfold enu at h
  rw [List.getElem?_zip_eq_some] at h
  obtain ⟨h1, h2⟩ := h
  obtain ⟨h3, h4⟩ := List.getElem?_eq_some_iff.mp h1
  rw [List.getElem_range] at h4
  exact ⟨h4.symm, h2⟩
theorem enu_len {α : Type} (xs : List α) : (enu xs).length = xs.length := by
  unfold enu
  rw [List.length_zip, List.length_range, Nat.min_self]
theorem enum_eq {α : Type} (e : α → D) (xs : List α) : enumD [.lst (xs.map e)] = some ((enu xs).map fun p => .tup [.int p.1, e p.2]) := by
  show some _ = _
  congr 1
  unfold enu
  rw [List.length_map, List.zip, List.map_zipWith, List.zipWith_map_right]
theorem fIx_nat {α : Type} (e : α → D) {xs : List α} {k : Nat} {x : α} (h : xs[k]? = some x) : fIx (.lst (xs.map e)) (.int k) = some (e x) := by
  have hk := (List.getElem?_eq_some_iff.mp h).1
  show atI (xs.map e) k = _
  unfold atI ixN
  rw [if_pos (by omega), if_pos (by rw [List.length_map]; omega)]
  show (xs.map e)[(k : Int).toNat]? = _
  rw [Int.toNat_natCast, List.getElem?_map, h]
  rfl
theorem tot_nonneg (rows : List Row) {f : Str → Int} (h : ∀ n, 0 ≤ f n) (n : Str) : 0 ≤ tot rows f n := by
  unfold tot
  have : ∀ l : List Str, 0 ≤ (l.map f).sum := by
    intro l
    induction l with
    | nil => simp
    | cons x l ih => rw [List.map_cons, List.sum_cons]; have := h x; omega
  exact this _
theorem balOf_nonneg {bs : List (Str × Int)} (h : ∀ p ∈ bs, 0 ≤ p.2) (n : Str) : 0 ≤ balOf bs n := by
  unfold balOf
  cases hf : bs.find? fun p => decide (p.1 = n) with
  | none => simp
  | some p => simpa using h p (List.mem_of_find?_eq_some hf)
theorem deq_ints : ∀ (n : Nat) (xs ys : List Int), deqL (deq n) (xs.map .int) (ys.map .int) = decide (xs = ys)
  | n, [], [] => rfl
  | n, [], y :: ys => rfl
  | n, x :: xs, [] => rfl
  | n, x :: xs, y :: ys => by
    rw [List.map_cons, List.map_cons, deqL, deq_ints n xs ys]
    have : deq n (.int x) (.int y) = decide (x = y) := by
      cases n <;> (show (x == y) = _; by_cases h : x = y <;> simp [h])
    rw [this]
    by_cases h1 : x = y <;> by_cases h2 : xs = ys <;> simp [h1, h2]
theorem pl_ints (xs : List Int) : plD DEP (.lst (xs.map .int)) = true := plD_lst fun x hx => by
  obtain ⟨i, _, rfl⟩ := List.mem_map.mp hx
  rfl
theorem eq_ints (xs ys : List Int) : fEq (.lst (xs.map .int)) (.lst (ys.map .int)) = some (.bl (decide (xs = ys))) := by
  show (if plD DEP (.lst (xs.map .int)) && plD DEP (.lst (ys.map .int)) then some (D.bl (deqL (deq 11) (xs.map .int) (ys.map .int))) else none) = _
  rw [pl_ints, pl_ints, deq_ints]
  rfl
theorem ne_ints (xs ys : List Int) : fNe (.lst (xs.map .int)) (.lst (ys.map .int)) = some (.bl (!decide (xs = ys))) := by
  show (if plD DEP (.lst (xs.map .int)) && plD DEP (.lst (ys.map .int)) then some (D.bl (!deqL (deq 11) (xs.map .int) (ys.map .int))) else none) = _
  rw [pl_ints, pl_ints, deq_ints]
  rfl
end GP

set_option Elab.async false
set_option linter.all false
set_option maxRecDepth 100000
set_option maxHeartbeats 4000000
/-! S11: repr of small data ends. -/
namespace GP
open PySem PySem.Spec PyProof.Rows L2
def smInt (i : Int) : Bool := decide (-1000000000000000000000000000000000000000000000000000000000000 < i) && decide (i < 1000000000000000000000000000000000000000000000000000000000000)
def wtK : Key → Nat
  | .inl _ => 62
  | .inr x => 10 * x.length + 2
def smK : Key → Bool
  | .inl i => smInt i
  | .inr x => okStr x
/-- so long may a repr get -/
def wtR : Nat → D → Nat
  | _, .non => 4
  | _, .bl _ => 5
  | _, .int _ => 62
  | _, .str x => 10 * x.length + 2
  | n + 1, .lst xs => (xs.map fun x => wtR n x + 2).sum + 2
  | n + 1, .tup xs => (xs.map fun x => wtR n x + 2).sum + 3
  | n + 1, .dct kvs => (kvs.map fun kv => wtK kv.1 + wtR n kv.2 + 4).sum + 2
  | _, _ => 0
def smR : Nat → D → Bool
  | _, .non => true
  | _, .bl _ => true
  | _, .int i => smInt i
  | _, .str x => okStr x
  | n + 1, .lst xs => xs.all (smR n)
  | n + 1, .tup xs => xs.all (smR n)
  | n + 1, .dct kvs => kvs.all fun kv => smK kv.1 && smR n kv.2
  | _, _ => false
theorem smR_pl : ∀ (n : Nat) (d : D), smR n d = true → plR n d = true
  | 0, d, h => by cases d <;> first | rfl | (cases h; done)
  | n + 1, d, h => by
    cases d with
    | lst xs =>
      show xs.all (plR n) = true
      rw [List.all_eq_true]
      exact fun x hx => smR_pl n x (List.all_eq_true.mp h x hx)
    | tup xs =>
      show xs.all (plR n) = true
      rw [List.all_eq_true]
      exact fun x hx => smR_pl n x (List.all_eq_true.mp h x hx)
    | dct kvs =>
      show (kvs.all fun kv => plR n kv.2) = true
      rw [List.all_eq_true]
      intro kv hk
      have := List.all_eq_true.mp h kv hk
      rw [Bool.and_eq_true] at this
      exact smR_pl n kv.2 this.2
    | _ => first | rfl | (cases h; done)
theorem int_txt {i : Int} (h : smInt i = true) : (Str.ofString (toString i)).length ≤ 62 ∧ i.natAbs.log2 < 1920 := by
  unfold smInt at h
  rw [Bool.and_eq_true, decide_eq_true_eq, decide_eq_true_eq] at h
  refine ⟨?_, ?_⟩
  · have p60 : (10 : Int) ^ 60 = 1000000000000000000000000000000000000000000000000000000000000 := by decide
    by_cases h0 : 0 ≤ i
    · have := toString_length_le h0 (k := 60) (by omega) (by rw [p60]; omega)
      omega
    · have h2 := toString_length_le (v := 0 - i) (by omega) (k := 60) (by omega) (by rw [p60]; omega)
      rw [len_text_neg (by omega)]
      omega
  · have h2 : i.natAbs < 2 ^ 200 := by
      have : (2 : Nat) ^ 67 = 147573952589676412928 := by decide
      omega
    by_cases z : i.natAbs = 0
    · rw [z]; decide
    · have := (Nat.log2_lt z).mpr h2
      omega
theorem str_txt {x : Str} (h : okStr x = true) : (reprText x).length ≤ 10 * x.length + 2 := StrLaws.reprText_len x fun c hc => by
  have := okStr_cp h (by simpa using hc)
  omega
theorem join_le (ts : List Str) : (Str.join ", " ts).length ≤ piled ts := by
  induction ts with
  | nil => exact Nat.le_refl _
  | cons t ts ih =>
    rw [piled_cons]
    cases ts with
    | nil => show t.length ≤ _; omega
    | cons u r =>
      show (t ++ ", " ++ Str.join ", " (u :: r)).length ≤ _
      rw [strLen_append, strLen_append]
      have : ((", " : Str)).length = 2 := rfl
      omega
theorem list_le (ts : List Str) : (listText ts).length ≤ piled ts + 2 := by
  unfold listText
  rw [strLen_append]
  have e1 : (("]" : Str)).length = 1 := rfl
  have e2 : (("[" : Str)).length = 1 := rfl
  cases ts with
  | nil => show (("[" : Str)).length + _ ≤ _; rw [e1, e2, piled_nil]; omega
  | cons t ts =>
    show (textFrom 1 (("[" : Str) ++ (if 0 > 0 then ", " else "" : String) ++ t) ts).length + _ ≤ _
    rw [textFrom_length_pos _ _ _ (by omega), strLen_append, strLen_append, e1, e2, piled_cons]
    have e3 : ((if 0 > 0 then ", " else "" : String) : Str).length = 0 := rfl
    rw [e3]
    omega
theorem tuple_le (ts : List Str) : (tupleText ts).length ≤ piled ts + 3 := by
  unfold tupleText
  rw [strLen_append, strLen_append]
  have h := join_le ts
  have e1 : (("(" : Str)).length = 1 := rfl
  have e2 : ((if ts.length == 1 then ",)" else ")" : String) : Str).length ≤ 2 := by
    split
    · exact Nat.le_refl 2
    · show 1 ≤ 2; omega
  rw [e1]
  omega
theorem dict_le (ts : List Str) : (dictText ts).length ≤ piled ts + 2 := by
  unfold dictText
  rw [strLen_append, strLen_append]
  have h := join_le ts
  have e1 : (("{" : Str)).length = 1 := rfl
  have e2 : (("}" : Str)).length = 1 := rfl
  rw [e1, e2]
  omega
theorem key_shown {k : Key} (h : smK k = true) : (keyP k).showable = true ∧ (keyP k).shown.length ≤ wtK k := by
  cases k with
  | inl i =>
    obtain ⟨h1, h2⟩ := int_txt h
    exact ⟨decide_eq_true h2, h1⟩
  | inr x => exact ⟨rfl, str_txt h⟩
theorem all_shown {n : Nat} (f : ∀ d, smR n d = true → (pyR n d).showable = true ∧ (pyR n d).shown.length ≤ wtR n d) : ∀ xs : List D, xs.all (smR n) = true → PyData.showableAll (xs.map (pyR n)) = true ∧ piled (PyData.shownAll (xs.map (pyR n))) ≤ (xs.map fun x => wtR n x + 2).sum
  | [], _ => ⟨rfl, Nat.le_refl _⟩
  | x :: xs, h => by
    rw [List.all_cons, Bool.and_eq_true] at h
    obtain ⟨h1, h2⟩ := f x h.1
    obtain ⟨h3, h4⟩ := all_shown f xs h.2
    refine ⟨?_, ?_⟩
    · rw [List.map_cons, PyData.showableAll, h1, h3]; rfl
    · rw [List.map_cons, PyData.shownAll, piled_cons, List.map_cons, List.sum_cons]
      omega
theorem kv_shown {n : Nat} (f : ∀ d, smR n d = true → (pyR n d).showable = true ∧ (pyR n d).shown.length ≤ wtR n d) : ∀ xs : List (Key × D), (xs.all fun kv => smK kv.1 && smR n kv.2) = true → PyData.showableKv (xs.map fun kv => (keyP kv.1, pyR n kv.2)) = true ∧ piled (PyData.shownKv (xs.map fun kv => (keyP kv.1, pyR n kv.2))) ≤ (xs.map fun kv => wtK kv.1 + wtR n kv.2 + 4).sum
  | [], _ => ⟨rfl, Nat.le_refl _⟩
  | x :: xs, h => by
    rw [List.all_cons, Bool.and_eq_true, Bool.and_eq_true] at h
    obtain ⟨h1, h2⟩ := f x.2 h.1.2
    obtain ⟨h5, h6⟩ := key_shown h.1.1
    obtain ⟨h3, h4⟩ := kv_shown f xs h.2
    refine ⟨?_, ?_⟩
    · rw [List.map_cons, PyData.showableKv, h1, h3, h5]; rfl
    · rw [List.map_cons, PyData.shownKv, piled_cons, List.map_cons, List.sum_cons, strLen_append, strLen_append]
      have e1 : ((": " : Str)).length = 2 := rfl
      omega
theorem bl_shown {b : Bool} : (PyData.bool b).shown.length ≤ 5 := by cases b <;> decide
theorem sm_shown : ∀ (n : Nat) (d : D), smR n d = true → (pyR n d).showable = true ∧ (pyR n d).shown.length ≤ wtR n d
  | 0, d, h => by
    cases d with
    | non => exact ⟨rfl, by show 4 ≤ 4; omega⟩
    | bl b => exact ⟨rfl, by cases b <;> exact bl_shown⟩
    | int i =>
      obtain ⟨h1, h2⟩ := int_txt h
      exact ⟨decide_eq_true h2, h1⟩
    | str x => exact ⟨rfl, str_txt h⟩
    | _ => cases h
  | n + 1, d, h => by
    cases d with
    | non => exact ⟨rfl, by show 4 ≤ 4; omega⟩
    | bl b => exact ⟨rfl, by cases b <;> exact bl_shown⟩
    | int i =>
      obtain ⟨h1, h2⟩ := int_txt h
      exact ⟨decide_eq_true h2, h1⟩
    | str x => exact ⟨rfl, str_txt h⟩
    | lst xs =>
      obtain ⟨h1, h2⟩ := all_shown (sm_shown n) xs h
      refine ⟨h1, ?_⟩
      show (listText (PyData.shownAll (xs.map (pyR n)))).length ≤ (xs.map fun x => wtR n x + 2).sum + 2
      have := list_le (PyData.shownAll (xs.map (pyR n)))
      omega
    | tup xs =>
      obtain ⟨h1, h2⟩ := all_shown (sm_shown n) xs h
      refine ⟨h1, ?_⟩
      show (tupleText (PyData.shownAll (xs.map (pyR n)))).length ≤ (xs.map fun x => wtR n x + 2).sum + 3
      have := tuple_le (PyData.shownAll (xs.map (pyR n)))
      omega
    | dct xs =>
      obtain ⟨h1, h2⟩ := kv_shown (sm_shown n) xs h
      refine ⟨h1, ?_⟩
      show (dictText (PyData.shownKv (xs.map fun kv => (keyP kv.1, pyR n kv.2)))).length ≤ (xs.map fun kv => wtK kv.1 + wtR n kv.2 + 4).sum + 2
      have := dict_le (PyData.shownKv (xs.map fun kv => (keyP kv.1, pyR n kv.2)))
      omega
    | _ => cases h
theorem repr_sm {d : D} (h : smR DEP d = true) (hw : wtR DEP d ≤ 1000000) : fReprR [d] = some (.raw (pyR DEP d).shown) := by
  obtain ⟨h1, h2⟩ := sm_shown DEP d h
  show (if plR DEP d && (pyR DEP d).showable && decide ((pyR DEP d).shown.length ≤ sizeLine) then some (D.raw (pyR DEP d).shown) else none) = _
  rw [smR_pl _ _ h, h1, decide_eq_true (by rw [sizeLine_eq]; omega)]
  rfl
theorem sum_le {α : Type} (f : α → Nat) (b : Nat) : ∀ xs : List α, (∀ x ∈ xs, f x ≤ b) → (xs.map f).sum ≤ xs.length * b
  | [], _ => by simp
  | x :: xs, h => by
    have h1 := h x List.mem_cons_self
    have h2 := sum_le f b xs fun y m => h y (List.mem_cons_of_mem _ m)
    rw [List.map_cons, List.sum_cons, List.length_cons, Nat.succ_mul]
    omega
end GP

set_option Elab.async false
set_option linter.all false
set_option maxRecDepth 100000
set_option maxHeartbeats 400000
namespace GP
open PySem PySem.Spec PyProof.Rows L2
theorem seq_nx {A B : RQ} {δ δ1 : DS} {r : Option Out} (h : A δ = some (.nx δ1)) (h2 : B δ1 = r) : rSeq A B δ = r := by
  rw [x_seq, h]
  exact h2
theorem u_o {o : Option D} {z : D} {P : D → Prop} (h : o = some z) (p : P z) : oP o P := by rw [h]; exact p
theorem y_setO {i : Nat} {dk dv : DE} {N : DN} {δ : DS} {o : D} (h : δ[i]? = some (some (.ow o))) : dSetO i dk dv N δ = dv δ fun v => dk δ fun k => oP (setD o k v) fun o2 => N.nx (δ.set i (some (.ow o2))) := by
  unfold dSetO
  rw [h]
  rfl
theorem nms_ne {rows : List Row} (ok : OkF rows) : nms rows ≠ [] := fun e => ok.ne (List.map_eq_nil_iff.mp e)
/-- a dict of balances after a store -/
def putB (bs : List (Str × Int)) (n : Str) (v : Int) : List (Str × Int) := if n ∈ bs.map (·.1) then bs.map (fun p => if p.1 = n then (p.1, v) else p) else bs ++ [(n, v)]
theorem set_putB {bs : List (Str × Int)} {n : Str} (hl : bs.length ≤ 1000) (v : Int) : setD (.dct (balK bs)) (.str n) (.int v) = some (.dct (balK (putB bs n v))) := by
  unfold putB
  by_cases hm : n ∈ bs.map (·.1)
  · rw [if_pos hm]
    have hl' : (balK bs).length < LIM := by
      show _ < 1000000
      unfold balK
      rw [List.length_map]
      omega
    show (if (balK bs).length < LIM then some (D.dct (putD (balK bs) (.inr n) (.int v))) else none) = _
    rw [if_pos hl']
    unfold putD
    have ha : ((balK bs).any fun kv => decide (kv.1 = (.inr n : Key))) = true := by
      rw [List.any_eq_true]
      obtain ⟨p, hp, e⟩ := List.mem_map.mp hm
      exact ⟨(.inr p.1, .int p.2), List.mem_map.mpr ⟨p, hp, rfl⟩, by simpa using e⟩
    rw [if_pos ha]
    unfold balK
    rw [List.map_map, List.map_map]
    congr 2
    refine List.map_congr_left fun p _ => ?_
    by_cases e : p.1 = n
    · simp [e]
    · simp [e]
  · rw [if_neg hm]
    exact set_bal hm hl v
theorem putB_keys {bs : List (Str × Int)} {n : Str} {v : Int} : (putB bs n v).map (·.1) = if n ∈ bs.map (·.1) then bs.map (·.1) else bs.map (·.1) ++ [n] := by
  unfold putB
  by_cases hm : n ∈ bs.map (·.1)
  · rw [if_pos hm, if_pos hm, List.map_map]
    refine List.map_congr_left fun p _ => ?_
    by_cases e : p.1 = n
    · simp [e]
    · simp [e]
  · rw [if_neg hm, if_neg hm, List.map_append]
    rfl
theorem putB_len {bs : List (Str × Int)} {n : Str} {v : Int} : (putB bs n v).length ≤ bs.length + 1 := by
  unfold putB
  by_cases hm : n ∈ bs.map (·.1)
  · rw [if_pos hm, List.length_map]; omega
  · rw [if_neg hm, List.length_append]
    simp
theorem putB_mem {bs : List (Str × Int)} {n : Str} {v : Int} {p : Str × Int} (h : p ∈ putB bs n v) : p ∈ bs ∨ p = (n, v) := by
  unfold putB at h
  by_cases hm : n ∈ bs.map (·.1)
  · rw [if_pos hm] at h
    obtain ⟨q, hq, e⟩ := List.mem_map.mp h
    by_cases z : q.1 = n
    · rw [if_pos z] at e
      exact .inr (by rw [← e, z])
    · rw [if_neg z] at e
      exact .inl (e ▸ hq)
  · rw [if_neg hm] at h
    rcases List.mem_append.mp h with h | h
    · exact .inl h
    · exact .inr (by simpa using h)
theorem okB_put {rows : List Row} {bs : List (Str × Int)} (ob : OkB rows bs) {n : Str} (hn : n ∈ nms rows) {v : Int} (h0 : 0 ≤ v) (h1 : v ≤ 1000000000000) : OkB rows (putB bs n v) := by
  refine ⟨?_, fun p hp => ?_⟩
  · rw [putB_keys]
    by_cases hm : n ∈ bs.map (·.1)
    · rw [if_pos hm]; exact ob.nd
    · rw [if_neg hm]
      exact List.nodup_append.mpr ⟨ob.nd, by simp, fun a ha b hb e => by
        rw [List.mem_singleton.mp hb] at e
        exact hm (e ▸ ha)⟩
  · rcases putB_mem hp with h | rfl
    · exact ob.ok p h
    · exact ⟨hn, h0, h1⟩
end GP

set_option Elab.async false
set_option linter.all false
set_option maxRecDepth 100000
set_option maxHeartbeats 4000000
/-! S13 (printed by gen2.py lib): the laws own entitlements, differences; release_effect. -/
namespace GP
open PySem PySem.Spec PyProof.Rows L2
/-! _law_begun: slots 0 _law_script 1 _law_great 2 _law_cell; calls ; cost 0 -/
/-! _law_mixed: slots 0 _law_state 1 _law_found 2 _law_prime 3 _law_blend 4 _law_cell; calls ; cost 0 -/
/-! _law_take: slots 0 _law_state 1 _law_size 2 _law_found; calls _law_mixed; cost 1 -/
/-! _law_pick: slots 0 _law_state 1 _law_some; calls _law_take; cost 1 -/
/-! _law_words: slots 0 _law_state 1 _law_size 2 _law_own 3 _law_letters 4 _law_found 5 _law_k 6 _law_word 7 _law_j 8 _law_letter 9 _law_other; calls _law_pick _law_take; cost 99 -/
/-! Forest.__init__: slots 0 self 1 rows 2 row 3 name 4 parent; calls is_list is_row; cost 0 -/
/-! _law_entitled: slots 0 _law_rows 1 _law_wants 2 _law_funds 3 _law_left 4 _law_found 5 _law_account 6 _law_claim 7 _law_line 8 _law_amount 9 _law_name; calls _law_whole _law_up; cost 0; new; draws nothing -/
def t_law_entitled (Γ : Cn) : TS := tSeq (tAsg (tTup (tCons (tFn (sp_law_whole Γ) E0 (tCons (tVar 0) (tCons (tVar 2) (tNil)))) (tCons (tLst (tNil)) (tNil)))) (gTup Γ.K 2 (gCons (gName 3) (gCons (gName 4)
   (gNil))))) (tSeq (tFor (gIter Γ.K (tVar 1)) (gTup Γ.K 2 (gCons (gName 5) (gCons (gName 6) (gNil)))) (tSeq (tAsg (tFn (sp_law_up Γ) E0 (tCons (tVar 0) (tCons (tVar 5)
   (tNil)))) (gName 7)) (tSeq (tAsg (tCB (gMin Γ.K) (tCons (tOp (gAdd Γ.K) (tLst (tCons (tVar 6) (tNil))) (tLc (gIter Γ.K (tVar 7)) (gName 9) (tYes) (tOp (gIx Γ.K) (tVar
   3) (tVar 9)) [9])) (tNil))) (gName 8)) (tSeq (tFor (gIter Γ.K (tVar 7)) (gName 9) (tAsg (tOp (gDif) (tOp (gIx Γ.K) (tVar 3) (tVar 9)) (tVar 8)) (L2.gSub (tVar 3) (tVar
   9) gSet))) (tDrop (tBM Γ.K "list" rAppend (tVar 4) (tCons (tVar 8) tNil))))))) (tRet (tVar 4)))
def d_law_entitled_b1 : DQ := dSetO 3 (dVar 9) (dOp fSub (dOp fIx (dVar 3) (dVar 9)) (dVar 8))
def d_law_entitled_b2 : DQ := dSeq (dAsg (dFn dp_law_up (dCons (dVarS 0) (dCons (dVarS 5) (dNil)))) 7) (dSeq (dAsg (dCB fMin (dCons (dOp fAdd (dLst (dCons (dVarS 6) (dNil))) (dLc (dIter (dVar 7))
   (dName 9) (dYes) (dOp fIx (dVar 3) (dVar 9)) [9])) (dNil))) 8) (dSeq (dFor (dIter (dVarS 7)) (dName 9) (d_law_entitled_b1)) (dApp 4 (dVarS 8))))
def d_law_entitled : DQ := dSeq (dPar true true 3 4 (dFn dp_law_whole (dCons (dVarS 0) (dCons (dVarS 2) (dNil)))) (dLst (dNil))) (dSeq (dFor (dIter (dVarS 1)) (dTup2 5 6) (d_law_entitled_b2))
   (dRetV 4))
theorem snd_law_entitled {Γ : Cn} {L : LS} : SS Γ L 0 (t_law_entitled Γ) d_law_entitled := by
  unfold t_law_entitled d_law_entitled d_law_entitled_b2 d_law_entitled_b1
  exact s_seq (s_parT (k1 := true) (k2 := true) 3 4 (s_fnF (s := dp_law_whole) (cf := 0) (s_cons (s_varS 0) (s_cons (s_varS 2) (s_nil)))) (s_lst (s_nil))) (s_seq (s_for (s_iter
   (s_varS 1)) (s_tup2 5 6) (s_seq (s_asg 7 (SF.e (s_fnF (s := dp_law_up) (cf := 0) (s_cons (s_varS 0) (s_cons (s_varS 5) (s_nil)))))) (s_seq (s_asg 8 (s_cb k_min
   (s_consT (SE.t (s_op o_add (SF.t (s_lst (s_cons (s_varS 6) (s_nil)))) (SF.t (s_lc (s_iterT (s_var 7)) (s_name 9) (s_yes) (s_op o_ix (s_var 3) (s_var 9))))))
   (s_nilT)))) (s_seq (s_for (s_iter (s_varS 7)) (s_name 9) (s_setO 3 (s_op o_sub (SE.t (s_op o_ix (s_var 3) (s_var 9))) (s_var 8)) (s_var 9))) (s_app 4 (s_varS 8))))))
   (s_retV 4))
def dp_law_entitled : DSp := dpOfF 10 d_law_entitled
def sp_law_entitled (Γ : Cn) : Sp := liftF Γ 3 0 dp_law_entitled
def r_law_entitled_b1 : RQ := rSetO 3 (rVar 9) (rOp fSub (rOp fIx (rVar 3) (rVar 9)) (rVar 8))
def r_law_entitled_b2 : RQ := rSeq (rAsg (rFn R_law_up (rCons (rVarS 0) (rCons (rVarS 5) (rNil)))) 7) (rSeq (rAsg (rCB fMin (rCons (rOp fAdd (rLst (rCons (rVarS 6) (rNil))) (rLc (rIter (rVar 7))
   (rName 9) (rYes) (rOp fIx (rVar 3) (rVar 9)) [9])) (rNil))) 8) (rSeq (rFor (rIter (rVarS 7)) (rName 9) (r_law_entitled_b1)) (rApp 4 (rVarS 8))))
def r_law_entitled : RQ := rSeq (rPar true true 3 4 (rFn R_law_whole (rCons (rVarS 0) (rCons (rVarS 2) (rNil)))) (rLst (rNil))) (rSeq (rFor (rIter (rVarS 1)) (rTup2 5 6) (r_law_entitled_b2)) (rRetV
   true 4))
def R_law_entitled : List D → Option D := runOfF 10 r_law_entitled
theorem ag_law_entitled : AgF dp_law_entitled R_law_entitled := by
  refine ag_ofF ?_
  unfold d_law_entitled r_law_entitled d_law_entitled_b2 r_law_entitled_b2 d_law_entitled_b1 r_law_entitled_b1
  exact a_seq (a_par (a_fn ag_law_whole (a_cons (a_varS 0) (a_cons (a_varS 2) (a_nil)))) (a_lst (a_nil))) (a_seq (a_for (a_iter (a_varS 1)) (a_tup2 5 6) (a_seq (a_asg (a_fn
   ag_law_up (a_cons (a_varS 0) (a_cons (a_varS 5) (a_nil))))) (a_seq (a_asg (a_cb (a_cons (a_op (a_lst (a_cons (a_varS 6) (a_nil))) (a_lc (a_iter (a_var 7)) (a_name 9)
   (a_yes) (a_op (a_var 3) (a_var 9)))) (a_nil)))) (a_seq (a_for (a_iter (a_varS 7)) (a_name 9) (a_setO (a_var 9) (a_op (a_op (a_var 3) (a_var 9)) (a_var 8)))) (a_app
   (a_varS 8)))))) (a_retV))
/-! _law_differences: slots 0 _law_before 1 _law_after 2 _law_old 3 _law_new; calls ; cost 0; new; draws nothing -/
def t_law_differences (Γ : Cn) : TS := tRet (tLc (iZip Γ.K (tCons (tVar 0) (tCons (tVar 1) (tNil)))) (gTup Γ.K 2 (gCons (gName 2) (gCons (gName 3) (gNil)))) (tYes) (tOp (gDif) (tVar 3) (tVar 2)) [2, 3])
def d_law_differences : DQ := dRetF (dLc (dZip (dCons (dVarS 0) (dCons (dVarS 1) (dNil)))) (dTup2 2 3) (dYes) (dOp fSub (dVar 3) (dVar 2)) [2, 3])
theorem snd_law_differences {Γ : Cn} {L : LS} : SS Γ L 0 (t_law_differences Γ) d_law_differences := by
  unfold t_law_differences d_law_differences
  exact s_retF (s_lc (s_zip (s_cons (s_varS 0) (s_cons (s_varS 1) (s_nil)))) (s_tup2 2 3) (s_yes) (s_op o_sub (s_var 3) (s_var 2)))
def dp_law_differences : DSp := dpOfF 4 d_law_differences
def sp_law_differences (Γ : Cn) : Sp := liftF Γ 2 0 dp_law_differences
def r_law_differences : RQ := rRet (rLc (rZip (rCons (rVarS 0) (rCons (rVarS 1) (rNil)))) (rTup2 2 3) (rYes) (rOp fSub (rVar 3) (rVar 2)) [2, 3])
def R_law_differences : List D → Option D := runOfF 4 r_law_differences
theorem ag_law_differences : AgF dp_law_differences R_law_differences := by
  refine ag_ofF ?_
  unfold d_law_differences r_law_differences
  exact a_retF (a_lc (a_zip (a_cons (a_varS 0) (a_cons (a_varS 1) (a_nil)))) (a_tup2 2 3) (a_yes) (a_op (a_var 3) (a_var 2)))
/-! need_rank: slots 0 claims 1 rank; calls is_between; cost 0; draws nothing -/
def t_need_rank (Γ : Cn) : TS := tIfS (tNot (tTru Γ.K (tFn (sp_is_between Γ) E0 (tCons (tVar 1) (tCons (tC (.int 0)) (tCons (tOp (gDif) (tCB (gLen Γ.K) (tCons (tVar 0) (tNil))) (tC (.int 1)))
   (tNil))))))) (tNever) (tNext)
def d_need_rank : DQ := dIfS (dNot (dTru (dFn dp_is_between (dCons (dVarS 1) (dCons (dC (.int 0)) (dCons (dOp fSub (dCB fLen (dCons (dVar 0) (dNil))) (dC (.int 1))) (dNil))))))) ((fun _ _ =>
   False)) (dNext)
theorem snd_need_rank {Γ : Cn} {L : LS} : SS Γ L 0 (t_need_rank Γ) d_need_rank := by
  unfold t_need_rank d_need_rank
  exact s_if (s_not (s_tru (SE.t (s_fn (s := dp_is_between) (cf := 0) (s_cons (s_varS 1) (s_cons (s_c fun _ => .int _) (s_cons (s_op o_sub (SE.t (s_cb k_len (s_consT (s_var 0)
   (s_nilT)))) (SE.t (s_c fun _ => .int _))) (s_nil)))))))) (s_never) (s_next)
def dp_need_rank : DSp := dpOf 2 d_need_rank
def sp_need_rank (Γ : Cn) : Sp := lift Γ 2 0 dp_need_rank
def r_need_rank : RQ := rIfS (rNot (rTru (rFn R_is_between (rCons (rVarS 1) (rCons (rC (.int 0)) (rCons (rOp fSub (rCB fLen (rCons (rVar 0) (rNil))) (rC (.int 1))) (rNil))))))) (rNever) (rNext)
def R_need_rank : List D → Option D := runOf 2 r_need_rank
theorem ag_need_rank : AgF dp_need_rank R_need_rank := by
  refine ag_of ?_
  unfold d_need_rank r_need_rank
  exact a_ifS (a_not (a_tru (a_fn ag_is_between (a_cons (a_varS 1) (a_cons (a_c _) (a_cons (a_op (a_cb (a_cons (a_var 0) (a_nil))) (a_c _)) (a_nil))))))) (a_never) (a_next)
/-! differences: slots 0 before 1 after 2 old 3 new; calls ; cost 0; new; draws nothing -/
def t_differences (Γ : Cn) : TS := tRet (tLc (iZip Γ.K (tCons (tVar 0) (tCons (tVar 1) (tNil)))) (gTup Γ.K 2 (gCons (gName 2) (gCons (gName 3) (gNil)))) (tYes) (tOp (gDif) (tVar 3) (tVar 2)) [2, 3])
def d_differences : DQ := dRetF (dLc (dZip (dCons (dVarS 0) (dCons (dVarS 1) (dNil)))) (dTup2 2 3) (dYes) (dOp fSub (dVar 3) (dVar 2)) [2, 3])
theorem snd_differences {Γ : Cn} {L : LS} : SS Γ L 0 (t_differences Γ) d_differences := by
  unfold t_differences d_differences
  exact s_retF (s_lc (s_zip (s_cons (s_varS 0) (s_cons (s_varS 1) (s_nil)))) (s_tup2 2 3) (s_yes) (s_op o_sub (s_var 3) (s_var 2)))
def dp_differences : DSp := dpOfF 4 d_differences
def sp_differences (Γ : Cn) : Sp := liftF Γ 2 0 dp_differences
def r_differences : RQ := rRet (rLc (rZip (rCons (rVarS 0) (rCons (rVarS 1) (rNil)))) (rTup2 2 3) (rYes) (rOp fSub (rVar 3) (rVar 2)) [2, 3])
def R_differences : List D → Option D := runOfF 4 r_differences
theorem ag_differences : AgF dp_differences R_differences := by
  refine ag_ofF ?_
  unfold d_differences r_differences
  exact a_retF (a_lc (a_zip (a_cons (a_varS 0) (a_cons (a_varS 1) (a_nil)))) (a_tup2 2 3) (a_yes) (a_op (a_var 3) (a_var 2)))
/-! release_effect: slots 0 forest 1 claims 2 balances 3 rank 4 less 5 account 6 claim 7 smaller; calls need_claims need_balances need_rank is_between differences entitled_by; cost 0; new; draws nothing -/
def t_release_effect (Γ : Cn) : TS := tSeq (tDrop (tFn (sp_need_claims Γ) E0 (tCons (tVar 0) (tCons (tVar 1) (tNil))))) (tSeq (tDrop (tFn (sp_need_balances Γ) E0 (tCons (tVar 0) (tCons (tVar 2) (tNil)))))
   (tSeq (tDrop (tFn (sp_need_rank Γ) E0 (tCons (tVar 1) (tCons (tVar 3) (tNil))))) (tSeq (tAsg (tOp (gIx Γ.K) (tVar 1) (tVar 3)) (gTup Γ.K 2 (gCons (gName 5) (gCons
   (gName 6) (gNil))))) (tSeq (tIfS (tNot (tTru Γ.K (tFn (sp_is_between Γ) E0 (tCons (tVar 4) (tCons (tC (.int 0)) (tCons (tVar 6) (tNil))))))) (tNever) (tNext)) (tSeq
   (tAsg (tCB (gList Γ.K) (tCons (tVar 1) (tNil))) (gName 7)) (tSeq (tAsg (tTup (tCons (tVar 5) (tCons (tOp (gDif) (tVar 6) (tVar 4)) (tNil)))) (L2.gSub (tVar 7) (tVar 3)
   gSet)) (tRet (tFn (sp_differences Γ) E0 (tCons (tFn (sp_entitled_by Γ) E0 (tCons (tVar 0) (tCons (tVar 1) (tCons (tVar 2) (tNil))))) (tCons (tFn (sp_entitled_by Γ) E0
   (tCons (tVar 0) (tCons (tVar 7) (tCons (tVar 2) (tNil))))) (tNil)))))))))))
def d_release_effect : DQ := dSeq (dDrop (dFn dp_need_claims (dCons (dVarS 0) (dCons (dVarS 1) (dNil))))) (dSeq (dDrop (dFn dp_need_balances (dCons (dVarS 0) (dCons (dVarS 2) (dNil))))) (dSeq (dDrop
   (dFn dp_need_rank (dCons (dVarS 1) (dCons (dVarS 3) (dNil))))) (dSeq (dAsgG (dOp fIx (dVar 1) (dVar 3)) (dTup2 5 6)) (dSeq (dIfS (dNot (dTru (dFn dp_is_between (dCons
   (dVarS 4) (dCons (dC (.int 0)) (dCons (dVarS 6) (dNil))))))) ((fun _ _ => False)) (dNext)) (dSeq (dAsgO (dCB fList (dCons (dVar 1) (dNil))) 7) (dSeq (dSetO 7 (dVar 3)
   (dTup (dCons (dVarS 5) (dCons (dOp fSub (dVar 6) (dVar 4)) (dNil))))) (dFrz 7 (dRetF (dFn dp_differences (dCons (dFn dp_entitled_by (dCons (dVarS 0) (dCons (dVarS 1)
   (dCons (dVarS 2) (dNil))))) (dCons (dFn dp_entitled_by (dCons (dVarS 0) (dCons (dVarS 7) (dCons (dVarS 2) (dNil))))) (dNil))))))))))))
theorem snd_release_effect {Γ : Cn} {L : LS} : SS Γ L 0 (t_release_effect Γ) d_release_effect := by
  unfold t_release_effect d_release_effect
  exact s_seq (s_drop (SE.t (s_fn (s := dp_need_claims) (cf := 0) (s_cons (s_varS 0) (s_cons (s_varS 1) (s_nil)))))) (s_seq (s_drop (SE.t (s_fn (s := dp_need_balances) (cf := 0)
   (s_cons (s_varS 0) (s_cons (s_varS 2) (s_nil)))))) (s_seq (s_drop (SE.t (s_fn (s := dp_need_rank) (cf := 0) (s_cons (s_varS 1) (s_cons (s_varS 3) (s_nil)))))) (s_seq
   (s_asgG (s_op o_ix (s_var 1) (s_var 3)) (s_tup2 5 6)) (s_seq (s_if (s_not (s_tru (SE.t (s_fn (s := dp_is_between) (cf := 0) (s_cons (s_varS 4) (s_cons (s_c fun _ =>
   .int _) (s_cons (s_varS 6) (s_nil)))))))) (s_never) (s_next)) (s_seq (s_asgO 7 (s_cbF k_list (s_consT (s_var 1) (s_nilT)))) (s_seq (s_setO 7 (s_tup (s_cons (s_varS 5)
   (s_cons (s_op o_sub (s_var 6) (s_var 4)) (s_nil)))) (s_var 3)) (s_frz 7 (s_retF (s_fnF (s := dp_differences) (cf := 0) (s_cons (SF.e (s_fnF (s := dp_entitled_by) (cf
   := 0) (s_cons (s_varS 0) (s_cons (s_varS 1) (s_cons (s_varS 2) (s_nil)))))) (s_cons (SF.e (s_fnF (s := dp_entitled_by) (cf := 0) (s_cons (s_varS 0) (s_cons (s_varS 7)
   (s_cons (s_varS 2) (s_nil)))))) (s_nil))))))))))))
def dp_release_effect : DSp := dpOfF 8 d_release_effect
def sp_release_effect (Γ : Cn) : Sp := liftF Γ 5 0 dp_release_effect
def r_release_effect : RQ := rSeq (rDrop (rFn R_need_claims (rCons (rVarS 0) (rCons (rVarS 1) (rNil))))) (rSeq (rDrop (rFn R_need_balances (rCons (rVarS 0) (rCons (rVarS 2) (rNil))))) (rSeq (rDrop
   (rFn R_need_rank (rCons (rVarS 1) (rCons (rVarS 3) (rNil))))) (rSeq (rAsgG (rOp fIx (rVar 1) (rVar 3)) (rTup2 5 6)) (rSeq (rIfS (rNot (rTru (rFn R_is_between (rCons
   (rVarS 4) (rCons (rC (.int 0)) (rCons (rVarS 6) (rNil))))))) (rNever) (rNext)) (rSeq (rAsgO (rCB fList (rCons (rVar 1) (rNil))) 7) (rSeq (rSetO 7 (rVar 3) (rTup (rCons
   (rVarS 5) (rCons (rOp fSub (rVar 6) (rVar 4)) (rNil))))) (rFrz 7 (rRet (rFn R_differences (rCons (rFn R_entitled_by (rCons (rVarS 0) (rCons (rVarS 1) (rCons (rVarS 2)
   (rNil))))) (rCons (rFn R_entitled_by (rCons (rVarS 0) (rCons (rVarS 7) (rCons (rVarS 2) (rNil))))) (rNil))))))))))))
def R_release_effect : List D → Option D := runOfF 8 r_release_effect
theorem ag_release_effect : AgF dp_release_effect R_release_effect := by
  refine ag_ofF ?_
  unfold d_release_effect r_release_effect
  exact a_seq (a_drop (a_fn ag_need_claims (a_cons (a_varS 0) (a_cons (a_varS 1) (a_nil))))) (a_seq (a_drop (a_fn ag_need_balances (a_cons (a_varS 0) (a_cons (a_varS 2)
   (a_nil))))) (a_seq (a_drop (a_fn ag_need_rank (a_cons (a_varS 1) (a_cons (a_varS 3) (a_nil))))) (a_seq (a_asgG (a_op (a_var 1) (a_var 3)) (a_tup2 5 6)) (a_seq (a_ifS
   (a_not (a_tru (a_fn ag_is_between (a_cons (a_varS 4) (a_cons (a_c _) (a_cons (a_varS 6) (a_nil))))))) (a_never) (a_next)) (a_seq (a_asgO (a_cb (a_cons (a_var 1)
   (a_nil)))) (a_seq (a_setO (a_var 3) (a_tup (a_cons (a_varS 5) (a_cons (a_op (a_var 6) (a_var 4)) (a_nil))))) (a_frz (a_retF (a_fn ag_differences (a_cons (a_fn
   ag_entitled_by (a_cons (a_varS 0) (a_cons (a_varS 1) (a_cons (a_varS 2) (a_nil))))) (a_cons (a_fn ag_entitled_by (a_cons (a_varS 0) (a_cons (a_varS 7) (a_cons (a_varS
   2) (a_nil))))) (a_nil))))))))))))
/-! _law_is_number: slots 0 _law_value; calls ; cost 0; draws nothing -/
def t_law_is_number (Γ : Cn) : TS := tRet (tAndV (tCB (gIsi Γ.K) (tCons (tVar 0) (tCons (tC (.ty "int")) (tNil)))) (tNotV (tCB (gIsi Γ.K) (tCons (tVar 0) (tCons (tC (.ty "bool")) (tNil))))))
def d_law_is_number : DQ := dRet (dAndV (dCB fIsi (dCons (dVar 0) (dCons (dC (.ty "int")) (dNil)))) (dNotV (dCB fIsi (dCons (dVar 0) (dCons (dC (.ty "bool")) (dNil))))))
theorem snd_law_is_number {Γ : Cn} {L : LS} : SS Γ L 0 (t_law_is_number Γ) d_law_is_number := by
  unfold t_law_is_number d_law_is_number
  exact s_ret (s_andV (SE.t (s_cb k_isi (s_consT (s_var 0) (s_consT (SE.t (s_c fun _ => .ty _)) (s_nilT))))) (s_notV (SE.t (s_cb k_isi (s_consT (s_var 0) (s_consT (SE.t (s_c fun
   _ => .ty _)) (s_nilT)))))))
def dp_law_is_number : DSp := dpOf 1 d_law_is_number
def sp_law_is_number (Γ : Cn) : Sp := lift Γ 1 0 dp_law_is_number
def r_law_is_number : RQ := rRet (rAndV (rCB fIsi (rCons (rVar 0) (rCons (rC (.ty "int")) (rNil)))) (rNotV (rCB fIsi (rCons (rVar 0) (rCons (rC (.ty "bool")) (rNil))))))
def R_law_is_number : List D → Option D := runOf 1 r_law_is_number
theorem ag_law_is_number : AgF dp_law_is_number R_law_is_number := by
  refine ag_of ?_
  unfold d_law_is_number r_law_is_number
  exact a_ret (a_andV (a_cb (a_cons (a_var 0) (a_cons (a_c _) (a_nil)))) (a_notV (a_cb (a_cons (a_var 0) (a_cons (a_c _) (a_nil))))))
/-! _law_are_numbers: slots 0 _law_value 1 _law_one; calls _law_is_number; cost 0; draws nothing -/
def t_law_are_numbers (Γ : Cn) : TS := tRet (tAndV (tCB (gIsi Γ.K) (tCons (tVar 0) (tCons (tC (.ty "list")) (tNil)))) (tOp (gEq Γ.K) (tLc (gIter Γ.K (tVar 0)) (gName 1) (tNot (tTru Γ.K (tFn (sp_law_is_number
   Γ) E0 (tCons (tVar 1) (tNil))))) (tVar 1) [1]) (tLst (tNil))))
def d_law_are_numbers : DQ := dRet (dAndV (dCB fIsi (dCons (dVar 0) (dCons (dC (.ty "list")) (dNil)))) (dOp fEq (dLc (dIter (dVar 0)) (dName 1) (dNot (dTru (dFn dp_law_is_number (dCons (dVarS 1)
   (dNil))))) (dVarS 1) [1]) (dLst (dNil))))
theorem snd_law_are_numbers {Γ : Cn} {L : LS} : SS Γ L 0 (t_law_are_numbers Γ) d_law_are_numbers := by
  unfold t_law_are_numbers d_law_are_numbers
  exact s_ret (s_andV (SE.t (s_cb k_isi (s_consT (s_var 0) (s_consT (SE.t (s_c fun _ => .ty _)) (s_nilT))))) (s_op o_eq (SF.t (s_lc (s_iterT (s_var 0)) (s_name 1) (s_not (s_tru
   (SE.t (s_fn (s := dp_law_is_number) (cf := 0) (s_cons (s_varS 1) (s_nil)))))) (s_varS 1))) (SF.t (s_lst (s_nil)))))
def dp_law_are_numbers : DSp := dpOf 2 d_law_are_numbers
def sp_law_are_numbers (Γ : Cn) : Sp := lift Γ 1 0 dp_law_are_numbers
def r_law_are_numbers : RQ := rRet (rAndV (rCB fIsi (rCons (rVar 0) (rCons (rC (.ty "list")) (rNil)))) (rOp fEq (rLc (rIter (rVar 0)) (rName 1) (rNot (rTru (rFn R_law_is_number (rCons (rVarS 1)
   (rNil))))) (rVarS 1) [1]) (rLst (rNil))))
def R_law_are_numbers : List D → Option D := runOf 2 r_law_are_numbers
theorem ag_law_are_numbers : AgF dp_law_are_numbers R_law_are_numbers := by
  refine ag_of ?_
  unfold d_law_are_numbers r_law_are_numbers
  exact a_ret (a_andV (a_cb (a_cons (a_var 0) (a_cons (a_c _) (a_nil)))) (a_op (a_lc (a_iter (a_var 0)) (a_name 1) (a_not (a_tru (a_fn ag_law_is_number (a_cons (a_varS 1)
   (a_nil))))) (a_varS 1)) (a_lst (a_nil))))
end GP

set_option Elab.async false
set_option linter.all false
set_option maxRecDepth 100000
set_option maxHeartbeats 400000
/-! S14: the laws' own entitlements, differences, numbers; release_effect. -/
namespace GP
open PySem PySem.Spec PyProof.Rows L2
/-- slots: rows wants funds left found account claim line amount name -/
def leS (rows : List Row) (cl bl : D) (s : (Str → Int) × List Int) (a b c d e : Option Sl) : DS := [some (.sh (.lst (rows.map rowD))), some (.sh cl), some (.sh bl), some (.ow (.dct (mapK (nms rows) s.1))), some (.ow (.lst (s.2.map .int))), a, b, c, d, e]
theorem le_loop {rows : List Row} (ok : OkF rows) (cl bl : D) (f : Str → Int) (l : List Int) (v : Int) (a b c : Option Sl) : ∀ (ns : List Str) (e : Option Sl), (∀ n ∈ ns, n ∈ nms rows) →
    ∃ e', rForL (rName 9) r_law_entitled_b1 (ns.map .str) (leS rows cl bl (f, l) a b c (some (.sh (.int v))) e) = some (.nx (leS rows cl bl (bumps f ns (-v), l) a b c (some (.sh (.int v))) e')) := by
  intro ns e hns
  obtain ⟨δ', h1, e', h2⟩ := for_fold (α := Str) (S := Str → Int) (g := rName 9) (b := r_law_entitled_b1) (e := D.str) (fun f δ => ∃ e', δ = leS rows cl bl (f, l) a b c (some (.sh (.int v))) e') (fun f n => bump f n (-v)) ns f (leS rows cl bl (f, l) a b c (some (.sh (.int v))) e) ⟨e, rfl⟩ (fun n hm f δ ⟨e', q⟩ => by
    subst q
    refine ⟨_, ?_, some (.sh (.str n)), rfl⟩
    have hn' := hns n hm
    have hl : (nms rows).length ≤ 1000 := by
      have := ok.le
      unfold nms
      rw [List.length_map]
      omega
    have hs := set_mapK ok.nd hl f hn' (-v)
    rw [← Int.sub_eq_add_neg] at hs
    simp [r_law_entitled_b1, rSetO, leS, ix_mapK f hn', hs])
  subst h2
  exact ⟨e', h1⟩
theorem le_body {rows : List Row} (ok : OkF rows) (cl bl : D) (s : (Str → Int) × List Int) (hs : s.2.length < 100000) (c : Str × Int) (hc : c.1 ∈ nms rows) (a0 b0 c0 d0 e0 : Option Sl) :
    ∃ a b c' d e, ((rTup2 5 6 (clD c) (leS rows cl bl s a0 b0 c0 d0 e0)).bind r_law_entitled_b2) = some (.nx (leS rows cl bl (stepE rows s c) a b c' d e)) := by
  obtain ⟨f, l⟩ := s
  obtain ⟨n, k⟩ := c
  have hN : ∀ b ∈ anc rows n, b ∈ nms rows := fun b hb => anc_in ok hc hb
  obtain ⟨e', hloop⟩ := le_loop ok cl bl f l (mnL k ((anc rows n).map f)) (some (.sh (.str n))) (some (.sh (.int k))) (some (.sh (.lst ((anc rows n).map .str)))) (anc rows n) e0 hN
  refine ⟨some (.sh (.str n)), some (.sh (.int k)), some (.sh (.lst ((anc rows n).map .str))), some (.sh (.int (mnL k ((anc rows n).map f)))), e', ?_⟩
  have h1 : ∀ x8, compL (lcStep (rName 9) rYes (rOp fIx (rVar 3) (rVar 9)) ([some (.sh (.lst (rows.map rowD))), some (.sh cl), some (.sh bl), some (.ow (.dct (mapK (nms rows) f))), some (.ow (.lst (l.map .int))), some (.sh (.str n)), some (.sh (.int k)), some (.sh (.lst ((anc rows n).map .str))), x8, none] : DS)) ((anc rows n).map .str) = some ((anc rows n).map fun b => .int (f b)) := fun x8 => by
    refine compL_map fun b hb => ?_
    simp [ix_mapK f (hN b hb)]
  have hL : (anc rows n).length + 1 ≤ LIM := by
    have := anc_len rows n
    show _ ≤ 1000000
    omega
  have h2 : fAdd (.lst [.int k]) (.lst ((anc rows n).map fun b => .int (f b))) = some (.lst (.int k :: (anc rows n).map fun b => .int (f b))) := by
    show (if [D.int k].length + ((anc rows n).map fun b => D.int (f b)).length ≤ LIM then _ else _) = _
    rw [if_pos (by simp; omega)]
    rfl
  have hs' : l.length < LIM := by show _ < 1000000; have : l.length < 100000 := hs; omega
  have hb : mapK (nms rows) (bumps f (anc rows n) (-(mnL k ((anc rows n).map f)))) = mapK (nms rows) (stepE rows (f, l) (n, k)).1 := by
    unfold mapK
    refine List.map_congr_left fun m _ => ?_
    rw [bumps_eq _ _ _ _ (anc_nodup ok hc)]
    by_cases h : m ∈ anc rows n
    · simp [stepE, h]; omega
    · simp [stepE, h]
  unfold leS at hloop ⊢
  rw [hb] at hloop
  simp [-x_lcStep, r_law_entitled_b2, clD, R_up ok hc, h1, h2, fMin_cons, hloop, rApp, hs', stepE]
theorem R_lentitled {rows : List Row} (ok : OkF rows) {cs : List (Str × Int)} (hc : ∀ c ∈ cs, c.1 ∈ nms rows) (hl : cs.length ≤ 1000) {bs : List (Str × Int)} (nd : (bs.map (·.1)).Nodup) (hb : ∀ p ∈ bs, p.1 ∈ nms rows) :
    R_law_entitled [.lst (rows.map rowD), .lst (cs.map clD), .dct (balK bs)] = some (.lst ((ent rows (tot rows (balOf bs)) cs).map .int)) := by
  obtain ⟨δ', h1, i, a, b, c, d, e, h2⟩ := for_foldI (α := Str × Int) (S := (Str → Int) × List Int) (g := rTup2 5 6) (b := r_law_entitled_b2) (e := clD) (fun i s δ => s.2.length ≤ i ∧ ∃ a b c d e, δ = leS rows (.lst (cs.map clD)) (.dct (balK bs)) s a b c d e) (stepE rows) cs 0 (tot rows (balOf bs), []) (leS rows (.lst (cs.map clD)) (.dct (balK bs)) (tot rows (balOf bs), []) none none none none none) ⟨Nat.le_refl _, none, none, none, none, none, rfl⟩ (fun i c hm s δ ⟨hi, a, b, c0, d, e, q⟩ => by
    subst q
    have hlt := (List.getElem?_eq_some_iff.mp hm).1
    obtain ⟨a', b', c', d', e', h'⟩ := le_body ok (.lst (cs.map clD)) (.dct (balK bs)) s (by omega) c (hc c (List.mem_of_getElem? hm)) a b c0 d e
    exact ⟨_, h', by simp [stepE]; omega, a', b', c', d', e', rfl⟩)
  subst h2
  unfold leS at h1
  simp [R_law_entitled, runOfF, r_law_entitled, R_whole ok nd hb, rRetV] at h1 ⊢
  simp [h1, ent]
/-! ### differences -/
def difs (a b : List Int) : List Int := List.zipWith (fun o n => n - o) a b
theorem zip_ints (a b : List Int) : List.zipWith (fun x y => D.tup [x, y]) (a.map .int) (b.map .int) = (a.zip b).map fun p => .tup [.int p.1, .int p.2] := by
  rw [List.zipWith_map, List.zip, List.map_zipWith]
theorem R_ldifferences (a b : List Int) : R_law_differences [.lst (a.map .int), .lst (b.map .int)] = some (.lst ((difs a b).map .int)) := by
  have hz : zipD [.lst (a.map .int), .lst (b.map .int)] = some ((a.zip b).map fun p => .tup [.int p.1, .int p.2]) := by
    show some (List.zipWith (fun x y => D.tup [x, y]) (a.map .int) (b.map .int)) = _
    rw [zip_ints]
  have hc : compL (lcStep (rTup2 2 3) rYes (rOp fSub (rVar 3) (rVar 2)) ([some (.sh (.lst (a.map .int))), some (.sh (.lst (b.map .int))), none, none] : DS)) ((a.zip b).map fun p => .tup [.int p.1, .int p.2]) = some ((a.zip b).map fun p => .int (p.2 - p.1)) := by
    refine compL_map fun p _ => ?_
    simp
  have hd : (difs a b).map D.int = (a.zip b).map fun p => .int (p.2 - p.1) := by
    unfold difs
    rw [List.zip, List.map_zipWith, List.map_zipWith]
  rw [hd]
  simp [-x_lcStep, R_law_differences, runOfF, r_law_differences, hz, hc]
theorem R_differences_ok (a b : List Int) : R_differences [.lst (a.map .int), .lst (b.map .int)] = some (.lst ((difs a b).map .int)) := by
  have hz : zipD [.lst (a.map .int), .lst (b.map .int)] = some ((a.zip b).map fun p => .tup [.int p.1, .int p.2]) := by
    show some (List.zipWith (fun x y => D.tup [x, y]) (a.map .int) (b.map .int)) = _
    rw [zip_ints]
  have hc : compL (lcStep (rTup2 2 3) rYes (rOp fSub (rVar 3) (rVar 2)) ([some (.sh (.lst (a.map .int))), some (.sh (.lst (b.map .int))), none, none] : DS)) ((a.zip b).map fun p => .tup [.int p.1, .int p.2]) = some ((a.zip b).map fun p => .int (p.2 - p.1)) := by
    refine compL_map fun p _ => ?_
    simp
  have hd : (difs a b).map D.int = (a.zip b).map fun p => .int (p.2 - p.1) := by
    unfold difs
    rw [List.zip, List.map_zipWith, List.map_zipWith]
  rw [hd]
  simp [-x_lcStep, R_differences, runOfF, r_differences, hz, hc]
theorem R_lis_number (i : Int) : R_law_is_number [.int i] = some (.bl true) := by
  simp [R_law_is_number, runOf, r_law_is_number]
theorem compL_none {f : D → Option (Option D)} : ∀ {xs : List D}, (∀ x ∈ xs, f x = some none) → compL f xs = some []
  | [], _ => rfl
  | x :: xs, q => by
    rw [compL, q x List.mem_cons_self, compL_none fun y m => q y (List.mem_cons_of_mem _ m)]
    rfl
theorem R_lare_numbers (a : List Int) : R_law_are_numbers [.lst (a.map .int)] = some (.bl true) := by
  have hc : compL (lcStep (rName 1) (rNot (rTru (rFn R_law_is_number (rCons (rVarS 1) rNil)))) (rVarS 1) ([some (.sh (.lst (a.map .int))), none] : DS)) (a.map .int) = some [] := by
    refine compL_none fun x hx => ?_
    obtain ⟨i, _, rfl⟩ := List.mem_map.mp hx
    simp [R_lis_number]
  have he : fEq (.lst []) (.lst []) = some (.bl true) := eq_ints [] []
  simp [-x_lcStep, R_law_are_numbers, runOf, r_law_are_numbers, hc, he]
/-! ### release_effect -/
theorem R_need_rank_ok {cl : D} {cs : List (Str × Int)} (h : cl = .lst (cs.map clD) ∨ cl = .tup (cs.map clD)) {k : Nat} (hk : k < cs.length) : R_need_rank [cl, .int k] = some .non := by
  have h1 : ¬ ((cs.length : Int) - 1 < k) := by omega
  simp [R_need_rank, runOf, r_need_rank, len_cl h, R_is_between_i, h1]
theorem fIx_cl {cl : D} {cs : List (Str × Int)} (h : cl = .lst (cs.map clD) ∨ cl = .tup (cs.map clD)) {k : Nat} {c : Str × Int} (hk : cs[k]? = some c) : fIx cl (.int k) = some (clD c) := by
  rcases h with rfl | rfl
  · exact fIx_nat clD hk
  · exact fIx_nat clD hk
theorem list_cl {cl : D} {cs : List (Str × Int)} (h : cl = .lst (cs.map clD) ∨ cl = .tup (cs.map clD)) : fList [cl] = some (.lst (cs.map clD)) := by
  rcases h with rfl | rfl <;> rfl
theorem set_nat {xs : List D} {k : Nat} (hk : k < xs.length) (v : D) : setD (.lst xs) (.int k) v = some (.lst (xs.set k v)) := by
  show (ixN xs.length k).map (fun j => D.lst (xs.set j v)) = _
  unfold ixN
  rw [if_pos (by omega), if_pos (by omega)]
  simp
theorem okC_set {rows : List Row} {cs : List (Str × Int)} (oc : OkC rows cs) {k : Nat} {c : Str × Int} (hk : cs[k]? = some c) {x : Int} (h0 : 0 ≤ x) (h1 : x ≤ c.2) : OkC rows (cs.set k (c.1, c.2 - x)) := by
  refine ⟨by rw [List.length_set]; exact oc.le, fun q hq => ?_⟩
  have hm := List.mem_of_getElem? hk
  rcases List.mem_or_eq_of_mem_set hq with h | rfl
  · exact oc.ok q h
  · obtain ⟨a, b, d⟩ := oc.ok c hm
    exact ⟨a, by dsimp only; omega, by dsimp only; omega⟩
theorem R_release {rows : List Row} (ok : OkF rows) {cl : D} {cs : List (Str × Int)} (h : cl = .lst (cs.map clD) ∨ cl = .tup (cs.map clD)) (oc : OkC rows cs) {bs : List (Str × Int)} (ob : OkB rows bs) {k : Nat} {c : Str × Int} (hk : cs[k]? = some c) {x : Int} (h0 : 0 ≤ x) (h1 : x ≤ c.2) :
    R_release_effect [forD rows, cl, .dct (balK bs), .int k, .int x] = some (.lst ((difs (ent rows (tot rows (balOf bs)) cs) (ent rows (tot rows (balOf bs)) (cs.set k (c.1, c.2 - x)))).map .int)) := by
  have hkl := (List.getElem?_eq_some_iff.mp hk).1
  have hle := oc.le
  have oc2 := okC_set oc hk h0 h1
  have hE1 := R_entitled ok h (fun c hc => (oc.ok c hc).1) (by omega) bs
  have hE2 := R_entitled ok (cl := .lst ((cs.set k (c.1, c.2 - x)).map clD)) (.inl rfl) (fun c hc => (oc2.ok c hc).1) (by rw [List.length_set]; omega) bs
  have hset : setD (.lst (cs.map clD)) (.int k) (.tup [.str c.1, .int (c.2 - x)]) = some (.lst ((cs.set k (c.1, c.2 - x)).map clD)) := by
    rw [set_nat (by rw [List.length_map]; exact hkl), List.map_set]
    rfl
  have hbt : (decide ((0 : Int) ≤ x) && decide (x ≤ c.2)) = true := by
    rw [decide_eq_true h0, decide_eq_true h1]; rfl
  have hix := fIx_cl h hk
  have hcl : clD c = .tup [.str c.1, .int c.2] := rfl
  rw [hcl] at hix
  simp [-List.map_set, R_release_effect, runOfF, r_release_effect, R_need_claims_ok h oc, R_need_balances_ok ob, R_need_rank_ok h hkl, hix, R_is_between_i, hbt, list_cl h, rSetO, hset, frz, hE1, hE2, R_differences_ok]
end GP

set_option Elab.async false
set_option linter.all false
set_option maxRecDepth 100000
set_option maxHeartbeats 400000
/-! S15: small things for the ends of laws: names, slices, sums of lists, reprs. -/
namespace GP
open PySem PySem.Spec PyProof.Rows L2
theorem rd_set {δ : DS} {i : Nat} (h : i < δ.length) (x : D) : rdS (δ.set i (some (.sh x))) i = some x := by
  unfold rdS
  rw [List.getElem?_set_self h]
theorem nm_lcG {δ : DS} {i j : Nat} (rows : List Row) (h : rdS δ i = some (.lst (rows.map rowD))) (hj : j < δ.length) : rLc (rIter (rVar i)) (rName j) (rYes) (rOp fIx (rVar j) (rC (.int 0))) [j] δ = some (.lst ((nms rows).map .str)) := by
  have hc : compL (lcStep (rName j) rYes (rOp fIx (rVar j) (rC (.int 0))) (wipeD δ [j])) (rows.map rowD) = some (rows.map fun r => .str r.1) := by
    refine compL_map fun r _ => ?_
    have := rd_set (δ := δ) (i := j) hj (rowD r)
    simp [this]
    rfl
  rw [x_lc, x_iter, x_var, h]
  show ((compL _ (rows.map rowD)).map D.lst) = _
  rw [hc]
  simp [nms]
theorem ag_nmG (i j : Nat) : AgE (dLc (dIter (dVar i)) (dName j) (dYes) (dOp fIx (dVar j) (dC (.int 0))) [j]) (rLc (rIter (rVar i)) (rName j) (rYes) (rOp fIx (rVar j) (rC (.int 0))) [j]) := a_lc (a_iter (a_var i)) (a_name j) a_yes (a_op (a_var j) (a_c _))
theorem pw9 : fPow (.int 10) (.int 9) = some (.int 1000000000) := by rfl
theorem pw12 : fPow (.int 10) (.int 12) = some (.int 1000000000000) := by rfl
theorem wt_cl {c : Str × Int} (h : isNm c.1 = true) (n : Nat) : wtR (n + 1) (clD c) ≤ 200 := by
  have h8 : c.1.length ≤ 8 := (isNm_iff.mp h).2.1
  show ([D.str c.1, D.int c.2].map fun x => wtR n x + 2).sum + 3 ≤ 200
  have e1 : wtR n (.str c.1) = 10 * c.1.length + 2 := by cases n <;> rfl
  have e2 : wtR n (.int c.2) = 62 := by cases n <;> rfl
  simp [e1, e2]
  omega
theorem smIn {i : Int} (h0 : 0 ≤ i) (h1 : i ≤ 1000000000000) : smInt i = true := by
  unfold smInt
  rw [decide_eq_true (by omega), decide_eq_true (by omega)]
  rfl
theorem sm_cl {c : Str × Int} (h : isNm c.1 = true) (h0 : 0 ≤ c.2) (h1 : c.2 ≤ 1000000000000) (n : Nat) : smR (n + 1) (clD c) = true := by
  show ([D.str c.1, D.int c.2].all (smR n)) = true
  have e1 : smR n (.str c.1) = okStr c.1 := by cases n <;> rfl
  have e2 : smR n (.int c.2) = smInt c.2 := by cases n <;> rfl
  simp [e1, e2, isNm_ok h, smIn h0 h1]
/-- a list of pairs of a name and a number -/
theorem sm_cls {cs : List (Str × Int)} (hc2 : ∀ c ∈ cs, isNm c.1 = true ∧ 0 ≤ c.2 ∧ c.2 ≤ 1000000000000) (n : Nat) : smR (n + 2) (.lst (cs.map clD)) = true := by
  show (cs.map clD).all (smR (n + 1)) = true
  rw [List.all_eq_true]
  intro x hx
  obtain ⟨c, hm, rfl⟩ := List.mem_map.mp hx
  obtain ⟨h1, h2, h3⟩ := hc2 c hm
  exact sm_cl h1 h2 h3 n
theorem wt_cls {cs : List (Str × Int)} {m : Nat} (hm : cs.length ≤ m) (hc2 : ∀ c ∈ cs, isNm c.1 = true) (n : Nat) : wtR (n + 2) (.lst (cs.map clD)) ≤ m * 202 + 2 := by
  have h1 : ((cs.map clD).map fun x => wtR (n + 1) x + 2).sum ≤ m * 202 := by
    refine Nat.le_trans (sum_le _ 202 _ fun x hx => ?_) (Nat.mul_le_mul_right _ (by rw [List.length_map]; exact hm))
    obtain ⟨c, hm, rfl⟩ := List.mem_map.mp hx
    have : wtR (n + 1) (clD c) ≤ 200 := wt_cl (hc2 c hm) n
    omega
  show ((cs.map clD).map fun x => wtR (n + 1) x + 2).sum + 2 ≤ _
  omega
theorem sm_bal {bs : List (Str × Int)} (hb2 : ∀ c ∈ bs, isNm c.1 = true ∧ 0 ≤ c.2 ∧ c.2 ≤ 1000000000000) (n : Nat) : smR (n + 2) (.dct (balK bs)) = true := by
  show ((balK bs).all fun kv => smK kv.1 && smR (n + 1) kv.2) = true
  rw [List.all_eq_true]
  intro x hx
  obtain ⟨c, hm, rfl⟩ := List.mem_map.mp hx
  obtain ⟨h1, h2, h3⟩ := hb2 c hm
  show (okStr c.1 && smInt c.2) = true
  rw [isNm_ok h1, smIn h2 h3]
  rfl
theorem wt_bal {bs : List (Str × Int)} {m : Nat} (hm : bs.length ≤ m) (hb2 : ∀ c ∈ bs, isNm c.1 = true) (n : Nat) : wtR (n + 2) (.dct (balK bs)) ≤ m * 200 + 2 := by
  have h2 : ((balK bs).map fun kv => wtK kv.1 + wtR (n + 1) kv.2 + 4).sum ≤ m * 200 := by
    refine Nat.le_trans (sum_le _ 200 _ fun x hx => ?_) (Nat.mul_le_mul_right _ (by unfold balK; rw [List.length_map]; exact hm))
    obtain ⟨c, hm, rfl⟩ := List.mem_map.mp hx
    have h8 : c.1.length ≤ 8 := (isNm_iff.mp (hb2 c hm)).2.1
    show (10 * c.1.length + 2) + 62 + 4 ≤ 200
    omega
  show ((balK bs).map fun kv => wtK kv.1 + wtR (n + 1) kv.2 + 4).sum + 2 ≤ _
  omega
theorem repr_cls {cs : List (Str × Int)} (hc : cs.length ≤ 100) (hc2 : ∀ c ∈ cs, isNm c.1 = true ∧ 0 ≤ c.2 ∧ c.2 ≤ 1000000000000) : fReprR [.lst (cs.map clD)] = some (.raw (pyR DEP (.lst (cs.map clD))).shown) :=
  repr_sm (sm_cls hc2 10) (Nat.le_trans (wt_cls hc (fun c h => (hc2 c h).1) 10) (by decide))
theorem repr_bal {bs : List (Str × Int)} (hb : bs.length ≤ 100) (hb2 : ∀ c ∈ bs, isNm c.1 = true ∧ 0 ≤ c.2 ∧ c.2 ≤ 1000000000000) : fReprR [.dct (balK bs)] = some (.raw (pyR DEP (.dct (balK bs))).shown) :=
  repr_sm (sm_bal hb2 10) (Nat.le_trans (wt_bal hb (fun c h => (hb2 c h).1) 10) (by decide))
theorem ne_raw (x : Str) : fNe (.raw x) (.raw x) = some (.bl false) := by
  show some (D.bl (!decide (x = x))) = _
  simp
theorem add_l {α : Type} (e : α → D) {xs ys : List α} (h : xs.length + ys.length ≤ 100000) : fAdd (.lst (xs.map e)) (.lst (ys.map e)) = some (.lst ((xs ++ ys).map e)) := by
  show (if (xs.map e).length + (ys.map e).length ≤ LIM then _ else _) = _
  rw [if_pos (by show _ ≤ 1000000; rw [List.length_map, List.length_map]; omega)]
  rw [List.map_append]
theorem cut_drop {α : Type} (xs : List α) (k : Nat) : cutD xs (some (k : Int)) none = xs.drop k := by
  unfold cutD
  rw [HT.sIx_none, HT.sIx_nat]
  by_cases h : k ≤ xs.length
  · rw [Nat.min_eq_left h, List.take_of_length_le (by rw [List.length_drop]; omega)]
  · rw [Nat.min_eq_right (by omega), List.drop_length, List.drop_of_length_le (by omega)]
    simp
theorem sl_drop {α : Type} (e : α → D) (xs : List α) (k : Nat) : fSl (some (k : Int)) none (.lst (xs.map e)) = some (.lst ((xs.drop k).map e)) := by
  show some (D.lst (cutD (xs.map e) (some (k : Int)) none)) = _
  rw [cut_drop, List.map_drop]
theorem sl_drop1 {α : Type} (e : α → D) (xs : List α) (k : Nat) : fSl (some ((k : Int) + 1)) none (.lst (xs.map e)) = some (.lst ((xs.drop (k + 1)).map e)) := by
  have := sl_drop e xs (k + 1)
  rw [← this]
  rfl
theorem ns_ints (xs : List Int) : nsD 6 (.lst (xs.map .int)) = true := by
  show (xs.map D.int).all (nsD 5) = true
  rw [List.all_eq_true]
  intro x hx
  obtain ⟨i, _, rfl⟩ := List.mem_map.mp hx
  rfl
theorem min2 (i j : Int) : fMin [.int i, .int j] = some (.int (if j < i then j else i)) := rfl
theorem last_of {α : Type} : ∀ {xs : List α}, xs ≠ [] → ∃ ys y, xs = ys ++ [y]
  | [], h => (h rfl).elim
  | [x], _ => ⟨[], x, rfl⟩
  | x :: y :: r, _ => by
    obtain ⟨ys, z, e⟩ := last_of (xs := y :: r) (by simp)
    exact ⟨x :: ys, z, by rw [e]; rfl⟩
theorem ix_m1 {xs : List Str} (h : xs ≠ []) : ∃ y ∈ xs, fIx (.lst (xs.map .str)) (.int (-1)) = some (.str y) := by
  obtain ⟨ys, y, rfl⟩ := last_of h
  refine ⟨y, by simp, ?_⟩
  rw [List.map_append]
  exact ix_last
theorem isNm_of {rows : List Row} (ok : OkF rows) {n : Str} (h : n ∈ nms rows) : isNm n = true := by
  obtain ⟨r, hr, rfl⟩ := List.mem_map.mp h
  exact ok.nm r hr
end GP

set_option Elab.async false
set_option linter.all false
set_option maxRecDepth 100000
set_option maxHeartbeats 4000000
/-! S16 (printed by gen2.py lib): extra deposits, gains. -/
namespace GP
open PySem PySem.Spec PyProof.Rows L2
/-! _law_begun: slots 0 _law_script 1 _law_great 2 _law_cell; calls ; cost 0 -/
/-! _law_mixed: slots 0 _law_state 1 _law_found 2 _law_prime 3 _law_blend 4 _law_cell; calls ; cost 0 -/
/-! _law_take: slots 0 _law_state 1 _law_size 2 _law_found; calls _law_mixed; cost 1 -/
/-! _law_pick: slots 0 _law_state 1 _law_some; calls _law_take; cost 1 -/
/-! _law_words: slots 0 _law_state 1 _law_size 2 _law_own 3 _law_letters 4 _law_found 5 _law_k 6 _law_word 7 _law_j 8 _law_letter 9 _law_other; calls _law_pick _law_take; cost 99 -/
/-! Forest.__init__: slots 0 self 1 rows 2 row 3 name 4 parent; calls is_list is_row; cost 0 -/
/-! _law_extra: slots 0 _law_state 1 _law_names 2 _law_numbers 3 _law_most 4 _law_found 5 _law_k; calls _law_take _law_pick; cost 181; new -/
def t_law_extra (Γ : Cn) : TS := tSeq (tAsg (tLst (tNil)) (gName 4)) (tSeq (tFor (iRng1 (tCons (tFn (sp_law_take Γ) E0 (tCons (tVar 0) (tCons (tOp (gAdd Γ.K) (tVar 3) (tC (.int 1))) (tNil)))) (tNil)))
   (gName 5) (tDrop (tBM Γ.K "list" rAppend (tVar 4) (tCons (tTup (tCons (tFn (sp_law_pick Γ) E0 (tCons (tVar 0) (tCons (tVar 1) (tNil)))) (tCons (tOp (gAdd Γ.K) (tC
   (.int 1)) (tFn (sp_law_pick Γ) E0 (tCons (tVar 0) (tCons (tLst (tCons (tC (.int 0)) (tCons (tFn (sp_law_take Γ) E0 (tCons (tVar 0) (tCons (tVar 2) (tNil)))) (tCons
   (tOp (gDif) (tVar 2) (tC (.int 1))) (tNil))))) (tNil))))) (tNil)))) tNil)))) (tRet (tVar 4)))
def d_law_extra_b1 : DQ := dApp 4 (dTup (dCons (dFn dp_law_pick (dCons (dVarS 0) (dCons (dVarS 1) (dNil)))) (dCons (dOp fAdd (dC (.int 1)) (dFn dp_law_pick (dCons (dVarS 0) (dCons (dLst (dCons (dC
   (.int 0)) (dCons (dFn dp_law_take (dCons (dVarS 0) (dCons (dVarS 2) (dNil)))) (dCons (dOp fSub (dVar 2) (dC (.int 1))) (dNil))))) (dNil))))) (dNil))))
def d_law_extra_t2 : DQ := dRetV 4
def d_law_extra_t1 : DQ := dSeq (dForN 60 (dRng1 (dCons (dFn dp_law_take (dCons (dVarS 0) (dCons (dOp fAdd (dVar 3) (dC (.int 1))) (dNil)))) (dNil))) (dName 5) (d_law_extra_b1)) d_law_extra_t2
def d_law_extra : DQ := dSeq (dAsgO (dLst (dNil)) 4) d_law_extra_t1
theorem snd_law_extra {Γ : Cn} {L : LS} : SS Γ L 181 (t_law_extra Γ) d_law_extra := by
  unfold t_law_extra d_law_extra d_law_extra_t1 d_law_extra_t2 d_law_extra_b1
  exact s_seq (s_asgO 4 (s_lst (s_nil))) (s_seq (s_forN 60 (s_rng1 (s_consT (SE.t (s_fn (s := dp_law_take) (cf := 1) (s_cons (s_varS 0) (s_cons (s_op o_add (s_var 3) (SE.t (s_c
   fun _ => .int _))) (s_nil))))) (s_nilT))) (s_name 5) (s_app 4 (s_tup (s_cons (s_fn (s := dp_law_pick) (cf := 1) (s_cons (s_varS 0) (s_cons (s_varS 1) (s_nil))))
   (s_cons (s_op o_add (SE.t (s_c fun _ => .int _)) (SE.t (s_fn (s := dp_law_pick) (cf := 1) (s_cons (s_varS 0) (s_cons (SF.e (s_lst (s_cons (s_c fun _ => .int _) (s_cons
   (s_fn (s := dp_law_take) (cf := 1) (s_cons (s_varS 0) (s_cons (s_varS 2) (s_nil)))) (s_cons (s_op o_sub (s_var 2) (SE.t (s_c fun _ => .int _))) (s_nil))))))
   (s_nil)))))) (s_nil)))))) (s_retV 4))
def r_law_extra_s2 : RQ := rRetV true 4
def r_law_extra_t2 : RQ := r_law_extra_s2
theorem ag_law_extra_t2 : AgQ true d_law_extra_t2 r_law_extra_t2 := by
  unfold d_law_extra_t2 r_law_extra_t2 r_law_extra_s2
  exact a_retV
def dp_law_extra : DSp := dpOfF 6 d_law_extra
def sp_law_extra (Γ : Cn) : Sp := liftF Γ 4 181 dp_law_extra
/-! is_deposit: slots 0 forest 1 value; calls is_account is_amount; cost 0; draws nothing -/
def t_is_deposit (Γ : Cn) : TS := tRet (tAndV (tCB (gIsi Γ.K) (tCons (tVar 1) (tCons (tC (.ty "tuple")) (tNil)))) (tAndV (tOp (gEq Γ.K) (tCB (gLen Γ.K) (tCons (tVar 1) (tNil))) (tC (.int 2))) (tAndV (tFn
   (sp_is_account Γ) E0 (tCons (tVar 0) (tCons (tOp (gIx Γ.K) (tVar 1) (tC (.int 0))) (tNil)))) (tFn (sp_is_amount Γ) E0 (tCons (tOp (gIx Γ.K) (tVar 1) (tC (.int 1)))
   (tNil))))))
def d_is_deposit : DQ := dRet (dAndV (dCB fIsi (dCons (dVar 1) (dCons (dC (.ty "tuple")) (dNil)))) (dAndV (dOp fEq (dCB fLen (dCons (dVar 1) (dNil))) (dC (.int 2))) (dAndV (dFn dp_is_account
   (dCons (dVarS 0) (dCons (dOp fIx (dVar 1) (dC (.int 0))) (dNil)))) (dFn dp_is_amount (dCons (dOp fIx (dVar 1) (dC (.int 1))) (dNil))))))
theorem snd_is_deposit {Γ : Cn} {L : LS} : SS Γ L 0 (t_is_deposit Γ) d_is_deposit := by
  unfold t_is_deposit d_is_deposit
  exact s_ret (s_andV (SE.t (s_cb k_isi (s_consT (s_var 1) (s_consT (SE.t (s_c fun _ => .ty _)) (s_nilT))))) (s_andV (SE.t (s_op o_eq (SE.t (s_cb k_len (s_consT (s_var 1)
   (s_nilT)))) (SE.t (s_c fun _ => .int _)))) (s_andV (SE.t (s_fn (s := dp_is_account) (cf := 0) (s_cons (s_varS 0) (s_cons (s_op o_ix (s_var 1) (SE.t (s_c fun _ => .int
   _))) (s_nil))))) (s_fn (s := dp_is_amount) (cf := 0) (s_cons (s_op o_ix (s_var 1) (SE.t (s_c fun _ => .int _))) (s_nil))))))
def dp_is_deposit : DSp := dpOf 2 d_is_deposit
def sp_is_deposit (Γ : Cn) : Sp := lift Γ 2 0 dp_is_deposit
def r_is_deposit : RQ := rRet (rAndV (rCB fIsi (rCons (rVar 1) (rCons (rC (.ty "tuple")) (rNil)))) (rAndV (rOp fEq (rCB fLen (rCons (rVar 1) (rNil))) (rC (.int 2))) (rAndV (rFn R_is_account
   (rCons (rVarS 0) (rCons (rOp fIx (rVar 1) (rC (.int 0))) (rNil)))) (rFn R_is_amount (rCons (rOp fIx (rVar 1) (rC (.int 1))) (rNil))))))
def R_is_deposit : List D → Option D := runOf 2 r_is_deposit
theorem ag_is_deposit : AgF dp_is_deposit R_is_deposit := by
  refine ag_of ?_
  unfold d_is_deposit r_is_deposit
  exact a_ret (a_andV (a_cb (a_cons (a_var 1) (a_cons (a_c _) (a_nil)))) (a_andV (a_op (a_cb (a_cons (a_var 1) (a_nil))) (a_c _)) (a_andV (a_fn ag_is_account (a_cons (a_varS 0)
   (a_cons (a_op (a_var 1) (a_c _)) (a_nil)))) (a_fn ag_is_amount (a_cons (a_op (a_var 1) (a_c _)) (a_nil))))))
/-! need_extra: slots 0 forest 1 extra 2 one; calls is_list is_deposit; cost 0; draws nothing -/
def t_need_extra (Γ : Cn) : TS := tIfS (tOr (tNot (tTru Γ.K (tFn (sp_is_list Γ) E0 (tCons (tVar 1) (tNil))))) (tNot (tTru Γ.K (tCB (rAll Γ.K) (tCons (tLc (gIter Γ.K (tVar 1)) (gName 2) (tYes) (tFn
   (sp_is_deposit Γ) E0 (tCons (tVar 0) (tCons (tVar 2) (tNil)))) [2]) (tNil)))))) (tNever) (tNext)
def d_need_extra : DQ := dIfS (dOr (dNot (dTru (dFn dp_is_list (dCons (dVarS 1) (dNil))))) (dNot (dTru (dCB fAll (dCons (dLc (dIter (dVar 1)) (dName 2) (dYes) (dFn dp_is_deposit (dCons (dVarS 0)
   (dCons (dVarS 2) (dNil)))) [2]) (dNil)))))) ((fun _ _ => False)) (dNext)
theorem snd_need_extra {Γ : Cn} {L : LS} : SS Γ L 0 (t_need_extra Γ) d_need_extra := by
  unfold t_need_extra d_need_extra
  exact s_if (s_or (s_not (s_tru (SE.t (s_fn (s := dp_is_list) (cf := 0) (s_cons (s_varS 1) (s_nil)))))) (s_not (s_tru (SE.t (s_cb k_all (s_consT (SF.t (s_lc (s_iterT (s_var 1))
   (s_name 2) (s_yes) (s_fn (s := dp_is_deposit) (cf := 0) (s_cons (s_varS 0) (s_cons (s_varS 2) (s_nil)))))) (s_nilT))))))) (s_never) (s_next)
def dp_need_extra : DSp := dpOf 3 d_need_extra
def sp_need_extra (Γ : Cn) : Sp := lift Γ 2 0 dp_need_extra
def r_need_extra : RQ := rIfS (rOr (rNot (rTru (rFn R_is_list (rCons (rVarS 1) (rNil))))) (rNot (rTru (rCB fAll (rCons (rLc (rIter (rVar 1)) (rName 2) (rYes) (rFn R_is_deposit (rCons (rVarS 0)
   (rCons (rVarS 2) (rNil)))) [2]) (rNil)))))) (rNever) (rNext)
def R_need_extra : List D → Option D := runOf 3 r_need_extra
theorem ag_need_extra : AgF dp_need_extra R_need_extra := by
  refine ag_of ?_
  unfold d_need_extra r_need_extra
  exact a_ifS (a_or (a_not (a_tru (a_fn ag_is_list (a_cons (a_varS 1) (a_nil))))) (a_not (a_tru (a_cb (a_cons (a_lc (a_iter (a_var 1)) (a_name 2) (a_yes) (a_fn ag_is_deposit
   (a_cons (a_varS 0) (a_cons (a_varS 2) (a_nil))))) (a_nil)))))) (a_never) (a_next)
/-! grown: slots 0 balances 1 extra 2 found 3 name 4 amount; calls ; cost 0; new; draws nothing -/
def t_grown (Γ : Cn) : TS := tSeq (tAsg (tCB (gDict Γ.K) (tCons (tVar 0) (tNil))) (gName 2)) (tSeq (tFor (gIter Γ.K (tVar 1)) (gTup Γ.K 2 (gCons (gName 3) (gCons (gName 4) (gNil)))) (tAsg (tOp (gAdd
   Γ.K) (tDGet2 (tVar 2) (tVar 3) (tC (.int 0))) (tVar 4)) (L2.gSub (tVar 2) (tVar 3) gSet))) (tRet (tVar 2)))
def d_grown_b1 : DQ := dSetO 2 (dVar 3) (dOp fAdd (dGet2 (dVar 2) (dVar 3) (dC (.int 0))) (dVar 4))
def d_grown : DQ := dSeq (dAsgO (dCB fDict (dCons (dVar 0) (dNil))) 2) (dSeq (dFor (dIter (dVarS 1)) (dTup2 3 4) (d_grown_b1)) (dRetV 2))
theorem snd_grown {Γ : Cn} {L : LS} : SS Γ L 0 (t_grown Γ) d_grown := by
  unfold t_grown d_grown d_grown_b1
  exact s_seq (s_asgO 2 (s_cbF k_dict (s_consT (s_var 0) (s_nilT)))) (s_seq (s_for (s_iter (s_varS 1)) (s_tup2 3 4) (s_setO 2 (s_op o_add (SE.t (s_get2 (s_var 2) (s_var 3) (s_c
   fun _ => .int _))) (s_var 4)) (s_var 3))) (s_retV 2))
def dp_grown : DSp := dpOfF 5 d_grown
def sp_grown (Γ : Cn) : Sp := liftF Γ 2 0 dp_grown
def r_grown_b1 : RQ := rSetO 2 (rVar 3) (rOp fAdd (rGet2 (rVar 2) (rVar 3) (rC (.int 0))) (rVar 4))
def r_grown : RQ := rSeq (rAsgO (rCB fDict (rCons (rVar 0) (rNil))) 2) (rSeq (rFor (rIter (rVarS 1)) (rTup2 3 4) (r_grown_b1)) (rRetV true 2))
def R_grown : List D → Option D := runOfF 5 r_grown
theorem ag_grown : AgF dp_grown R_grown := by
  refine ag_ofF ?_
  unfold d_grown r_grown d_grown_b1 r_grown_b1
  exact a_seq (a_asgO (a_cb (a_cons (a_var 0) (a_nil)))) (a_seq (a_for (a_iter (a_varS 1)) (a_tup2 3 4) (a_setO (a_var 3) (a_op (a_get2 (a_var 2) (a_var 3) (a_c _)) (a_var 4))))
   (a_retV))
/-! gains: slots 0 forest 1 claims 2 balances 3 extra; calls need_claims need_balances need_extra differences entitled_by grown; cost 0; new; draws nothing -/
def t_gains (Γ : Cn) : TS := tSeq (tDrop (tFn (sp_need_claims Γ) E0 (tCons (tVar 0) (tCons (tVar 1) (tNil))))) (tSeq (tDrop (tFn (sp_need_balances Γ) E0 (tCons (tVar 0) (tCons (tVar 2) (tNil)))))
   (tSeq (tDrop (tFn (sp_need_extra Γ) E0 (tCons (tVar 0) (tCons (tVar 3) (tNil))))) (tRet (tFn (sp_differences Γ) E0 (tCons (tFn (sp_entitled_by Γ) E0 (tCons (tVar 0)
   (tCons (tVar 1) (tCons (tVar 2) (tNil))))) (tCons (tFn (sp_entitled_by Γ) E0 (tCons (tVar 0) (tCons (tVar 1) (tCons (tFn (sp_grown Γ) E0 (tCons (tVar 2) (tCons (tVar
   3) (tNil)))) (tNil))))) (tNil)))))))
def d_gains : DQ := dSeq (dDrop (dFn dp_need_claims (dCons (dVarS 0) (dCons (dVarS 1) (dNil))))) (dSeq (dDrop (dFn dp_need_balances (dCons (dVarS 0) (dCons (dVarS 2) (dNil))))) (dSeq (dDrop
   (dFn dp_need_extra (dCons (dVarS 0) (dCons (dVarS 3) (dNil))))) (dRetF (dFn dp_differences (dCons (dFn dp_entitled_by (dCons (dVarS 0) (dCons (dVarS 1) (dCons (dVarS
   2) (dNil))))) (dCons (dFn dp_entitled_by (dCons (dVarS 0) (dCons (dVarS 1) (dCons (dFn dp_grown (dCons (dVarS 2) (dCons (dVarS 3) (dNil)))) (dNil))))) (dNil)))))))
theorem snd_gains {Γ : Cn} {L : LS} : SS Γ L 0 (t_gains Γ) d_gains := by
  unfold t_gains d_gains
  exact s_seq (s_drop (SE.t (s_fn (s := dp_need_claims) (cf := 0) (s_cons (s_varS 0) (s_cons (s_varS 1) (s_nil)))))) (s_seq (s_drop (SE.t (s_fn (s := dp_need_balances) (cf := 0)
   (s_cons (s_varS 0) (s_cons (s_varS 2) (s_nil)))))) (s_seq (s_drop (SE.t (s_fn (s := dp_need_extra) (cf := 0) (s_cons (s_varS 0) (s_cons (s_varS 3) (s_nil)))))) (s_retF
   (s_fnF (s := dp_differences) (cf := 0) (s_cons (SF.e (s_fnF (s := dp_entitled_by) (cf := 0) (s_cons (s_varS 0) (s_cons (s_varS 1) (s_cons (s_varS 2) (s_nil))))))
   (s_cons (SF.e (s_fnF (s := dp_entitled_by) (cf := 0) (s_cons (s_varS 0) (s_cons (s_varS 1) (s_cons (SF.e (s_fnF (s := dp_grown) (cf := 0) (s_cons (s_varS 2) (s_cons
   (s_varS 3) (s_nil))))) (s_nil)))))) (s_nil)))))))
def dp_gains : DSp := dpOfF 4 d_gains
def sp_gains (Γ : Cn) : Sp := liftF Γ 4 0 dp_gains
def r_gains : RQ := rSeq (rDrop (rFn R_need_claims (rCons (rVarS 0) (rCons (rVarS 1) (rNil))))) (rSeq (rDrop (rFn R_need_balances (rCons (rVarS 0) (rCons (rVarS 2) (rNil))))) (rSeq (rDrop
   (rFn R_need_extra (rCons (rVarS 0) (rCons (rVarS 3) (rNil))))) (rRet (rFn R_differences (rCons (rFn R_entitled_by (rCons (rVarS 0) (rCons (rVarS 1) (rCons (rVarS 2)
   (rNil))))) (rCons (rFn R_entitled_by (rCons (rVarS 0) (rCons (rVarS 1) (rCons (rFn R_grown (rCons (rVarS 2) (rCons (rVarS 3) (rNil)))) (rNil))))) (rNil)))))))
def R_gains : List D → Option D := runOfF 4 r_gains
theorem ag_gains : AgF dp_gains R_gains := by
  refine ag_ofF ?_
  unfold d_gains r_gains
  exact a_seq (a_drop (a_fn ag_need_claims (a_cons (a_varS 0) (a_cons (a_varS 1) (a_nil))))) (a_seq (a_drop (a_fn ag_need_balances (a_cons (a_varS 0) (a_cons (a_varS 2)
   (a_nil))))) (a_seq (a_drop (a_fn ag_need_extra (a_cons (a_varS 0) (a_cons (a_varS 3) (a_nil))))) (a_retF (a_fn ag_differences (a_cons (a_fn ag_entitled_by (a_cons
   (a_varS 0) (a_cons (a_varS 1) (a_cons (a_varS 2) (a_nil))))) (a_cons (a_fn ag_entitled_by (a_cons (a_varS 0) (a_cons (a_varS 1) (a_cons (a_fn ag_grown (a_cons (a_varS
   2) (a_cons (a_varS 3) (a_nil)))) (a_nil))))) (a_nil)))))))
end GP

set_option Elab.async false
set_option linter.all false
set_option maxRecDepth 100000
set_option maxHeartbeats 400000
/-! S17: more money lowers no entitlement, a smaller claim lowers no other one. -/
namespace GP
open PySem PySem.Spec PyProof.Rows L2
section
variable {rows : List Row} (ok : OkF rows)
include ok
theorem anc_chain {a b z : Str} (hz : z ∈ nms rows) : a ∈ anc rows z → b ∈ anc rows z → a ∈ anc rows b ∨ b ∈ anc rows a := by
  revert a b
  refine anc_ind ok (P := fun z => ∀ {a b : Str}, a ∈ anc rows z → b ∈ anc rows z → a ∈ anc rows b ∨ b ∈ anc rows a) (fun n hn ih => ?_) z hz
  intro a b ha hb
  by_cases ea : a = n
  · subst ea; exact .inr hb
  by_cases eb : b = n
  · subst eb; exact .inl ha
  rw [anc_eq ok hn] at ha hb
  cases hp : par rows n with
  | none =>
    rw [hp] at ha
    rcases List.mem_cons.mp ha with h | h
    · exact (ea h).elim
    · cases h
  | some q =>
    rw [hp] at ha hb
    rcases List.mem_cons.mp ha with h | h
    · exact (ea h).elim
    rcases List.mem_cons.mp hb with h' | h'
    · exact (eb h').elim
    exact ih q hp h h'
theorem les_in {f : Str → Int} {x n : Str} {m : Int} (h : n ∈ anc rows x) : les rows f x m n = f n - m := by simp [les, h]
theorem les_out {f : Str → Int} {x n : Str} {m : Int} (h : n ∉ anc rows x) : les rows f x m n = f n := by simp [les, h]
theorem mn_facts {f : Str → Int} (hf : ∀ n ∈ nms rows, 0 ≤ f n) {c : Str × Int} (hc : c.1 ∈ nms rows) (hc0 : 0 ≤ c.2) :
    0 ≤ mnL c.2 ((anc rows c.1).map f) ∧ mnL c.2 ((anc rows c.1).map f) ≤ c.2 ∧ (∀ b ∈ anc rows c.1, mnL c.2 ((anc rows c.1).map f) ≤ f b) ∧ (mnL c.2 ((anc rows c.1).map f) = c.2 ∨ ∃ b ∈ anc rows c.1, f b = mnL c.2 ((anc rows c.1).map f)) := by
  obtain ⟨m1, m2⟩ := mnL_le ((anc rows c.1).map f) c.2
  refine ⟨mnL_ge hc0 fun y hy => ?_, m1, fun b hb => m2 _ (List.mem_map.mpr ⟨b, hb, rfl⟩), ?_⟩
  · obtain ⟨b, hb, rfl⟩ := List.mem_map.mp hy
    exact hf b (anc_in ok hc hb)
  · rcases mnL_mem ((anc rows c.1).map f) c.2 with h | h
    · exact .inl h
    · obtain ⟨b, hb, e⟩ := List.mem_map.mp h
      exact .inr ⟨b, hb, e⟩
theorem les_nonneg {f : Str → Int} (hf : ∀ n ∈ nms rows, 0 ≤ f n) {x : Str} {m : Int} (hm : ∀ b ∈ anc rows x, m ≤ f b) : ∀ n ∈ nms rows, 0 ≤ les rows f x m n := fun n hn => by
  by_cases h : n ∈ anc rows x
  · rw [les_in ok h]; have := hm n h; omega
  · rw [les_out ok h]; exact hf n hn
/-- below an exhausted account nothing matters -/
theorem ent_dead : ∀ (cs : List (Str × Int)) (f g : Str → Int) (b : Str), (∀ n ∈ nms rows, 0 ≤ f n) → (∀ n ∈ nms rows, 0 ≤ g n) → (∀ c ∈ cs, c.1 ∈ nms rows ∧ 0 ≤ c.2) → f b = 0 → g b = 0 → (∀ n ∈ nms rows, (b ∉ anc rows n ∨ n = b) → g n = f n) → entR rows g cs = entR rows f cs
  | [], _, _, _, _, _, _, _, _, _ => rfl
  | c :: cs, f, g, b, hf, hg, hc, fb, gb, hs => by
    obtain ⟨hcn, hc0⟩ := hc c List.mem_cons_self
    obtain ⟨f0, f1, f2, _⟩ := mn_facts ok hf hcn hc0
    obtain ⟨g0, g1, g2, _⟩ := mn_facts ok hg hcn hc0
    rw [entR, entR]
    by_cases hb : b ∈ anc rows c.1
    · have e1 : mnL c.2 ((anc rows c.1).map f) = 0 := by have := f2 b hb; omega
      have e2 : mnL c.2 ((anc rows c.1).map g) = 0 := by have := g2 b hb; omega
      rw [e1, e2]
      have l0 : ∀ h : Str → Int, les rows h c.1 0 = h := fun h => by
        funext n
        by_cases hn : n ∈ anc rows c.1
        · rw [les_in ok hn]; omega
        · rw [les_out ok hn]
      rw [l0, l0, ent_dead cs f g b hf hg (fun d hd => hc d (List.mem_cons_of_mem _ hd)) fb gb hs]
    · have e : (anc rows c.1).map g = (anc rows c.1).map f := List.map_congr_left fun a ha => hs a (anc_in ok hcn ha) (.inl fun h => hb (anc_trans ok hcn h ha))
      rw [e] at g0 g1 g2 ⊢
      rw [ent_dead cs (les rows f c.1 (mnL c.2 ((anc rows c.1).map f))) (les rows g c.1 (mnL c.2 ((anc rows c.1).map f))) b (les_nonneg ok hf f2) (les_nonneg ok hg g2) (fun d hd => hc d (List.mem_cons_of_mem _ hd)) (by rw [les_out ok hb]; exact fb) (by rw [les_out ok hb]; exact gb) fun n hn hd => ?_]
      by_cases h : n ∈ anc rows c.1
      · rw [les_in ok h, les_in ok h, hs n hn hd]
      · rw [les_out ok h, les_out ok h, hs n hn hd]
end
/-- more at an account, and at all that enclose it -/
def up1 (rows : List Row) (f : Str → Int) (z : Str) (v : Int) : Str → Int := fun n => if n ∈ anc rows z then f n + v else f n
/-- no number is lower, all together grew by no more than v -/
structure Grew (v : Int) (a b : List Int) : Prop where
  len : a.length = b.length
  le : ∀ (i : Nat) (x y : Int), a[i]? = some x → b[i]? = some y → x ≤ y
  sum : b.sum ≤ a.sum + v
theorem Grew.rfl' (a : List Int) : Grew 0 a a := ⟨rfl, fun i x y h1 h2 => by rw [h1] at h2; cases h2; exact Int.le_refl _, by omega⟩
theorem Grew.tr {v w : Int} {a b c : List Int} (h1 : Grew v a b) (h2 : Grew w b c) : Grew (v + w) a c := by
  refine ⟨h1.len.trans h2.len, fun i x y hx hy => ?_, by have := h1.sum; have := h2.sum; omega⟩
  have hl := (List.getElem?_eq_some_iff.mp hx).1
  obtain ⟨z, hz⟩ : ∃ z, b[i]? = some z := ⟨_, List.getElem?_eq_getElem (by have := h1.len; omega)⟩
  exact Int.le_trans (h1.le i x z hx hz) (h2.le i z y hz hy)
theorem Grew.more {v w : Int} {a b : List Int} (h : Grew v a b) (l : v ≤ w) : Grew w a b := ⟨h.len, h.le, by have := h.sum; omega⟩
theorem Grew.cons {v : Int} {a b : List Int} {x y : Int} (h : Grew v a b) (l : x ≤ y) : Grew (v + (y - x)) (x :: a) (y :: b) := by
  refine ⟨by simp [h.len], fun i p q hp hq => ?_, by rw [List.sum_cons, List.sum_cons]; have := h.sum; omega⟩
  cases i with
  | zero => simp at hp hq; omega
  | succ i => exact h.le i p q (by simpa using hp) (by simpa using hq)
section
variable {rows : List Row} (ok : OkF rows)
include ok
theorem ent_unit : ∀ (cs : List (Str × Int)) (f : Str → Int) (z : Str), z ∈ nms rows → (∀ n ∈ nms rows, 0 ≤ f n) → (∀ c ∈ cs, c.1 ∈ nms rows ∧ 0 ≤ c.2) → Grew 1 (entR rows f cs) (entR rows (up1 rows f z 1) cs)
  | [], f, z, _, _, _ => (Grew.rfl' []).more (by omega)
  | c :: cs, f, z, hz, hf, hc => by
    obtain ⟨hcn, hc0⟩ := hc c List.mem_cons_self
    have hu : ∀ n, f n ≤ up1 rows f z 1 n ∧ up1 rows f z 1 n ≤ f n + 1 := fun n => by
      unfold up1
      by_cases h : n ∈ anc rows z
      · rw [if_pos h]; omega
      · rw [if_neg h]; omega
    have hg : ∀ n ∈ nms rows, 0 ≤ up1 rows f z 1 n := fun n hn => Int.le_trans (hf n hn) (hu n).1
    obtain ⟨f0, f1, f2, f3⟩ := mn_facts ok hf hcn hc0
    obtain ⟨g0, g1, g2, g3⟩ := mn_facts ok hg hcn hc0
    rw [entR, entR]
    generalize hm : mnL c.2 ((anc rows c.1).map f) = m at f0 f1 f2 f3 ⊢
    generalize hm' : mnL c.2 ((anc rows c.1).map (up1 rows f z 1)) = m' at g0 g1 g2 g3 ⊢
    have l1 : m ≤ m' := by
      rw [← hm']
      refine mnL_ge f1 fun y hy => ?_
      obtain ⟨b, hb, rfl⟩ := List.mem_map.mp hy
      exact Int.le_trans (f2 b hb) (hu b).1
    have l2 : m' ≤ m + 1 := by
      rcases f3 with h | ⟨b, hb, e⟩
      · omega
      · have := g2 b hb
        have := (hu b).2
        omega
    by_cases he : m' = m
    · rw [he]
      have e : les rows (up1 rows f z 1) c.1 m = up1 rows (les rows f c.1 m) z 1 := by
        funext n
        by_cases h1 : n ∈ anc rows c.1 <;> by_cases h2 : n ∈ anc rows z <;> simp [les, up1, h1, h2] <;> omega
      rw [e]
      exact ((ent_unit cs (les rows f c.1 m) z hz (les_nonneg ok hf f2) fun d hd => hc d (List.mem_cons_of_mem _ hd)).cons (Int.le_refl m)).more (by omega)
    · have he' : m' = m + 1 := by omega
      subst he'
      obtain ⟨b, hb, e⟩ : ∃ b ∈ anc rows c.1, f b = m := f3.resolve_left (by omega)
      have hbz : b ∈ anc rows z := by
        by_cases h : b ∈ anc rows z
        · exact h
        · have := g2 b hb
          unfold up1 at this
          rw [if_neg h] at this
          omega
      rw [ent_dead ok cs (les rows f c.1 m) (les rows (up1 rows f z 1) c.1 (m + 1)) b (les_nonneg ok hf f2) (les_nonneg ok hg g2) (fun d hd => hc d (List.mem_cons_of_mem _ hd)) (by rw [les_in ok hb]; omega) (by rw [les_in ok hb]; unfold up1; rw [if_pos hbz]; omega) fun n hn hd => ?_]
      · exact ((Grew.rfl' _).cons (by omega)).more (by omega)
      · have iff : n ∈ anc rows z ↔ n ∈ anc rows c.1 := by
          constructor
          · intro h
            rcases hd with hd | rfl
            · exact anc_trans ok hcn ((anc_chain ok hz h hbz).resolve_right hd) hb
            · exact hb
          · intro h
            rcases hd with hd | rfl
            · exact anc_trans ok hz ((anc_chain ok hcn h hb).resolve_right hd) hbz
            · exact hbz
        by_cases h : n ∈ anc rows c.1
        · rw [les_in ok h, les_in ok h]
          unfold up1
          rw [if_pos (iff.mpr h)]
          omega
        · rw [les_out ok h, les_out ok h]
          unfold up1
          rw [if_neg fun q => h (iff.mp q)]
theorem ent_units (cs : List (Str × Int)) (hc : ∀ c ∈ cs, c.1 ∈ nms rows ∧ 0 ≤ c.2) {z : Str} (hz : z ∈ nms rows) : ∀ (v : Nat) (f : Str → Int), (∀ n ∈ nms rows, 0 ≤ f n) → Grew v (entR rows f cs) (entR rows (up1 rows f z v) cs)
  | 0, f, hf => by
    have e : up1 rows f z ((0 : Nat) : Int) = f := by
      funext n
      unfold up1
      split <;> simp
    rw [e]
    exact Grew.rfl' _
  | v + 1, f, hf => by
    have h1 := ent_units cs hc hz v f hf
    have hg : ∀ n ∈ nms rows, 0 ≤ up1 rows f z v n := fun n hn => by
      have := hf n hn
      unfold up1
      split <;> omega
    have h2 := ent_unit ok cs (up1 rows f z v) z hz hg hc
    have e : up1 rows (up1 rows f z v) z 1 = up1 rows f z ((v + 1 : Nat) : Int) := by
      funext n
      unfold up1
      split <;> omega
    rw [e] at h2
    have := h1.tr h2
    rwa [show ((v : Int) + 1) = ((v + 1 : Nat) : Int) by omega] at this
theorem ent_more (cs : List (Str × Int)) (hc : ∀ c ∈ cs, c.1 ∈ nms rows ∧ 0 ≤ c.2) : ∀ (es : List (Str × Int)) (f : Str → Int), (∀ e ∈ es, e.1 ∈ nms rows ∧ 0 ≤ e.2) → (∀ n ∈ nms rows, 0 ≤ f n) → Grew (es.map (·.2)).sum (entR rows f cs) (entR rows (fun n => f n + gath rows es n) cs)
  | [], f, _, _ => by
    have e : (fun n => f n + gath rows [] n) = f := by
      funext n
      rw [gath_nil]
      omega
    rw [e]
    exact Grew.rfl' _
  | e :: es, f, he, hf => by
    obtain ⟨h1, h2⟩ := he e List.mem_cons_self
    have a := ent_units ok cs hc h1 e.2.toNat f hf
    rw [Int.toNat_of_nonneg h2] at a
    have hg : ∀ n ∈ nms rows, 0 ≤ up1 rows f e.1 e.2 n := fun n hn => by
      have := hf n hn
      unfold up1
      split <;> omega
    have b := ent_more cs hc es (up1 rows f e.1 e.2) (fun d hd => he d (List.mem_cons_of_mem _ hd)) hg
    have q : (fun n => up1 rows f e.1 e.2 n + gath rows es n) = fun n => f n + gath rows (e :: es) n := by
      funext n
      rw [gath_cons]
      unfold up1
      split <;> omega
    rw [q] at b
    rw [List.map_cons, List.sum_cons]
    exact a.tr b
/-- a claim smaller by v -/
structure Less (k : Nat) (v : Int) (a b : List Int) : Prop where
  len : a.length = b.length
  pre : b.take k = a.take k
  own : ∀ x y, a[k]? = some x → b[k]? = some y → x - v ≤ y ∧ y ≤ x
  le : ∀ (i : Nat) (x y : Int), k < i → a[i]? = some x → b[i]? = some y → x ≤ y
  sum : b.sum ≤ a.sum
theorem ent_less : ∀ (cs : List (Str × Int)) (k : Nat) (c : Str × Int) (v : Int) (f : Str → Int), cs[k]? = some c → 0 ≤ v → v ≤ c.2 → (∀ n ∈ nms rows, 0 ≤ f n) → (∀ c ∈ cs, c.1 ∈ nms rows ∧ 0 ≤ c.2) → Less k v (entR rows f cs) (entR rows f (cs.set k (c.1, c.2 - v)))
  | [], k, c, v, f, hk, _, _, _, _ => by simp at hk
  | d :: cs, 0, c, v, f, hk, h0, h1, hf, hc => by
    simp at hk
    subst hk
    obtain ⟨hcn, hc0⟩ := hc d List.mem_cons_self
    obtain ⟨f0, f1, f2, f3⟩ := mn_facts ok hf hcn hc0
    obtain ⟨g0, g1, g2, g3⟩ := mn_facts ok hf (c := (d.1, d.2 - v)) hcn (by dsimp only; omega)
    rw [List.set_cons_zero, entR, entR]
    dsimp only at g0 g1 g2 g3 ⊢
    generalize hm : mnL d.2 ((anc rows d.1).map f) = m at f0 f1 f2 f3 ⊢
    generalize hm' : mnL (d.2 - v) ((anc rows d.1).map f) = m' at g0 g1 g2 g3 ⊢
    have l1 : m' ≤ m := by
      rw [← hm]
      refine mnL_ge (by omega) fun y hy => ?_
      obtain ⟨b, hb, rfl⟩ := List.mem_map.mp hy
      exact g2 b hb
    have l2 : m - v ≤ m' := by
      rcases g3 with h | ⟨b, hb, e⟩
      · omega
      · have := f2 b hb
        omega
    have e : les rows f d.1 m' = up1 rows (les rows f d.1 m) d.1 (m - m') := by
      funext n
      by_cases h : n ∈ anc rows d.1 <;> simp [les, up1, h] <;> omega
    have gr := ent_units ok cs (fun d hd => hc d (List.mem_cons_of_mem _ hd)) hcn (m - m').toNat (les rows f d.1 m) (les_nonneg ok hf f2)
    rw [Int.toNat_of_nonneg (by omega), ← e] at gr
    refine ⟨by simp [gr.len], rfl, fun x y hx hy => ?_, fun i x y hi hx hy => ?_, ?_⟩
    · simp at hx hy
      omega
    · obtain ⟨j, rfl⟩ : ∃ j, i = j + 1 := ⟨i - 1, by omega⟩
      exact gr.le j x y (by simpa using hx) (by simpa using hy)
    · rw [List.sum_cons, List.sum_cons]
      have := gr.sum
      omega
  | d :: cs, k + 1, c, v, f, hk, h0, h1, hf, hc => by
    obtain ⟨hcn, hc0⟩ := hc d List.mem_cons_self
    obtain ⟨f0, f1, f2, f3⟩ := mn_facts ok hf hcn hc0
    rw [List.set_cons_succ, entR, entR]
    have ih := ent_less cs k c v (les rows f d.1 (mnL d.2 ((anc rows d.1).map f))) (by simpa using hk) h0 h1 (les_nonneg ok hf f2) fun d hd => hc d (List.mem_cons_of_mem _ hd)
    refine ⟨by simp [ih.len], by rw [List.take_succ_cons, List.take_succ_cons, ih.pre], fun x y hx hy => ih.own x y (by simpa using hx) (by simpa using hy), fun i x y hi hx hy => ?_, by rw [List.sum_cons, List.sum_cons]; have := ih.sum; omega⟩
    obtain ⟨j, rfl⟩ : ∃ j, i = j + 1 := ⟨i - 1, by omega⟩
    exact ih.le j x y (by omega) (by simpa using hx) (by simpa using hy)
end
theorem entR_take (rows : List Row) : ∀ (cs : List (Str × Int)) (k : Nat) (f : Str → Int), entR rows f (cs.take k) = (entR rows f cs).take k
  | [], k, f => by simp [entR]
  | c :: cs, 0, f => by simp [entR]
  | c :: cs, k + 1, f => by
    rw [List.take_succ_cons, entR, entR, List.take_succ_cons, entR_take rows cs k]
end GP

set_option Elab.async false
set_option linter.all false
set_option maxRecDepth 100000
set_option maxHeartbeats 400000
/-! S18: extra deposits: what they make of balances and totals; gains; what is drawn. -/
namespace GP
open PySem PySem.Spec PyProof.Rows L2
theorem balOf_putB {bs : List (Str × Int)} {n : Str} {v : Int} (m : Str) : balOf (putB bs n v) m = if m = n then v else balOf bs m := by
  unfold putB
  by_cases h : n ∈ bs.map (·.1)
  · rw [if_pos h]
    induction bs with
    | nil => simp at h
    | cons p bs ih =>
      rw [List.map_cons, balOf_cons, balOf_cons]
      by_cases hp : p.1 = n
      · rw [if_pos hp]
        dsimp only
        by_cases hm : m = p.1
        · rw [if_pos hm, if_pos (hm.trans hp)]
        · rw [if_neg hm, if_neg (fun e => hm (e.trans hp.symm)), if_neg hm]
          by_cases hn : n ∈ bs.map (·.1)
          · rw [ih hn, if_neg (fun e => hm (e.trans hp.symm))]
          · have e : bs.map (fun p => if p.1 = n then (p.1, v) else p) = bs := by
              conv => rhs; rw [← List.map_id bs]
              refine List.map_congr_left fun q hq => ?_
              rw [if_neg fun z => hn (List.mem_map.mpr ⟨q, hq, z⟩)]
              rfl
            rw [e]
      · rw [if_neg hp]
        dsimp only
        have hn : n ∈ bs.map (·.1) := by
          rw [List.map_cons] at h
          exact (List.mem_cons.mp h).resolve_left fun e => hp e.symm
        by_cases hm : m = p.1
        · rw [if_pos hm, if_neg (fun e => hp (hm.symm.trans e)), if_pos hm]
        · rw [if_neg hm, ih hn, if_neg hm]
  · rw [if_neg h]
    induction bs with
    | nil =>
      rw [List.nil_append, balOf_cons]
    | cons p bs ih =>
      rw [List.map_cons] at h
      have h1 : ¬ p.1 = n := fun e => h (by rw [← e]; exact List.mem_cons_self)
      have h2 : n ∉ bs.map (·.1) := fun e => h (List.mem_cons_of_mem _ e)
      rw [List.cons_append, balOf_cons, balOf_cons]
      dsimp only
      by_cases hm : m = p.1
      · rw [if_pos hm, if_neg (fun e => h1 (hm.symm.trans e)), if_pos hm]
      · rw [if_neg hm, ih h2, if_neg hm]
def grownB (bs es : List (Str × Int)) : List (Str × Int) := es.foldl (fun bs e => putB bs e.1 (balOf bs e.1 + e.2)) bs
theorem grownB_len : ∀ (es bs : List (Str × Int)), (grownB bs es).length ≤ bs.length + es.length
  | [], bs => Nat.le_refl _
  | e :: es, bs => by
    have := grownB_len es (putB bs e.1 (balOf bs e.1 + e.2))
    have := putB_len (bs := bs) (n := e.1) (v := balOf bs e.1 + e.2)
    show (grownB (putB bs e.1 (balOf bs e.1 + e.2)) es).length ≤ _
    rw [List.length_cons]
    omega
theorem balOf_le {bs : List (Str × Int)} {V : Int} (hV : 0 ≤ V) (h : ∀ p ∈ bs, p.2 ≤ V) (n : Str) : balOf bs n ≤ V := by
  unfold balOf
  cases hf : bs.find? fun p => decide (p.1 = n) with
  | none => simpa using hV
  | some p => simpa using h p (List.mem_of_find?_eq_some hf)
/-- balances by accounts, up to V -/
structure OkV (rows : List Row) (V : Int) (bs : List (Str × Int)) : Prop where
  nd : (bs.map (·.1)).Nodup
  ok : ∀ p ∈ bs, p.1 ∈ nms rows ∧ 0 ≤ p.2 ∧ p.2 ≤ V
theorem OkV.b {rows : List Row} {V : Int} {bs : List (Str × Int)} (h : OkV rows V bs) (l : V ≤ 1000000000000) : OkB rows bs := ⟨h.nd, fun p hp => ⟨(h.ok p hp).1, (h.ok p hp).2.1, Int.le_trans (h.ok p hp).2.2 l⟩⟩
theorem grownB_ok {rows : List Row} {W : Int} (hW : 0 ≤ W) : ∀ (es : List (Str × Int)) (bs : List (Str × Int)) (V : Int), 0 ≤ V → (∀ e ∈ es, e.1 ∈ nms rows ∧ 0 ≤ e.2 ∧ e.2 ≤ W) → OkV rows V bs → OkV rows (V + es.length * W) (grownB bs es)
  | [], bs, V, hV, he, ob => by simpa [grownB] using ob
  | e :: es, bs, V, hV, he, ob => by
    obtain ⟨h1, h2, h3⟩ := he e List.mem_cons_self
    have hb1 := balOf_le hV (fun p hp => (ob.ok p hp).2.2) e.1
    have hb0 := balOf_nonneg (fun p hp => (ob.ok p hp).2.1) e.1
    have ob2 : OkV rows (V + W) (putB bs e.1 (balOf bs e.1 + e.2)) := by
      refine ⟨?_, fun p hp => ?_⟩
      · rw [putB_keys]
        by_cases hm : e.1 ∈ bs.map (·.1)
        · rw [if_pos hm]; exact ob.nd
        · rw [if_neg hm]
          exact List.nodup_append.mpr ⟨ob.nd, by simp, fun a ha b hb z => by
            rw [List.mem_singleton.mp hb] at z
            exact hm (z ▸ ha)⟩
      · rcases putB_mem hp with h | rfl
        · obtain ⟨a, b, c⟩ := ob.ok p h
          exact ⟨a, b, by omega⟩
        · exact ⟨h1, by dsimp only; omega, by dsimp only; omega⟩
    have := grownB_ok hW es _ (V + W) (by omega) (fun d hd => he d (List.mem_cons_of_mem _ hd)) ob2
    show OkV rows _ (grownB (putB bs e.1 (balOf bs e.1 + e.2)) es)
    have q : V + W + (es.length : Int) * W = V + ((e :: es).length : Int) * W := by
      rw [List.length_cons]
      have : ((es.length + 1 : Nat) : Int) * W = (es.length : Int) * W + W := by
        rw [Int.natCast_add, Int.add_mul]
        simp
      omega
    rwa [q] at this
theorem sum_map_add (f g : Str → Int) : ∀ l : List Str, (l.map fun n => f n + g n).sum = (l.map f).sum + (l.map g).sum
  | [] => rfl
  | x :: l => by
    rw [List.map_cons, List.map_cons, List.map_cons, List.sum_cons, List.sum_cons, List.sum_cons, sum_map_add f g l]
    omega
theorem sum_zero : ∀ l : List Str, (l.map fun _ => (0 : Int)).sum = 0
  | [] => rfl
  | x :: l => by rw [List.map_cons, List.sum_cons, sum_zero l]; rfl
theorem tot_grown {rows : List Row} (ok : OkF rows) : ∀ (es bs : List (Str × Int)), (∀ e ∈ es, e.1 ∈ nms rows) → ∀ n, tot rows (balOf (grownB bs es)) n = tot rows (balOf bs) n + gath rows es n
  | [], bs, _, n => by rw [gath_nil]; show tot rows (balOf bs) n = _; omega
  | e :: es, bs, he, n => by
    show tot rows (balOf (grownB (putB bs e.1 (balOf bs e.1 + e.2)) es)) n = _
    rw [tot_grown ok es _ (fun d hd => he d (List.mem_cons_of_mem _ hd)) n, gath_cons]
    have hb : balOf (putB bs e.1 (balOf bs e.1 + e.2)) = fun m => balOf bs m + if m = e.1 then e.2 else 0 := by
      funext m
      rw [balOf_putB]
      by_cases h : m = e.1
      · rw [if_pos h, if_pos h, h]
      · rw [if_neg h, if_neg h]; omega
    rw [hb]
    unfold tot
    rw [sum_map_add]
    have hs : ((sub rows n).map fun m => if m = e.1 then e.2 else (0 : Int)).sum = if n ∈ anc rows e.1 then e.2 else 0 := by
      unfold sub
      rw [sum_if _ _ _ _ (fun _ => 0) ok.nd (he e List.mem_cons_self) rfl, sum_zero]
      simp
    rw [hs]
    omega
/-! ### grown, gains -/
def grS (bl ex : D) (bs : List (Str × Int)) (a b : Option Sl) : DS := [some (.sh bl), some (.sh ex), some (.ow (.dct (balK bs))), a, b]
theorem R_grown_ok {ex : D} {es : List (Str × Int)} (h : ex = .lst (es.map clD) ∨ ex = .tup (es.map clD)) (bs : List (Str × Int)) (hl : bs.length + es.length ≤ 1000) : R_grown [.dct (balK bs), ex] = some (.dct (balK (grownB bs es))) := by
  obtain ⟨δ', h1, i, a, b, h2⟩ := for_foldI (α := Str × Int) (S := List (Str × Int)) (g := rTup2 3 4) (b := r_grown_b1) (e := clD) (fun i s δ => s.length ≤ bs.length + i ∧ ∃ a b, δ = grS (.dct (balK bs)) ex s a b) (fun bs e => putB bs e.1 (balOf bs e.1 + e.2)) es 0 bs (grS (.dct (balK bs)) ex bs none none) ⟨Nat.le_refl _, none, none, rfl⟩ (fun i c hm s δ ⟨hi, a, b, q⟩ => by
    subst q
    have hlt := (List.getElem?_eq_some_iff.mp hm).1
    have hp := putB_len (bs := s) (n := c.1) (v := balOf s c.1 + c.2)
    refine ⟨grS (.dct (balK bs)) ex (putB s c.1 (balOf s c.1 + c.2)) (some (.sh (.str c.1))) (some (.sh (.int c.2))), ?_, by omega, _, _, rfl⟩
    have hs := set_putB (bs := s) (n := c.1) (by omega) (balOf s c.1 + c.2)
    simp [r_grown_b1, grS, clD, rSetO, get2_bal, hs])
  subst h2
  unfold grS at h1
  have hd : fDict [.dct (balK bs)] = some (.dct (balK bs)) := rfl
  simp [R_grown, runOfF, r_grown, hd, seq_cl h, rRetV] at h1 ⊢
  simp [h1, grownB]
/-- extra deposits -/
structure OkE (rows : List Row) (es : List (Str × Int)) : Prop where
  le : es.length ≤ 100
  ok : ∀ e ∈ es, e.1 ∈ nms rows ∧ 1 ≤ e.2 ∧ e.2 ≤ 1000000000
theorem R_is_deposit_ok {rows : List Row} {c : Str × Int} (h : c.1 ∈ nms rows) (h0 : 1 ≤ c.2) (h1 : c.2 ≤ 1000000000) : R_is_deposit [forD rows, clD c] = some (.bl true) := by
  simp [R_is_deposit, runOf, r_is_deposit, clD, ix_0, ix_1, R_is_account_s, R_is_amount_i, h, h0, h1]
theorem R_need_extra_ok {rows : List Row} {ex : D} {es : List (Str × Int)} (h : ex = .lst (es.map clD) ∨ ex = .tup (es.map clD)) (oe : OkE rows es) : R_need_extra [forD rows, ex] = some .non := by
  have hc : compL (lcStep (rName 2) rYes (rFn R_is_deposit (rCons (rVarS 0) (rCons (rVarS 2) rNil))) ([some (.sh (forD rows)), some (.sh ex), none] : DS)) (es.map clD) = some (es.map fun _ => .bl true) := by
    refine compL_map fun c hm => ?_
    obtain ⟨a, b, d⟩ := oe.ok c hm
    simp [R_is_deposit_ok a b d]
  have ha : fAll [.lst (es.map fun _ => .bl true)] = some (.bl true) := fAll_true fun x hx => by
    obtain ⟨c, _, rfl⟩ := List.mem_map.mp hx
    rfl
  simp [-x_lcStep, R_need_extra, runOf, r_need_extra, is_list_cl h, seq_cl h, hc, ha]
theorem R_gains_ok {rows : List Row} (ok : OkF rows) {cl ex : D} {cs es bs : List (Str × Int)} (h : cl = .lst (cs.map clD) ∨ cl = .tup (cs.map clD)) (h' : ex = .lst (es.map clD) ∨ ex = .tup (es.map clD)) (oc : OkC rows cs) (ob : OkB rows bs) (hbl : bs.length ≤ 500) (oe : OkE rows es) :
    R_gains [forD rows, cl, .dct (balK bs), ex] = some (.lst ((difs (ent rows (tot rows (balOf bs)) cs) (ent rows (tot rows (balOf (grownB bs es))) cs)).map .int)) := by
  have hle := oc.le
  have hee := oe.le
  have hE := fun bs' => R_entitled ok h (fun c hc => (oc.ok c hc).1) (by omega) bs'
  simp [R_gains, runOfF, r_gains, R_need_claims_ok h oc, R_need_balances_ok ob, R_need_extra_ok h' oe, hE, R_grown_ok h' bs (by omega), R_differences_ok]
/-! ### what is drawn -/
def exS (nl : D) (N m : Int) (es : List (Str × Int)) (a : Option Sl) : DS := [some (.sh .st), some (.sh nl), some (.sh (.int N)), some (.sh (.int m)), some (.ow (.lst (es.map clD))), a]
theorem ex_body (M : DN) (ns : List Str) (hn : ns ≠ []) (hl : ns.length ≤ 1000) (N m : Int) (h0 : 1 ≤ N) (h1 : N ≤ 1000000000) (es : List (Str × Int)) (he : es.length ≤ 1000) (a : Option Sl) (h : ∀ e : Str × Int, e.1 ∈ ns → 1 ≤ e.2 → e.2 ≤ N → M.nx (exS (.lst (ns.map .str)) N m (es ++ [e]) a)) : d_law_extra_b1 M (exS (.lst (ns.map .str)) N m es a) := by
  unfold d_law_extra_b1 exS dApp
  simp -implicitDefEqProofs only [List.getElem?_cons_succ, List.getElem?_cons_zero]
  simp -implicitDefEqProofs only [y_fn, y_fnK, y_cons, y_varS, y_var, sh_0s, sh_s, rd_0s, rd_0o, rd_s, y_c, y_nil, oP_some, y_lst, y_tup, y_op, y_un, y_cb, List.set_cons_succ, List.set_cons_zero, sub_ii]
  refine u_pick rfl (by simpa using hn) (by simpa using hl) fun r hr => ?_
  obtain ⟨n, hn', rfl⟩ := List.mem_map.mp hr
  refine u_take (by omega) (by omega) fun k k0 k1 => ?_
  refine u_pick rfl (by simp) (by simp) fun z hz => ?_
  have hX : ∃ x : Int, z = .int x ∧ 0 ≤ x ∧ x ≤ N - 1 := by
    simp -implicitDefEqProofs only [List.mem_cons, List.not_mem_nil, or_false] at hz
    rcases hz with rfl | rfl | rfl
    · exact ⟨0, rfl, by omega, by omega⟩
    · exact ⟨k, rfl, k0, by omega⟩
    · exact ⟨_, rfl, by omega, by omega⟩
  obtain ⟨x, rfl, x0, x1⟩ := hX
  refine u_o (add_ii _ _) ?_
  refine ⟨by show _ < 1000000; rw [List.length_map]; omega, ?_⟩
  have := h (n, 1 + x) hn' (by dsimp only; omega) (by dsimp only; omega)
  unfold exS at this
  simpa [clD] using this
theorem u_extra {ns : List Str} {N : Int} {m : Nat} {P : D → Prop} (hn : ns ≠ []) (hl : ns.length ≤ 1000) (h0 : 1 ≤ N) (h1 : N ≤ 1000000000) (hm : m ≤ 60) (h : ∀ es : List (Str × Int), es.length ≤ m → (∀ e ∈ es, e.1 ∈ ns ∧ 1 ≤ e.2 ∧ e.2 ≤ N) → P (.lst (es.map clD))) : dp_law_extra [.st, .lst (ns.map .str), .int N, .int m] P := by
  show d_law_extra { nx := fun _ => False, rt := P, own := true } [some (.sh .st), some (.sh (.lst (ns.map .str))), some (.sh (.int N)), some (.sh (.int m)), none, none]
  unfold d_law_extra d_law_extra_t1 d_law_extra_t2
  simp only [y_seq, y_asgO, y_lst, y_nil, dForN, dRng1, y_cons, y_fn, y_varS, y_var, y_op, rd_0s, rd_s, sh_0s, sh_s, y_c, oP_some, List.set_cons_succ, List.set_cons_zero, add_ii]
  refine u_take (by omega) (by omega) fun n n0 n1 => ?_
  obtain ⟨n, rfl⟩ := Int.eq_ofNat_of_zero_le n0
  refine ⟨by show (n : Int) ≤ 1000000; omega, by show -(1000000 : Int) ≤ n; omega, by simp; omega, ?_⟩
  refine for_inv (fun i δ => ∃ (es : List (Str × Int)) (a : Option Sl), δ = exS (.lst (ns.map .str)) N m es a ∧ es.length = i ∧ ∀ e ∈ es, e.1 ∈ ns ∧ 1 ≤ e.2 ∧ e.2 ≤ N) _ 0 _ ⟨[], none, rfl, rfl, fun c m => by cases m⟩ ?_ (name_mono 5) ?_
  · rintro j x δ hj ⟨es, a, rfl, hcl, hc⟩
    obtain ⟨hjn, rfl⟩ := rng_at hj
    intro M _ _ hnx _ _
    simp at hjn
    show d_law_extra_b1 M (exS (.lst (ns.map .str)) N m es (some (.sh (.int j))))
    refine ex_body M ns hn hl N m h0 h1 es (by omega) _ fun c c1 c2 c3 => hnx _ ⟨es ++ [c], _, rfl, by rw [List.length_append]; simp; omega, fun c' m => ?_⟩
    rcases List.mem_append.mp m with m | m
    · exact hc c' m
    · rw [List.mem_singleton.mp m]
      exact ⟨c1, c2, c3⟩
  · rintro δ ⟨es, a, rfl, hcl, hc⟩
    show P (.lst (es.map clD))
    refine h es ?_ hc
    rw [hcl]
    simp
    omega
end GP

set_option Elab.async false
set_option linter.all false
set_option maxRecDepth 100000
set_option maxHeartbeats 4000000
/-! S19 (printed by gen2.py lib): certificates. -/
namespace GP
open PySem PySem.Spec PyProof.Rows L2
/-! _law_begun: slots 0 _law_script 1 _law_great 2 _law_cell; calls ; cost 0 -/
/-! _law_mixed: slots 0 _law_state 1 _law_found 2 _law_prime 3 _law_blend 4 _law_cell; calls ; cost 0 -/
/-! _law_take: slots 0 _law_state 1 _law_size 2 _law_found; calls _law_mixed; cost 1 -/
/-! _law_pick: slots 0 _law_state 1 _law_some; calls _law_take; cost 1 -/
/-! _law_words: slots 0 _law_state 1 _law_size 2 _law_own 3 _law_letters 4 _law_found 5 _law_k 6 _law_word 7 _law_j 8 _law_letter 9 _law_other; calls _law_pick _law_take; cost 99 -/
/-! Forest.__init__: slots 0 self 1 rows 2 row 3 name 4 parent; calls is_list is_row; cost 0 -/
/-! counted_by: slots 0 forest 1 claims 2 spent 3 found 4 name 5 account 6 claim 7 amount; calls Forest.names Forest.ancestors; cost 0; new; draws nothing -/
def t_counted_by (Γ : Cn) : TS := tSeq (tAsg (tDc (gIter Γ.K (tProp (Γ.adr "Forest") (sp_Forest_names Γ) [] E0 (tVar 0))) (gName 4) (tYes) (tVar 4) (tC (.int 0)) [4]) (gName 3)) (tSeq (tFor (iZipK Γ.K
   (tCons (tVar 1) (tCons (tVar 2) (tNil)))) (gTup Γ.K 2 (gCons (gTup Γ.K 2 (gCons (gName 5) (gCons (gName 6) (gNil)))) (gCons (gName 7) (gNil)))) (tFor (gIter Γ.K (tMt
   (Γ.adr "Forest") "ancestors" (sp_Forest_ancestors Γ) E0 (tVar 0) (tCons (tVar 5) (tNil)))) (gName 4) (sDAug (tVar 3) (tVar 4) (tVar 7) rAdd))) (tRet (tVar 3)))
def d_counted_by_b1 : DQ := dAugO (fInt fun i j => some (.int (i + j))) 3 (dVar 4) (dVar 7)
def d_counted_by_b2 : DQ := dFor (dIter (dMt "Forest" "ancestors" dp_Forest_ancestors (dVarS 0) (dCons (dVarS 5) (dNil)))) (dName 4) (d_counted_by_b1)
def d_counted_by : DQ := dSeq (dAsgO (dDc (dIter (dPr "Forest" dp_Forest_names (dVarS 0))) (dName 4) (dYes) (dVarS 4) (dC (.int 0)) [4]) 3) (dSeq (dFor (dZipK (dCons (dVarS 1) (dCons (dVarS 2)
   (dNil)))) (dTup21 5 6 7) (d_counted_by_b2)) (dRetV 3))
theorem snd_counted_by {Γ : Cn} (c_Forest : Γ.cls "Forest" = some (Γ.adr "Forest")) {L : LS} : SS Γ L 0 (t_counted_by Γ) d_counted_by := by
  unfold t_counted_by d_counted_by d_counted_by_b2 d_counted_by_b1
  exact s_seq (s_asgO 3 (s_dc (s_iterT (SE.t (s_pr (s := dp_Forest_names) (cf := 0) c_Forest (s_varS 0)))) (s_name 4) (s_yes) (SE.t (s_varS 4)) (s_c fun _ => .int _))) (s_seq
   (s_for (s_zipK (s_cons (s_varS 1) (s_cons (s_varS 2) (s_nil)))) (s_tup21 5 6 7) (s_for (s_iter (SF.e (s_mtF (s := dp_Forest_ancestors) (cf := 0) c_Forest (s_varS 0)
   (s_cons (s_varS 5) (s_nil))))) (s_name 4) (s_augO 3 o_rAdd (s_var 4) (s_var 7)))) (s_retV 3))
def dp_counted_by : DSp := dpOfF 8 d_counted_by
def sp_counted_by (Γ : Cn) : Sp := liftF Γ 3 0 dp_counted_by
def r_counted_by_b1 : RQ := rAugO (fInt fun i j => some (.int (i + j))) 3 (rVar 4) (rVar 7)
def r_counted_by_b2 : RQ := rFor (rIter (rMt "Forest" "ancestors" R_Forest_ancestors (rVarS 0) (rCons (rVarS 5) (rNil)))) (rName 4) (r_counted_by_b1)
def r_counted_by : RQ := rSeq (rAsgO (rDc (rIter (rPr "Forest" R_Forest_names (rVarS 0))) (rName 4) (rYes) (rVarS 4) (rC (.int 0)) [4]) 3) (rSeq (rFor (rZipK (rCons (rVarS 1) (rCons (rVarS 2)
   (rNil)))) (rTup21 5 6 7) (r_counted_by_b2)) (rRetV true 3))
def R_counted_by : List D → Option D := runOfF 8 r_counted_by
theorem ag_counted_by : AgF dp_counted_by R_counted_by := by
  refine ag_ofF ?_
  unfold d_counted_by r_counted_by d_counted_by_b2 r_counted_by_b2 d_counted_by_b1 r_counted_by_b1
  exact a_seq (a_asgO (a_dc (a_iter (a_pr ag_Forest_names (a_varS 0))) (a_name 4) (a_yes) (a_varS 4) (a_c _))) (a_seq (a_for (a_zipK (a_cons (a_varS 1) (a_cons (a_varS 2)
   (a_nil)))) (a_tup21 5 6 7) (a_for (a_iter (a_mt ag_Forest_ancestors (a_varS 0) (a_cons (a_varS 5) (a_nil)))) (a_name 4) (a_augO (a_var 4) (a_var 7)))) (a_retV))
/-! tight_names: slots 0 forest 1 claims 2 balances 3 spent 4 rank 5 counted 6 whole 7 name; calls counted_by total_by Forest.ancestors; cost 0; new; draws nothing -/
def t_tight_names (Γ : Cn) : TS := tSeq (tAsg (tTup (tCons (tFn (sp_counted_by Γ) E0 (tCons (tVar 0) (tCons (tSl (gSl Γ.K) (tVar 1) (tNoPart) (tPart (tOp (gAdd Γ.K) (tVar 4) (tC (.int 1))))) (tCons (tSl
   (gSl Γ.K) (tVar 3) (tNoPart) (tPart (tOp (gAdd Γ.K) (tVar 4) (tC (.int 1))))) (tNil))))) (tCons (tFn (sp_total_by Γ) E0 (tCons (tVar 0) (tCons (tVar 2) (tNil))))
   (tNil)))) (gTup Γ.K 2 (gCons (gName 5) (gCons (gName 6) (gNil))))) (tRet (tLc (gIter Γ.K (tMt (Γ.adr "Forest") "ancestors" (sp_Forest_ancestors Γ) E0 (tVar 0) (tCons
   (tOp (gIx Γ.K) (tOp (gIx Γ.K) (tVar 1) (tVar 4)) (tC (.int 0))) (tNil)))) (gName 7) (tTest (tOp (gEq Γ.K) (tOp (gIx Γ.K) (tVar 5) (tVar 7)) (tOp (gIx Γ.K) (tVar 6)
   (tVar 7)))) (tVar 7) [7]))
def d_tight_names : DQ := dSeq (dPar false false 5 6 (dFn dp_counted_by (dCons (dVarS 0) (dCons (dSl (dVar 1) (dNoPart) (dPart (dOp fAdd (dVar 4) (dC (.int 1))))) (dCons (dSl (dVar 3) (dNoPart)
   (dPart (dOp fAdd (dVar 4) (dC (.int 1))))) (dNil))))) (dFn dp_total_by (dCons (dVarS 0) (dCons (dVarS 2) (dNil))))) (dRetF (dLc (dIter (dMt "Forest" "ancestors"
   dp_Forest_ancestors (dVarS 0) (dCons (dOp fIx (dOp fIx (dVar 1) (dVar 4)) (dC (.int 0))) (dNil)))) (dName 7) (dTest (dOp fEq (dOp fIx (dVar 5) (dVar 7)) (dOp fIx (dVar
   6) (dVar 7)))) (dVarS 7) [7]))
theorem snd_tight_names {Γ : Cn} (c_Forest : Γ.cls "Forest" = some (Γ.adr "Forest")) {L : LS} : SS Γ L 0 (t_tight_names Γ) d_tight_names := by
  unfold t_tight_names d_tight_names
  exact s_seq (s_parT (k1 := false) (k2 := false) 5 6 (SF.e (s_fnF (s := dp_counted_by) (cf := 0) (s_cons (s_varS 0) (s_cons (s_sl (s_var 1) (s_noPart) (s_part (SE.t (s_op o_add
   (s_var 4) (SE.t (s_c fun _ => .int _)))))) (s_cons (s_sl (s_var 3) (s_noPart) (s_part (SE.t (s_op o_add (s_var 4) (SE.t (s_c fun _ => .int _)))))) (s_nil)))))) (SF.e
   (s_fnF (s := dp_total_by) (cf := 0) (s_cons (s_varS 0) (s_cons (s_varS 2) (s_nil)))))) (s_retF (s_lc (s_iterT (SF.t (s_mtF (s := dp_Forest_ancestors) (cf := 0)
   c_Forest (s_varS 0) (s_cons (s_op o_ix (SE.t (s_op o_ix (s_var 1) (s_var 4))) (SE.t (s_c fun _ => .int _))) (s_nil))))) (s_name 7) (s_test (SE.t (s_op o_eq (SE.t (s_op
   o_ix (s_var 5) (s_var 7))) (SE.t (s_op o_ix (s_var 6) (s_var 7)))))) (s_varS 7)))
def dp_tight_names : DSp := dpOfF 8 d_tight_names
def sp_tight_names (Γ : Cn) : Sp := liftF Γ 5 0 dp_tight_names
def r_tight_names : RQ := rSeq (rPar false false 5 6 (rFn R_counted_by (rCons (rVarS 0) (rCons (rSl (rVar 1) (rNoPart) (rPart (rOp fAdd (rVar 4) (rC (.int 1))))) (rCons (rSl (rVar 3) (rNoPart)
   (rPart (rOp fAdd (rVar 4) (rC (.int 1))))) (rNil))))) (rFn R_total_by (rCons (rVarS 0) (rCons (rVarS 2) (rNil))))) (rRet (rLc (rIter (rMt "Forest" "ancestors"
   R_Forest_ancestors (rVarS 0) (rCons (rOp fIx (rOp fIx (rVar 1) (rVar 4)) (rC (.int 0))) (rNil)))) (rName 7) (rTest (rOp fEq (rOp fIx (rVar 5) (rVar 7)) (rOp fIx (rVar
   6) (rVar 7)))) (rVarS 7) [7]))
def R_tight_names : List D → Option D := runOfF 8 r_tight_names
theorem ag_tight_names : AgF dp_tight_names R_tight_names := by
  refine ag_ofF ?_
  unfold d_tight_names r_tight_names
  exact a_seq (a_par (a_fn ag_counted_by (a_cons (a_varS 0) (a_cons (a_sl (a_var 1) (a_noPart) (a_part (a_op (a_var 4) (a_c _)))) (a_cons (a_sl (a_var 3) (a_noPart) (a_part (a_op
   (a_var 4) (a_c _)))) (a_nil))))) (a_fn ag_total_by (a_cons (a_varS 0) (a_cons (a_varS 2) (a_nil))))) (a_retF (a_lc (a_iter (a_mt ag_Forest_ancestors (a_varS 0) (a_cons
   (a_op (a_op (a_var 1) (a_var 4)) (a_c _)) (a_nil)))) (a_name 7) (a_test (a_op (a_op (a_var 5) (a_var 7)) (a_op (a_var 6) (a_var 7)))) (a_varS 7)))
/-! certificate: slots 0 forest 1 claims 2 balances 3 amounts 4 found 5 rank 6 account 7 claim; calls entitlements tight_names; cost 0; new; draws nothing -/
def t_certificate (Γ : Cn) : TS := tSeq (tAsg (tFn (sp_entitlements Γ) E0 (tCons (tVar 0) (tCons (tVar 1) (tCons (tVar 2) (tNil))))) (gName 3)) (tSeq (tAsg (tLst (tNil)) (gName 4)) (tSeq (tFor (iEnumK Γ.K
   (tCons (tVar 1) (tNil))) (gTup Γ.K 2 (gCons (gName 5) (gCons (gTup Γ.K 2 (gCons (gName 6) (gCons (gName 7) (gNil)))) (gNil)))) (tIfS (tTest (tOp (gEq Γ.K) (tOp (gIx
   Γ.K) (tVar 3) (tVar 5)) (tVar 7))) (tDrop (tBM Γ.K "list" rAppend (tVar 4) (tCons (tC .non) tNil))) (tDrop (tBM Γ.K "list" rAppend (tVar 4) (tCons (tOp (gIx Γ.K) (tFn
   (sp_tight_names Γ) E0 (tCons (tVar 0) (tCons (tVar 1) (tCons (tVar 2) (tCons (tVar 3) (tCons (tVar 5) (tNil))))))) (tC (.int 0))) tNil))))) (tRet (tVar 4))))
def d_certificate_b1 : DQ := dIfS (dTest (dOp fEq (dOp fIx (dVar 3) (dVar 5)) (dVar 7))) (dApp 4 (dC .non)) (dApp 4 (dOp fIx (dFn dp_tight_names (dCons (dVarS 0) (dCons (dVarS 1) (dCons (dVarS 2)
   (dCons (dVarS 3) (dCons (dVarS 5) (dNil))))))) (dC (.int 0))))
def d_certificate : DQ := dSeq (dAsg (dFn dp_entitlements (dCons (dVarS 0) (dCons (dVarS 1) (dCons (dVarS 2) (dNil))))) 3) (dSeq (dAsgO (dLst (dNil)) 4) (dSeq (dFor (dEnumK (dCons (dVarS 1)
   (dNil))) (dTup12 5 6 7) (d_certificate_b1)) (dRetV 4)))
theorem snd_certificate {Γ : Cn} {L : LS} : SS Γ L 0 (t_certificate Γ) d_certificate := by
  unfold t_certificate d_certificate d_certificate_b1
  exact s_seq (s_asg 3 (SF.e (s_fnF (s := dp_entitlements) (cf := 0) (s_cons (s_varS 0) (s_cons (s_varS 1) (s_cons (s_varS 2) (s_nil))))))) (s_seq (s_asgO 4 (s_lst (s_nil)))
   (s_seq (s_for (s_enumK (s_cons (s_varS 1) (s_nil))) (s_tup12 5 6 7) (s_if (s_test (SE.t (s_op o_eq (SE.t (s_op o_ix (s_var 3) (s_var 5))) (s_var 7)))) (s_app 4 (s_c
   fun _ => .non)) (s_app 4 (s_op o_ix (SF.t (s_fnF (s := dp_tight_names) (cf := 0) (s_cons (s_varS 0) (s_cons (s_varS 1) (s_cons (s_varS 2) (s_cons (s_varS 3) (s_cons
   (s_varS 5) (s_nil)))))))) (SE.t (s_c fun _ => .int _)))))) (s_retV 4)))
def dp_certificate : DSp := dpOfF 8 d_certificate
def sp_certificate (Γ : Cn) : Sp := liftF Γ 3 0 dp_certificate
def r_certificate_b1 : RQ := rIfS (rTest (rOp fEq (rOp fIx (rVar 3) (rVar 5)) (rVar 7))) (rApp 4 (rC .non)) (rApp 4 (rOp fIx (rFn R_tight_names (rCons (rVarS 0) (rCons (rVarS 1) (rCons (rVarS 2)
   (rCons (rVarS 3) (rCons (rVarS 5) (rNil))))))) (rC (.int 0))))
def r_certificate : RQ := rSeq (rAsg (rFn R_entitlements (rCons (rVarS 0) (rCons (rVarS 1) (rCons (rVarS 2) (rNil))))) 3) (rSeq (rAsgO (rLst (rNil)) 4) (rSeq (rFor (rEnumK (rCons (rVarS 1)
   (rNil))) (rTup12 5 6 7) (r_certificate_b1)) (rRetV true 4)))
def R_certificate : List D → Option D := runOfF 8 r_certificate
theorem ag_certificate : AgF dp_certificate R_certificate := by
  refine ag_ofF ?_
  unfold d_certificate r_certificate d_certificate_b1 r_certificate_b1
  exact a_seq (a_asg (a_fn ag_entitlements (a_cons (a_varS 0) (a_cons (a_varS 1) (a_cons (a_varS 2) (a_nil)))))) (a_seq (a_asgO (a_lst (a_nil))) (a_seq (a_for (a_enumK (a_cons
   (a_varS 1) (a_nil))) (a_tup12 5 6 7) (a_ifS (a_test (a_op (a_op (a_var 3) (a_var 5)) (a_var 7))) (a_app (a_c _)) (a_app (a_op (a_fn ag_tight_names (a_cons (a_varS 0)
   (a_cons (a_varS 1) (a_cons (a_varS 2) (a_cons (a_varS 3) (a_cons (a_varS 5) (a_nil))))))) (a_c _))))) (a_retV)))
/-! is_result: slots 0 claims 1 value 2 amount 3 account 4 claim; calls is_between; cost 0; draws nothing -/
def t_is_result (Γ : Cn) : TS := tSeq (tIfS (tOr (tNot (tTru Γ.K (tCB (gIsi Γ.K) (tCons (tVar 1) (tCons (tC (.ty "list")) (tNil)))))) (tTest (tOp (gNe Γ.K) (tCB (gLen Γ.K) (tCons (tVar 1) (tNil))) (tCB
   (gLen Γ.K) (tCons (tVar 0) (tNil)))))) (tRet (tC (.bl false))) (tNext)) (tRet (tCB (rAll Γ.K) (tCons (tLc (iZipK Γ.K (tCons (tVar 1) (tCons (tVar 0) (tNil)))) (gTup
   Γ.K 2 (gCons (gName 2) (gCons (gTup Γ.K 2 (gCons (gName 3) (gCons (gName 4) (gNil)))) (gNil)))) (tYes) (tFn (sp_is_between Γ) E0 (tCons (tVar 2) (tCons (tC (.int 0))
   (tCons (tVar 4) (tNil))))) [2, 3, 4]) (tNil))))
def d_is_result : DQ := dSeq (dIfS (dOr (dNot (dTru (dCB fIsi (dCons (dVar 1) (dCons (dC (.ty "list")) (dNil)))))) (dTest (dOp fNe (dCB fLen (dCons (dVar 1) (dNil))) (dCB fLen (dCons (dVar 0)
   (dNil)))))) (dRet (dC (.bl false))) (dNext)) (dRet (dCB fAll (dCons (dLc (dZipK (dCons (dVarS 1) (dCons (dVarS 0) (dNil)))) (dTup12 2 3 4) (dYes) (dFn dp_is_between
   (dCons (dVarS 2) (dCons (dC (.int 0)) (dCons (dVarS 4) (dNil))))) [2, 3, 4]) (dNil))))
theorem snd_is_result {Γ : Cn} {L : LS} : SS Γ L 0 (t_is_result Γ) d_is_result := by
  unfold t_is_result d_is_result
  exact s_seq (s_if (s_or (s_not (s_tru (SE.t (s_cb k_isi (s_consT (s_var 1) (s_consT (SE.t (s_c fun _ => .ty _)) (s_nilT))))))) (s_test (SE.t (s_op o_ne (SE.t (s_cb k_len
   (s_consT (s_var 1) (s_nilT)))) (SE.t (s_cb k_len (s_consT (s_var 0) (s_nilT)))))))) (s_ret (s_c fun _ => .bl _)) (s_next)) (s_ret (s_cb k_all (s_consT (SF.t (s_lc
   (s_zipK (s_cons (s_varS 1) (s_cons (s_varS 0) (s_nil)))) (s_tup12 2 3 4) (s_yes) (s_fn (s := dp_is_between) (cf := 0) (s_cons (s_varS 2) (s_cons (s_c fun _ => .int _)
   (s_cons (s_varS 4) (s_nil))))))) (s_nilT))))
def dp_is_result : DSp := dpOf 5 d_is_result
def sp_is_result (Γ : Cn) : Sp := lift Γ 2 0 dp_is_result
def r_is_result : RQ := rSeq (rIfS (rOr (rNot (rTru (rCB fIsi (rCons (rVar 1) (rCons (rC (.ty "list")) (rNil)))))) (rTest (rOp fNe (rCB fLen (rCons (rVar 1) (rNil))) (rCB fLen (rCons (rVar 0)
   (rNil)))))) (rRet (rC (.bl false))) (rNext)) (rRet (rCB fAll (rCons (rLc (rZipK (rCons (rVarS 1) (rCons (rVarS 0) (rNil)))) (rTup12 2 3 4) (rYes) (rFn R_is_between
   (rCons (rVarS 2) (rCons (rC (.int 0)) (rCons (rVarS 4) (rNil))))) [2, 3, 4]) (rNil))))
def R_is_result : List D → Option D := runOf 5 r_is_result
theorem ag_is_result : AgF dp_is_result R_is_result := by
  refine ag_of ?_
  unfold d_is_result r_is_result
  exact a_seq (a_ifS (a_or (a_not (a_tru (a_cb (a_cons (a_var 1) (a_cons (a_c _) (a_nil)))))) (a_test (a_op (a_cb (a_cons (a_var 1) (a_nil))) (a_cb (a_cons (a_var 0) (a_nil))))))
   (a_ret (a_c _)) (a_next)) (a_ret (a_cb (a_cons (a_lc (a_zipK (a_cons (a_varS 1) (a_cons (a_varS 0) (a_nil)))) (a_tup12 2 3 4) (a_yes) (a_fn ag_is_between (a_cons
   (a_varS 2) (a_cons (a_c _) (a_cons (a_varS 4) (a_nil)))))) (a_nil))))
/-! first_overdrawn: slots 0 forest 1 claims 2 spent 3 balances 4 counted 5 whole 6 found 7 name; calls counted_by total_by Forest.names; cost 0; draws nothing -/
def t_first_overdrawn (Γ : Cn) : TS := tSeq (tAsg (tTup (tCons (tFn (sp_counted_by Γ) E0 (tCons (tVar 0) (tCons (tVar 1) (tCons (tVar 2) (tNil))))) (tCons (tFn (sp_total_by Γ) E0 (tCons (tVar 0) (tCons (tVar
   3) (tNil)))) (tNil)))) (gTup Γ.K 2 (gCons (gName 4) (gCons (gName 5) (gNil))))) (tSeq (tAsg (tLc (gIter Γ.K (tProp (Γ.adr "Forest") (sp_Forest_names Γ) [] E0 (tVar
   0))) (gName 7) (tTest (tOp (gGt) (tOp (gIx Γ.K) (tVar 4) (tVar 7)) (tOp (gIx Γ.K) (tVar 5) (tVar 7)))) (tVar 7) [7]) (gName 6)) (tRet (tIf (tTest (tOp (gNe Γ.K) (tVar
   6) (tLst (tNil)))) (tOp (gIx Γ.K) (tVar 6) (tC (.int 0))) (tC .non))))
def d_first_overdrawn : DQ := dSeq (dPar false false 4 5 (dFn dp_counted_by (dCons (dVarS 0) (dCons (dVarS 1) (dCons (dVarS 2) (dNil))))) (dFn dp_total_by (dCons (dVarS 0) (dCons (dVarS 3) (dNil)))))
   (dSeq (dAsg (dLc (dIter (dPr "Forest" dp_Forest_names (dVarS 0))) (dName 7) (dTest (dOp fGt (dOp fIx (dVar 4) (dVar 7)) (dOp fIx (dVar 5) (dVar 7)))) (dVarS 7) [7]) 6)
   (dRet (dIf (dTest (dOp fNe (dVar 6) (dLst (dNil)))) (dOp fIx (dVar 6) (dC (.int 0))) (dC .non))))
theorem snd_first_overdrawn {Γ : Cn} (c_Forest : Γ.cls "Forest" = some (Γ.adr "Forest")) {L : LS} : SS Γ L 0 (t_first_overdrawn Γ) d_first_overdrawn := by
  unfold t_first_overdrawn d_first_overdrawn
  exact s_seq (s_parT (k1 := false) (k2 := false) 4 5 (SF.e (s_fnF (s := dp_counted_by) (cf := 0) (s_cons (s_varS 0) (s_cons (s_varS 1) (s_cons (s_varS 2) (s_nil)))))) (SF.e
   (s_fnF (s := dp_total_by) (cf := 0) (s_cons (s_varS 0) (s_cons (s_varS 3) (s_nil)))))) (s_seq (s_asg 6 (SF.e (s_lc (s_iterT (SE.t (s_pr (s := dp_Forest_names) (cf :=
   0) c_Forest (s_varS 0)))) (s_name 7) (s_test (SE.t (s_op o_gt (SE.t (s_op o_ix (s_var 4) (s_var 7))) (SE.t (s_op o_ix (s_var 5) (s_var 7)))))) (s_varS 7)))) (s_ret
   (s_if' (s_test (SE.t (s_op o_ne (s_var 6) (SF.t (s_lst (s_nil)))))) (s_op o_ix (s_var 6) (SE.t (s_c fun _ => .int _))) (s_c fun _ => .non))))
def dp_first_overdrawn : DSp := dpOf 8 d_first_overdrawn
def sp_first_overdrawn (Γ : Cn) : Sp := lift Γ 4 0 dp_first_overdrawn
def r_first_overdrawn : RQ := rSeq (rPar false false 4 5 (rFn R_counted_by (rCons (rVarS 0) (rCons (rVarS 1) (rCons (rVarS 2) (rNil))))) (rFn R_total_by (rCons (rVarS 0) (rCons (rVarS 3) (rNil)))))
   (rSeq (rAsg (rLc (rIter (rPr "Forest" R_Forest_names (rVarS 0))) (rName 7) (rTest (rOp fGt (rOp fIx (rVar 4) (rVar 7)) (rOp fIx (rVar 5) (rVar 7)))) (rVarS 7) [7]) 6)
   (rRet (rIf (rTest (rOp fNe (rVar 6) (rLst (rNil)))) (rOp fIx (rVar 6) (rC (.int 0))) (rC .non))))
def R_first_overdrawn : List D → Option D := runOf 8 r_first_overdrawn
theorem ag_first_overdrawn : AgF dp_first_overdrawn R_first_overdrawn := by
  refine ag_of ?_
  unfold d_first_overdrawn r_first_overdrawn
  exact a_seq (a_par (a_fn ag_counted_by (a_cons (a_varS 0) (a_cons (a_varS 1) (a_cons (a_varS 2) (a_nil))))) (a_fn ag_total_by (a_cons (a_varS 0) (a_cons (a_varS 3) (a_nil)))))
   (a_seq (a_asg (a_lc (a_iter (a_pr ag_Forest_names (a_varS 0))) (a_name 7) (a_test (a_op (a_op (a_var 4) (a_var 7)) (a_op (a_var 5) (a_var 7)))) (a_varS 7))) (a_ret
   (a_if (a_test (a_op (a_var 6) (a_lst (a_nil)))) (a_op (a_var 6) (a_c _)) (a_c _))))
/-! shows_entitlements: slots 0 forest 1 claims 2 balances 3 result 4 witness 5 rank 6 account 7 claim; calls need_claims need_balances is_result first_overdrawn tight_names; cost 0; draws nothing -/
def t_shows_entitlements (Γ : Cn) : TS := tSeq (tDrop (tFn (sp_need_claims Γ) E0 (tCons (tVar 0) (tCons (tVar 1) (tNil))))) (tSeq (tDrop (tFn (sp_need_balances Γ) E0 (tCons (tVar 0) (tCons (tVar 2) (tNil)))))
   (tSeq (tIfS (tOr (tNot (tTru Γ.K (tFn (sp_is_result Γ) E0 (tCons (tVar 1) (tCons (tVar 3) (tNil)))))) (tTest (tOp (gIsNot) (tFn (sp_first_overdrawn Γ) E0 (tCons (tVar
   0) (tCons (tVar 1) (tCons (tVar 3) (tCons (tVar 2) (tNil)))))) (tC .non)))) (tRet (tC (.bl false))) (tNext)) (tSeq (tIfS (tOr (tNot (tTru Γ.K (tCB (gIsi Γ.K) (tCons
   (tVar 4) (tCons (tC (.ty "list")) (tNil)))))) (tTest (tOp (gNe Γ.K) (tCB (gLen Γ.K) (tCons (tVar 4) (tNil))) (tCB (gLen Γ.K) (tCons (tVar 1) (tNil)))))) (tRet (tC (.bl
   false))) (tNext)) (tSeq (tFor (iEnumK Γ.K (tCons (tVar 1) (tNil))) (gTup Γ.K 2 (gCons (gName 5) (gCons (gTup Γ.K 2 (gCons (gName 6) (gCons (gName 7) (gNil))))
   (gNil)))) (tIfS (tTest (tOp (gEq Γ.K) (tOp (gIx Γ.K) (tVar 3) (tVar 5)) (tVar 7))) (tIfS (tTest (tOp (gIsNot) (tOp (gIx Γ.K) (tVar 4) (tVar 5)) (tC .non))) (tRet (tC
   (.bl false))) (tNext)) (tIfS (tNot (tTru Γ.K (tCB (gIsi Γ.K) (tCons (tOp (gIx Γ.K) (tVar 4) (tVar 5)) (tCons (tC (.ty "str")) (tNil)))))) (tRet (tC (.bl false))) (tIfS
   (tTest (tOp (gNotIn Γ.K) (tOp (gIx Γ.K) (tVar 4) (tVar 5)) (tFn (sp_tight_names Γ) E0 (tCons (tVar 0) (tCons (tVar 1) (tCons (tVar 2) (tCons (tVar 3) (tCons (tVar 5)
   (tNil))))))))) (tRet (tC (.bl false))) (tNext))))) (tRet (tC (.bl true)))))))
def d_shows_entitlements_b1 : DQ := dIfS (dTest (dOp fEq (dOp fIx (dVar 3) (dVar 5)) (dVar 7))) (dIfS (dTest (dOp fIsNot (dOp fIx (dVar 4) (dVar 5)) (dC .non))) (dRet (dC (.bl false))) (dNext)) (dIfS (dNot
   (dTru (dCB fIsi (dCons (dOp fIx (dVar 4) (dVar 5)) (dCons (dC (.ty "str")) (dNil)))))) (dRet (dC (.bl false))) (dIfS (dTest (dOp fNotIn (dOp fIx (dVar 4) (dVar 5))
   (dFn dp_tight_names (dCons (dVarS 0) (dCons (dVarS 1) (dCons (dVarS 2) (dCons (dVarS 3) (dCons (dVarS 5) (dNil))))))))) (dRet (dC (.bl false))) (dNext)))
def d_shows_entitlements : DQ := dSeq (dDrop (dFn dp_need_claims (dCons (dVarS 0) (dCons (dVarS 1) (dNil))))) (dSeq (dDrop (dFn dp_need_balances (dCons (dVarS 0) (dCons (dVarS 2) (dNil))))) (dSeq (dIfS
   (dOr (dNot (dTru (dFn dp_is_result (dCons (dVarS 1) (dCons (dVarS 3) (dNil)))))) (dTest (dOp fIsNot (dFn dp_first_overdrawn (dCons (dVarS 0) (dCons (dVarS 1) (dCons
   (dVarS 3) (dCons (dVarS 2) (dNil)))))) (dC .non)))) (dRet (dC (.bl false))) (dNext)) (dSeq (dIfS (dOr (dNot (dTru (dCB fIsi (dCons (dVar 4) (dCons (dC (.ty "list"))
   (dNil)))))) (dTest (dOp fNe (dCB fLen (dCons (dVar 4) (dNil))) (dCB fLen (dCons (dVar 1) (dNil)))))) (dRet (dC (.bl false))) (dNext)) (dSeq (dFor (dEnumK (dCons (dVarS
   1) (dNil))) (dTup12 5 6 7) (d_shows_entitlements_b1)) (dRet (dC (.bl true)))))))
theorem snd_shows_entitlements {Γ : Cn} {L : LS} : SS Γ L 0 (t_shows_entitlements Γ) d_shows_entitlements := by
  unfold t_shows_entitlements d_shows_entitlements d_shows_entitlements_b1
  exact s_seq (s_drop (SE.t (s_fn (s := dp_need_claims) (cf := 0) (s_cons (s_varS 0) (s_cons (s_varS 1) (s_nil)))))) (s_seq (s_drop (SE.t (s_fn (s := dp_need_balances) (cf := 0)
   (s_cons (s_varS 0) (s_cons (s_varS 2) (s_nil)))))) (s_seq (s_if (s_or (s_not (s_tru (SE.t (s_fn (s := dp_is_result) (cf := 0) (s_cons (s_varS 1) (s_cons (s_varS 3)
   (s_nil))))))) (s_test (SE.t (s_op o_isNot (SE.t (s_fn (s := dp_first_overdrawn) (cf := 0) (s_cons (s_varS 0) (s_cons (s_varS 1) (s_cons (s_varS 3) (s_cons (s_varS 2)
   (s_nil))))))) (SE.t (s_c fun _ => .non)))))) (s_ret (s_c fun _ => .bl _)) (s_next)) (s_seq (s_if (s_or (s_not (s_tru (SE.t (s_cb k_isi (s_consT (s_var 4) (s_consT
   (SE.t (s_c fun _ => .ty _)) (s_nilT))))))) (s_test (SE.t (s_op o_ne (SE.t (s_cb k_len (s_consT (s_var 4) (s_nilT)))) (SE.t (s_cb k_len (s_consT (s_var 1)
   (s_nilT)))))))) (s_ret (s_c fun _ => .bl _)) (s_next)) (s_seq (s_for (s_enumK (s_cons (s_varS 1) (s_nil))) (s_tup12 5 6 7) (s_if (s_test (SE.t (s_op o_eq (SE.t (s_op
   o_ix (s_var 3) (s_var 5))) (s_var 7)))) (s_if (s_test (SE.t (s_op o_isNot (SE.t (s_op o_ix (s_var 4) (s_var 5))) (SE.t (s_c fun _ => .non))))) (s_ret (s_c fun _ => .bl
   _)) (s_next)) (s_if (s_not (s_tru (SE.t (s_cb k_isi (s_consT (SE.t (s_op o_ix (s_var 4) (s_var 5))) (s_consT (SE.t (s_c fun _ => .ty _)) (s_nilT))))))) (s_ret (s_c fun
   _ => .bl _)) (s_if (s_test (SE.t (s_op o_notIn (SE.t (s_op o_ix (s_var 4) (s_var 5))) (SF.t (s_fnF (s := dp_tight_names) (cf := 0) (s_cons (s_varS 0) (s_cons (s_varS
   1) (s_cons (s_varS 2) (s_cons (s_varS 3) (s_cons (s_varS 5) (s_nil))))))))))) (s_ret (s_c fun _ => .bl _)) (s_next))))) (s_ret (s_c fun _ => .bl _))))))
def dp_shows_entitlements : DSp := dpOf 8 d_shows_entitlements
def sp_shows_entitlements (Γ : Cn) : Sp := lift Γ 5 0 dp_shows_entitlements
def r_shows_entitlements_b1 : RQ := rIfS (rTest (rOp fEq (rOp fIx (rVar 3) (rVar 5)) (rVar 7))) (rIfS (rTest (rOp fIsNot (rOp fIx (rVar 4) (rVar 5)) (rC .non))) (rRet (rC (.bl false))) (rNext)) (rIfS (rNot
   (rTru (rCB fIsi (rCons (rOp fIx (rVar 4) (rVar 5)) (rCons (rC (.ty "str")) (rNil)))))) (rRet (rC (.bl false))) (rIfS (rTest (rOp fNotIn (rOp fIx (rVar 4) (rVar 5))
   (rFn R_tight_names (rCons (rVarS 0) (rCons (rVarS 1) (rCons (rVarS 2) (rCons (rVarS 3) (rCons (rVarS 5) (rNil))))))))) (rRet (rC (.bl false))) (rNext)))
def r_shows_entitlements : RQ := rSeq (rDrop (rFn R_need_claims (rCons (rVarS 0) (rCons (rVarS 1) (rNil))))) (rSeq (rDrop (rFn R_need_balances (rCons (rVarS 0) (rCons (rVarS 2) (rNil))))) (rSeq (rIfS
   (rOr (rNot (rTru (rFn R_is_result (rCons (rVarS 1) (rCons (rVarS 3) (rNil)))))) (rTest (rOp fIsNot (rFn R_first_overdrawn (rCons (rVarS 0) (rCons (rVarS 1) (rCons
   (rVarS 3) (rCons (rVarS 2) (rNil)))))) (rC .non)))) (rRet (rC (.bl false))) (rNext)) (rSeq (rIfS (rOr (rNot (rTru (rCB fIsi (rCons (rVar 4) (rCons (rC (.ty "list"))
   (rNil)))))) (rTest (rOp fNe (rCB fLen (rCons (rVar 4) (rNil))) (rCB fLen (rCons (rVar 1) (rNil)))))) (rRet (rC (.bl false))) (rNext)) (rSeq (rFor (rEnumK (rCons (rVarS
   1) (rNil))) (rTup12 5 6 7) (r_shows_entitlements_b1)) (rRet (rC (.bl true)))))))
def R_shows_entitlements : List D → Option D := runOf 8 r_shows_entitlements
theorem ag_shows_entitlements : AgF dp_shows_entitlements R_shows_entitlements := by
  refine ag_of ?_
  unfold d_shows_entitlements r_shows_entitlements d_shows_entitlements_b1 r_shows_entitlements_b1
  exact a_seq (a_drop (a_fn ag_need_claims (a_cons (a_varS 0) (a_cons (a_varS 1) (a_nil))))) (a_seq (a_drop (a_fn ag_need_balances (a_cons (a_varS 0) (a_cons (a_varS 2)
   (a_nil))))) (a_seq (a_ifS (a_or (a_not (a_tru (a_fn ag_is_result (a_cons (a_varS 1) (a_cons (a_varS 3) (a_nil)))))) (a_test (a_op (a_fn ag_first_overdrawn (a_cons
   (a_varS 0) (a_cons (a_varS 1) (a_cons (a_varS 3) (a_cons (a_varS 2) (a_nil)))))) (a_c _)))) (a_ret (a_c _)) (a_next)) (a_seq (a_ifS (a_or (a_not (a_tru (a_cb (a_cons
   (a_var 4) (a_cons (a_c _) (a_nil)))))) (a_test (a_op (a_cb (a_cons (a_var 4) (a_nil))) (a_cb (a_cons (a_var 1) (a_nil)))))) (a_ret (a_c _)) (a_next)) (a_seq (a_for
   (a_enumK (a_cons (a_varS 1) (a_nil))) (a_tup12 5 6 7) (a_ifS (a_test (a_op (a_op (a_var 3) (a_var 5)) (a_var 7))) (a_ifS (a_test (a_op (a_op (a_var 4) (a_var 5)) (a_c
   _))) (a_ret (a_c _)) (a_next)) (a_ifS (a_not (a_tru (a_cb (a_cons (a_op (a_var 4) (a_var 5)) (a_cons (a_c _) (a_nil)))))) (a_ret (a_c _)) (a_ifS (a_test (a_op (a_op
   (a_var 4) (a_var 5)) (a_fn ag_tight_names (a_cons (a_varS 0) (a_cons (a_varS 1) (a_cons (a_varS 2) (a_cons (a_varS 3) (a_cons (a_varS 5) (a_nil))))))))) (a_ret (a_c
   _)) (a_next))))) (a_ret (a_c _))))))
end GP

set_option Elab.async false
set_option linter.all false
set_option maxRecDepth 100000
set_option maxHeartbeats 400000
/-! S20: counted_by, tight_names, first_overdrawn, certificate, is_result, shows_entitlements on right arguments. -/
namespace GP
open PySem PySem.Spec PyProof.Rows L2
@[simp] theorem x_enumK {r : RA} {δ : DS} : rEnumK r δ = (r δ).bind enumKD := rfl
@[simp] theorem x_zipK {r : RA} {δ : DS} : rZipK r δ = (r δ).bind zipKD := rfl
theorem sq_cl {cl : D} {cs : List (Str × Int)} (h : cl = .lst (cs.map clD) ∨ cl = .tup (cs.map clD)) : sqD cl = some (cs.map clD) := by
  rcases h with rfl | rfl <;> rfl
theorem sq_in {sp : D} {xs : List Int} (h : sp = .lst (xs.map .int) ∨ sp = .tup (xs.map .int)) : sqD sp = some (xs.map .int) := by
  rcases h with rfl | rfl <;> rfl
theorem aug_mapK {ns : List Str} (nd : ns.Nodup) (hl : ns.length ≤ 1000) (f : Str → Int) {n : Str} (h : n ∈ ns) (v : Int) : augD (fInt fun i j => some (.int (i + j))) (mapK ns f) (.str n) (.int v) = some (.dct (mapK ns (bump f n v))) := by
  unfold augD
  rw [keyD_s, Option.bind_some, valD_mapK, if_pos h, Option.bind_some]
  show (if (mapK ns f).length < LIM then some (D.dct (putD (mapK ns f) (.inr n) (.int (f n + v)))) else none) = _
  rw [put_mapK nd f h, if_pos (by unfold mapK; rw [List.length_map]; show _ < 1000000; omega)]
theorem nms_len {rows : List Row} (ok : OkF rows) : (nms rows).length ≤ 8 := by
  have := ok.le
  unfold nms
  rw [List.length_map]
  omega
/-- slots: forest claims spent found name account claim amount -/
def ctS (rows : List Row) (cl sl : D) (f : Str → Int) (a b c d : Option Sl) : DS := [some (.sh (forD rows)), some (.sh cl), some (.sh sl), some (.ow (.dct (mapK (nms rows) f))), a, b, c, d]
theorem ct_body {rows : List Row} (ok : OkF rows) (wl sl : D) (f : Str → Int) (p : (Str × Int) × Int) (hp : p.1.1 ∈ nms rows) (a b c d : Option Sl) :
    ∃ a' b' c' d', ((rTup21 5 6 7 (.tup [clD p.1, .int p.2]) (ctS rows wl sl f a b c d)).bind r_counted_by_b2) = some (.nx (ctS rows wl sl (bumps f (anc rows p.1.1) p.2) a' b' c' d')) := by
  obtain ⟨δ', h1, a', h2⟩ := for_fold (α := Str) (S := Str → Int) (g := rName 4) (b := r_counted_by_b1) (e := D.str) (fun f δ => ∃ a', δ = ctS rows wl sl f a' (some (.sh (.str p.1.1))) (some (.sh (.int p.1.2))) (some (.sh (.int p.2)))) (fun f n => bump f n p.2) (anc rows p.1.1) f (ctS rows wl sl f a (some (.sh (.str p.1.1))) (some (.sh (.int p.1.2))) (some (.sh (.int p.2)))) ⟨a, rfl⟩ (fun n hm f δ ⟨a', e⟩ => by
    subst e
    refine ⟨_, ?_, some (.sh (.str n)), rfl⟩
    have hn' := anc_in ok hp hm
    have hl := nms_len ok
    simp [r_counted_by_b1, rAugO, ctS, aug_mapK ok.nd (by omega) f hn'])
  subst h2
  refine ⟨a', some (.sh (.str p.1.1)), some (.sh (.int p.1.2)), some (.sh (.int p.2)), ?_⟩
  unfold ctS at h1
  simp [r_counted_by_b2, ctS, clD, met_for rows _ m2, R_ancestors ok hp] at h1 ⊢
  simp [h1, bumps]
theorem R_counted_by_ok {rows : List Row} (ok : OkF rows) {cl sp : D} {cs : List (Str × Int)} (h : cl = .lst (cs.map clD) ∨ cl = .tup (cs.map clD)) (hc : ∀ c ∈ cs, c.1 ∈ nms rows) {xs : List Int} (hs : sp = .lst (xs.map .int) ∨ sp = .tup (xs.map .int)) : R_counted_by [forD rows, cl, sp] = some (.dct (mapK (nms rows) (gath rows (prs cs xs)))) := by
  obtain ⟨δ', h1, a, b, c, d, h2⟩ := for_fold (α := (Str × Int) × Int) (S := Str → Int) (g := rTup21 5 6 7) (b := r_counted_by_b2) (e := fun p => .tup [clD p.1, .int p.2]) (fun f δ => ∃ a b c d, δ = ctS rows cl sp f a b c d) (fun f p => bumps f (anc rows p.1.1) p.2) (cs.zip xs) (fun _ => 0) (ctS rows cl sp (fun _ => 0) none none none none) ⟨none, none, none, none, rfl⟩ (fun p hm f δ ⟨a, b, c, d, e⟩ => by
    subst e
    obtain ⟨a', b', c', d', h⟩ := ct_body ok cl sp f p (hc _ (List.of_mem_zip hm).1) a b c d
    exact ⟨_, h, a', b', c', d', rfl⟩)
  subst h2
  have hf : ((cs.zip xs).foldl (fun f p => bumps f (anc rows p.1.1) p.2) fun _ => 0) = gath rows (prs cs xs) := by
    funext n
    have e : prs cs xs = (cs.zip xs).map fun p => (p.1.1, p.2) := by
      unfold prs
      rw [List.zip, List.map_zipWith]
    have := gath_fold ok (prs cs xs) (fun _ => 0) n (fun p hp => by
      rw [e] at hp
      obtain ⟨q, hq, rfl⟩ := List.mem_map.mp hp
      exact hc q.1 (List.of_mem_zip hq).1)
    rw [e, List.foldl_map] at this
    rw [this, e]
    omega
  rw [hf] at h1
  have hd : ∀ a b c d e f g, dcL (dcStep (rName 4) rYes (rVarS 4) (rC (.int 0)) ([a, b, c, d, none, e, f, g] : DS)) ((nms rows).map .str) [] = some (mapK (nms rows) fun _ => 0) := fun a b c d e f g => dcL_names ok.nd fun m hm => by simp
  have hzip : zipKD [cl, sp] = some ((cs.zip xs).map fun p => .tup [clD p.1, .int p.2]) := by
    show ((sqD cl).bind fun xs => (sqD sp).map fun ys => xs.zipWith (fun x y => D.tup [x, y]) ys) = _
    rw [sq_cl h, sq_in hs, Option.bind_some, Option.map_some, zip_eq]
  unfold ctS at h1
  simp [-x_dcStep, R_counted_by, runOfF, r_counted_by, R_names, ins_for, hd, hzip, rRetV] at h1 ⊢
  simp [h1]
/-! ### tight accounts -/
def tig (rows : List Row) (bs : List (Str × Int)) (cs : List (Str × Int)) (xs : List Int) (k : Nat) (a : Str) : List Str := (anc rows a).filter fun n => decide (gath rows (prs (cs.take (k + 1)) (xs.take (k + 1))) n = tot rows (balOf bs) n)
theorem sl_take1' {α : Type} (e : α → D) (xs : List α) (k : Nat) : fSl none (some ((k : Int) + 1)) (.lst (xs.map e)) = some (.lst ((xs.take (k + 1)).map e)) := by
  have := sl_take e xs (k + 1)
  rw [← this]
  rfl
theorem sl_take1T {α : Type} (e : α → D) (xs : List α) (k : Nat) : fSl none (some ((k : Int) + 1)) (.tup (xs.map e)) = some (.tup ((xs.take (k + 1)).map e)) := by
  show some (D.tup (cutD (xs.map e) none (some (((k + 1 : Nat) : Int))))) = _
  rw [cut_take, List.map_take]
theorem sl_cl {cl : D} {cs : List (Str × Int)} (h : cl = .lst (cs.map clD) ∨ cl = .tup (cs.map clD)) (k : Nat) : ∃ z, fSl none (some ((k : Int) + 1)) cl = some z ∧ (z = .lst ((cs.take (k + 1)).map clD) ∨ z = .tup ((cs.take (k + 1)).map clD)) := by
  rcases h with rfl | rfl
  · exact ⟨_, sl_take1' clD cs k, .inl rfl⟩
  · exact ⟨_, sl_take1T clD cs k, .inr rfl⟩
theorem R_tight_ok {rows : List Row} (ok : OkF rows) {cl : D} {cs : List (Str × Int)} (h : cl = .lst (cs.map clD) ∨ cl = .tup (cs.map clD)) (hc : ∀ c ∈ cs, c.1 ∈ nms rows) (bs : List (Str × Int)) (xs : List Int) {k : Nat} {c : Str × Int} (hk : cs[k]? = some c) :
    R_tight_names [forD rows, cl, .dct (balK bs), .lst (xs.map .int), .int k] = some (.lst ((tig rows bs cs xs k c.1).map .str)) := by
  obtain ⟨z, hz, hz2⟩ := sl_cl h k
  have hct := R_counted_by_ok ok hz2 (fun c hc' => hc c (List.mem_of_mem_take hc')) (xs := xs.take (k + 1)) (.inl rfl)
  have hcm := hc c (List.mem_of_getElem? hk)
  have h1 : ∀ a b c' d e, compL (lcStep (rName 7) (rTest (rOp fEq (rOp fIx (rVar 5) (rVar 7)) (rOp fIx (rVar 6) (rVar 7)))) (rVarS 7) ([a, b, c', d, e, some (.sh (.dct (mapK (nms rows) (gath rows (prs (cs.take (k + 1)) (xs.take (k + 1))))))), some (.sh (.dct (mapK (nms rows) (tot rows (balOf bs))))), none] : DS)) ((anc rows c.1).map .str) = some ((tig rows bs cs xs k c.1).map .str) := fun a b c' d e => by
    refine compL_filter fun n hn => ?_
    have hn' := anc_in ok hcm hn
    simp [ix_mapK _ hn']
    split <;> rfl
  have hi := fIx_cl h hk
  have hi0 : fIx (clD c) (.int 0) = some (.str c.1) := rfl
  simp [-x_lcStep, -List.map_take, R_tight_names, runOfF, r_tight_names, hz, sl_take1' D.int xs k, hct, R_total ok, hi, hi0, met_for rows _ m2, R_ancestors ok hcm, h1]
/-! ### the first overdrawn account -/
theorem ix_hd (n : Str) (l : List Str) : fIx (.lst ((n :: l).map .str)) (.int 0) = some (.str n) := by
  have := fIx_nat D.str (xs := n :: l) (k := 0) (x := n) rfl
  exact this
theorem ne_strs (l : List Str) : fNe (.lst (l.map .str)) (.lst []) = some (.bl (!l.isEmpty)) := by
  rw [ne_nil (plD_lst fun x hx => by obtain ⟨n, _, rfl⟩ := List.mem_map.mp hx; rfl)]
  cases l <;> rfl
theorem R_first_over {rows : List Row} (ok : OkF rows) {cl sp : D} {cs : List (Str × Int)} (h : cl = .lst (cs.map clD) ∨ cl = .tup (cs.map clD)) (hc : ∀ c ∈ cs, c.1 ∈ nms rows) {xs : List Int} (hs : sp = .lst (xs.map .int) ∨ sp = .tup (xs.map .int)) (bs : List (Str × Int)) :
    R_first_overdrawn [forD rows, cl, sp, .dct (balK bs)] = some (optD (ovr rows (gath rows (prs cs xs)) (tot rows (balOf bs)))) := by
  have h1 : ∀ a b c d e, compL (lcStep (rName 7) (rTest (rOp fGt (rOp fIx (rVar 4) (rVar 7)) (rOp fIx (rVar 5) (rVar 7)))) (rVarS 7) ([a, b, c, d, some (.sh (.dct (mapK (nms rows) (gath rows (prs cs xs))))), some (.sh (.dct (mapK (nms rows) (tot rows (balOf bs))))), e, none] : DS)) ((nms rows).map .str) = some (((nms rows).filter fun n => decide (tot rows (balOf bs) n < gath rows (prs cs xs) n)).map .str) := fun a b c d e => by
    refine compL_filter fun n hn => ?_
    simp [ix_mapK _ hn]
    split <;> rfl
  have h2 : ovr rows (gath rows (prs cs xs)) (tot rows (balOf bs)) = ((nms rows).filter fun n => decide (tot rows (balOf bs) n < gath rows (prs cs xs) n)).head? := by
    unfold ovr
    rw [List.head?_filter]
  rw [h2]
  generalize ((nms rows).filter fun n => decide (tot rows (balOf bs) n < gath rows (prs cs xs) n)) = l at h1
  cases l with
  | nil => simp [-x_lcStep, R_first_overdrawn, runOf, r_first_overdrawn, R_counted_by_ok ok h hc hs, R_total ok, R_names, ins_for, h1, ne_strs, optD]; rfl
  | cons n l => simp [-x_lcStep, -List.map_cons, R_first_overdrawn, runOf, r_first_overdrawn, R_counted_by_ok ok h hc hs, R_total ok, R_names, ins_for, h1, ne_strs, optD, ix_hd]
/-! ### certificates -/
/-- the witness of one rank -/
def witA (rows : List Row) (bs cs : List (Str × Int)) (xs : List Int) (k : Nat) : Option Str := match cs[k]?, xs[k]? with
  | some c, some x => if x = c.2 then none else (tig rows bs cs xs k c.1).head?
  | _, _ => none
theorem enumK_eq {cl : D} {cs : List (Str × Int)} (h : cl = .lst (cs.map clD) ∨ cl = .tup (cs.map clD)) : enumKD [cl] = some ((enu cs).map fun p => .tup [.int p.1, clD p.2]) := by
  show (sqD cl).map _ = _
  rw [sq_cl h]
  have := enum_eq clD cs
  exact this
theorem tig_ne {rows : List Row} (ok : OkF rows) {cs : List (Str × Int)} (oc : OkC rows cs) {bs : List (Str × Int)} (ob : OkB rows bs) {k : Nat} {c : Str × Int} {x : Int} (h1 : cs[k]? = some c) (h2 : (ent rows (tot rows (balOf bs)) cs)[k]? = some x) (hx : x ≠ c.2) :
    ∃ b l, tig rows bs cs (ent rows (tot rows (balOf bs)) cs) k c.1 = b :: l := by
  have hf : ∀ n ∈ nms rows, 0 ≤ tot rows (balOf bs) n := fun n _ => tot_nonneg rows (fun m => balOf_nonneg (fun p hp => (ob.ok p hp).2.1) m) n
  rw [ent_eq] at h2 ⊢
  obtain ⟨a1, a2, a3, a4⟩ := ent_facts ok cs _ hf (fun c hc => ⟨(oc.ok c hc).1, (oc.ok c hc).2.1⟩) k c x h1 h2
  obtain ⟨b, hb, e⟩ := a4 (by omega)
  have hm : b ∈ tig rows bs cs (entR rows (tot rows (balOf bs)) cs) k c.1 := List.mem_filter.mpr ⟨hb, by simp [e]⟩
  cases ht : tig rows bs cs (entR rows (tot rows (balOf bs)) cs) k c.1 with
  | nil => rw [ht] at hm; cases hm
  | cons b l => exact ⟨b, l, rfl⟩
def ceS (rows : List Row) (cl bl al : D) (ws : List D) (a b c : Option Sl) : DS := [some (.sh (forD rows)), some (.sh cl), some (.sh bl), some (.sh al), some (.ow (.lst ws)), a, b, c]
theorem wit_succ (rows : List Row) (bs cs : List (Str × Int)) (xs : List Int) (k : Nat) : ((List.range (k + 1)).map fun k => optD (witA rows bs cs xs k)) = ((List.range k).map fun k => optD (witA rows bs cs xs k)) ++ [optD (witA rows bs cs xs k)] := by
  rw [List.range_succ, List.map_append]
  rfl
section
variable {rows : List Row} (ok : OkF rows) {cs : List (Str × Int)} (oc : OkC rows cs) {bs : List (Str × Int)} (ob : OkB rows bs)
include ok oc ob
theorem R_cert {cl : D} (h : cl = .lst (cs.map clD) ∨ cl = .tup (cs.map clD)) :
    R_certificate [forD rows, cl, .dct (balK bs)] = some (.lst ((List.range cs.length).map fun k => optD (witA rows bs cs (ent rows (tot rows (balOf bs)) cs) k))) := by
  have hE := R_entitlements_ok ok h oc ob
  have hne := fun (k : Nat) (c : Str × Int) (x : Int) (h1 : cs[k]? = some c) => tig_ne (x := x) ok oc ob h1
  have hen := ent_len rows (tot rows (balOf bs)) cs
  have hcn : ∀ c ∈ cs, c.1 ∈ nms rows := fun c hc => (oc.ok c hc).1
  have hT := fun (k : Nat) (c : Str × Int) (hk : cs[k]? = some c) => R_tight_ok ok h hcn bs (ent rows (tot rows (balOf bs)) cs) hk
  generalize ent rows (tot rows (balOf bs)) cs = en at hE hne hen hT ⊢
  have hle := oc.le
  obtain ⟨δ', h1, a, b, c, h2⟩ := for_foldI (α := Nat × (Str × Int)) (S := Unit) (g := rTup12 5 6 7) (b := r_certificate_b1) (e := fun p => .tup [.int p.1, clD p.2]) (fun i _ δ => ∃ a b c, δ = ceS rows cl (.dct (balK bs)) (.lst (en.map .int)) ((List.range i).map fun k => optD (witA rows bs cs en k)) a b c) (fun s _ => s) (enu cs) 0 () (ceS rows cl (.dct (balK bs)) (.lst (en.map .int)) [] none none none) ⟨none, none, none, rfl⟩ (fun i p hm s δ ⟨a, b, c, e⟩ => by
    subst e
    obtain ⟨hi, hp⟩ := enu_at hm
    obtain ⟨j, c0⟩ := p
    dsimp only at hi hp
    subst hi
    have hlt := (List.getElem?_eq_some_iff.mp hp).1
    obtain ⟨x, hx⟩ : ∃ x, en[j]? = some x := ⟨_, List.getElem?_eq_getElem (by omega)⟩
    have hix := fIx_nat D.int hx
    refine ⟨_, ?_, some (.sh (.int j)), some (.sh (.str c0.1)), some (.sh (.int c0.2)), rfl⟩
    rw [Nat.zero_add, wit_succ]
    have hll : j < LIM := by show _ < 1000000; omega
    by_cases hxc : x = c0.2
    · have hw : witA rows bs cs en j = none := by simp [witA, hp, hx, hxc]
      simp [r_certificate_b1, ceS, clD, hix, hxc, rApp, hw, optD, hll]
    · obtain ⟨n, l, hnl⟩ := hne j c0 x hp hx hxc
      have hw : witA rows bs cs en j = some n := by simp [witA, hp, hx, hxc, hnl]
      have hT' := hT j c0 hp
      rw [hnl] at hT'
      simp [-List.map_cons, r_certificate_b1, ceS, clD, hix, hxc, rApp, hw, optD, hll, hT', ix_hd])
  subst h2
  rw [Nat.zero_add, enu_len] at h1
  unfold ceS at h1
  simp [R_certificate, runOfF, r_certificate, hE, enumK_eq h, rRetV] at h1 ⊢
  simp [h1]
theorem R_is_result_ok {cl : D} (h : cl = .lst (cs.map clD) ∨ cl = .tup (cs.map clD)) : R_is_result [cl, .lst ((ent rows (tot rows (balOf bs)) cs).map .int)] = some (.bl true) := by
  have hen := ent_len rows (tot rows (balOf bs)) cs
  have hf : ∀ n ∈ nms rows, 0 ≤ tot rows (balOf bs) n := fun n _ => tot_nonneg rows (fun m => balOf_nonneg (fun p hp => (ob.ok p hp).2.1) m) n
  have hfa := ent_facts ok cs _ hf (fun c hc => ⟨(oc.ok c hc).1, (oc.ok c hc).2.1⟩)
  rw [← ent_eq] at hfa
  generalize ent rows (tot rows (balOf bs)) cs = en at hen hfa ⊢
  have hz : zipKD [.lst (en.map .int), cl] = some ((en.zip cs).map fun p => .tup [.int p.1, clD p.2]) := by
    show ((sqD (.lst (en.map .int))).bind fun xs => (sqD cl).map fun ys => xs.zipWith (fun x y => D.tup [x, y]) ys) = _
    rw [sq_cl h, sq_in (.inl rfl), Option.bind_some, Option.map_some, List.zipWith_map, List.zip, List.map_zipWith]
  have hc : ∀ a b, compL (lcStep (rTup12 2 3 4) rYes (rFn R_is_between (rCons (rVarS 2) (rCons (rC (.int 0)) (rCons (rVarS 4) (rNil))))) ([a, b, none, none, none] : DS)) ((en.zip cs).map fun p => .tup [.int p.1, clD p.2]) = some ((en.zip cs).map fun _ => .bl true) := fun a b => by
    refine compL_map fun p hp => ?_
    obtain ⟨k, hk⟩ := List.getElem?_of_mem hp
    rw [List.getElem?_zip_eq_some] at hk
    obtain ⟨b1, b2, _⟩ := hfa k p.2 p.1 hk.2 hk.1
    simp [clD, R_is_between_i, b1, b2]
  have hl := len_cl h
  have hall : fAll [.lst ((en.zip cs).map fun _ => .bl true)] = some (.bl true) := fAll_true fun x hx => by
    obtain ⟨_, _, rfl⟩ := List.mem_map.mp hx
    rfl
  simp [-x_lcStep, R_is_result, runOf, r_is_result, hl, hen, hz, hc, hall]
def shS' (rows : List Row) (cl bl al wl : D) (a b c : Option Sl) : DS := [some (.sh (forD rows)), some (.sh cl), some (.sh bl), some (.sh al), some (.sh wl), a, b, c]
theorem R_shows_ok {cl : D} (h : cl = .lst (cs.map clD) ∨ cl = .tup (cs.map clD)) :
    R_shows_entitlements [forD rows, cl, .dct (balK bs), .lst ((ent rows (tot rows (balOf bs)) cs).map .int), .lst ((List.range cs.length).map fun k => optD (witA rows bs cs (ent rows (tot rows (balOf bs)) cs) k))] = some (.bl true) := by
  have hres := R_is_result_ok ok oc ob h
  have hcn : ∀ c ∈ cs, c.1 ∈ nms rows := fun c hc => (oc.ok c hc).1
  have hov := R_first_over ok h hcn (xs := ent rows (tot rows (balOf bs)) cs) (.inl rfl) bs
  have hne := fun (k : Nat) (c : Str × Int) (x : Int) (h1 : cs[k]? = some c) => tig_ne (x := x) ok oc ob h1
  have hT := fun (k : Nat) (c : Str × Int) (hk : cs[k]? = some c) => R_tight_ok ok h hcn bs (ent rows (tot rows (balOf bs)) cs) hk
  have hen := ent_len rows (tot rows (balOf bs)) cs
  have hovn : ovr rows (gath rows (prs cs (ent rows (tot rows (balOf bs)) cs))) (tot rows (balOf bs)) = none := by
    have hf : ∀ n ∈ nms rows, 0 ≤ tot rows (balOf bs) n := fun n _ => tot_nonneg rows (fun m => balOf_nonneg (fun p hp => (ob.ok p hp).2.1) m) n
    refine ovr_none.mpr fun n hn => ?_
    cases hcs : cs with
    | nil => exact hf n hn
    | cons d ds =>
      have hl : cs.length - 1 < cs.length := by rw [hcs]; simp
      have hfa := ent_facts ok cs _ hf (fun c hc => ⟨(oc.ok c hc).1, (oc.ok c hc).2.1⟩) (cs.length - 1) _ _ (List.getElem?_eq_getElem hl) (List.getElem?_eq_getElem (by rw [← ent_eq, hen]; exact hl))
      have := hfa.2.2.1 n hn
      rw [← ent_eq, List.take_of_length_le (by omega), List.take_of_length_le (by omega)] at this
      rw [← hcs]
      exact this
  rw [hovn] at hov
  have hw : ∀ k c x, cs[k]? = some c → (ent rows (tot rows (balOf bs)) cs)[k]? = some x → witA rows bs cs (ent rows (tot rows (balOf bs)) cs) k = if x = c.2 then none else (tig rows bs cs (ent rows (tot rows (balOf bs)) cs) k c.1).head? := fun k c x h1 h2 => by simp [witA, h1, h2]
  generalize ent rows (tot rows (balOf bs)) cs = en at hres hov hne hT hen hw ⊢
  have hwl : ((List.range cs.length).map fun k => optD (witA rows bs cs en k)).length = cs.length := by simp
  have hwx : ∀ k, k < cs.length → fIx (.lst ((List.range cs.length).map fun k => optD (witA rows bs cs en k))) (.int k) = some (optD (witA rows bs cs en k)) := fun k hk => by
    have := fIx_nat (fun k => optD (witA rows bs cs en k)) (xs := List.range cs.length) (k := k) (x := k) (by simp [hk])
    exact this
  generalize ((List.range cs.length).map fun k => optD (witA rows bs cs en k)) = wl at hwl hwx ⊢
  obtain ⟨δ', h1, a, b, c, h2⟩ := for_foldI (α := Nat × (Str × Int)) (S := Unit) (g := rTup12 5 6 7) (b := r_shows_entitlements_b1) (e := fun p => .tup [.int p.1, clD p.2]) (fun i _ δ => ∃ a b c, δ = shS' rows cl (.dct (balK bs)) (.lst (en.map .int)) (.lst wl) a b c) (fun s _ => s) (enu cs) 0 () (shS' rows cl (.dct (balK bs)) (.lst (en.map .int)) (.lst wl) none none none) ⟨none, none, none, rfl⟩ (fun i p hm s δ ⟨a, b, c, e⟩ => by
    subst e
    obtain ⟨hi, hp⟩ := enu_at hm
    obtain ⟨j, c0⟩ := p
    dsimp only at hi hp
    subst hi
    have hlt := (List.getElem?_eq_some_iff.mp hp).1
    obtain ⟨x, hx⟩ : ∃ x, en[j]? = some x := ⟨_, List.getElem?_eq_getElem (by omega)⟩
    have hix := fIx_nat D.int hx
    have hwj := hwx j hlt
    rw [hw j c0 x hp hx] at hwj
    refine ⟨_, ?_, some (.sh (.int j)), some (.sh (.str c0.1)), some (.sh (.int c0.2)), rfl⟩
    by_cases hxc : x = c0.2
    · rw [if_pos hxc] at hwj
      simp [r_shows_entitlements_b1, shS', clD, hix, hxc, hwj, optD]
    · obtain ⟨n, l, hnl⟩ := hne j c0 x hp hx hxc
      rw [if_neg hxc, hnl] at hwj
      have hT' := hT j c0 hp
      rw [hnl] at hT'
      simp [-List.map_cons, r_shows_entitlements_b1, shS', clD, hix, hxc, hwj, optD, hT', notIn_strs])
  subst h2
  unfold shS' at h1
  have hl := len_cl h
  simp [R_shows_entitlements, runOf, r_shows_entitlements, R_need_claims_ok h oc, R_need_balances_ok ob, hres, hov, optD, hl, hwl, enumK_eq h] at h1 ⊢
  simp [h1]
end
end GP

set_option Elab.async false
set_option linter.all false
set_option maxRecDepth 100000
set_option maxHeartbeats 400000
/-! G33: an exception that is caught and kept in a name. -/
namespace GP
open PySem PySem.Spec PyProof.Rows L2
theorem exK_ok {P : Program} {w : World} {H : Hp} {h : Heap} {a : Addr} {cls : Value} {d : Option Addr} {oe : Obj} {vs : Array Value} (e : h.get? a = some oe) (z : Zc cls d oe) (q : oe.data = .fields vs) : ObjOk P w H h a (ExK cls d a) :=
  ⟨⟨oe, vs, e, z, q⟩, ⟨oe, e⟩, fun _ _ ⟨o, v, q, r⟩ k => ⟨o, v, k o q, r⟩⟩
section
variable {X : Cx} {pins : List (Addr × Obj)} {σ : L2.St} {H : Hp} {s : Shared}
/-- a thing of ours, new since the entry, joins the tracked ones -/
theorem track {a : Addr} {o : HO} {oe : Obj} {vs : Array Value} (I : Inv X pins σ H s) (hn : H a = none) (h0 : X.s_0.heap.get? a = none) (ho : s.heap.get? a = some oe) (hd : oe.data = .fields vs) (hp : ∀ p ∈ X.pn ++ pins, p.1 ≠ a) (nL : a ≠ X.env.locals)
    (new : ObjOk X.prog X.w (upd H a o) s.heap a o) : Inv X pins σ (upd H a o) s where
  ok := I.ok
  os := I.os
  bare := I.bare
  base := ⟨I.base.keep, I.base.slot, fun b ob e n x => by
      by_cases z : b = a
      · subst z; rw [h0] at e; cases e
      · rw [upd_ne z]; exact I.base.free b ob e n x, I.base.there, fun b xs e => by
      have q := I.base.tups b xs e
      rw [upd_ne (ne_of_none q hn)]; exact q, fun b ob u e => by
      have q := I.base.frzs b ob u e
      rw [upd_ne (ne_of_none q hn)]; exact q, fun b ps e => by
      obtain ⟨more, q⟩ := I.base.tbls b ps e
      exact ⟨more, by rw [upd_ne (ne_of_none q hn)]; exact q⟩⟩
  loc := I.loc
  cell := I.cell
  free := by rw [upd_ne nL.symm]; exact I.free
  freeC := fun x c e => by
    have z : c ≠ a := fun z => by
      subst z
      obtain ⟨v, oc, q, r⟩ := I.cell x c e
      rw [ho] at q
      cases q
      rw [hd] at r
      cases r
    rw [upd_ne z]
    exact I.freeC x c e
  pin := fun p hm => by
    obtain ⟨a1, a2, a3⟩ := I.pin p hm
    exact ⟨a1, by rw [upd_ne (hp p hm)]; exact a2, a3⟩
  hok := HOk.laidN I.hok (fun _ _ q => q) hn new
  len := I.len
end
/-- what 'except x as n' with a suite that keeps the exception wishes of the body's exceptions -/
def wKeep (K : FK) (c : Value) (i : Nat) (ts : Addr → Value → Option Addr → TS) (Wout : WX) (D : Ends) : WX := fun cls d σ H =>
  ∃ b, PySem.W.exmOne K cls c = some b ∧ (b = true → ∀ a, H a = none → ts a cls d { nx := fun σ' H' => D.nx (σ'.set i none) (upd H' a (ExK cls d a)), rt := fun _ _ => False } (σ.set i (some (.ref a))) H) ∧ (b = false → Wout cls d σ H)
section
variable {X : Cx} {x n : Str} {c : Value} {i : Nat} {body suite : List Stmt} {b₀ : Stmt} {np pos pos' : Pos} {tb : WX → TS} {ts : Addr → Value → Option Addr → TS} {Wout : WX}
theorem ps_try_keep (st : X.stack = X.env :: X.outer) (fr : X.env.frame = some X.env.locals) (nex : X.ex = []) (nd : X.N.Nodup) (hi : X.N[i]? = some n) (lo : X.env.kindOf n = some .local) (nm : Names X x c) (tk : Takes X Wout)
    (bo : ∀ (W : WX) (pn : List (Addr × Obj)) (xe : Value → Shared → Prop), Takes (X.tr pn xe) W → PassesOwn (model X.prog X.w) X.A X.env xe → PSs (X.tr pn xe) body (tb W))
    (su : ∀ (a : Addr) (oe : Obj) (cls : Value) (d : Option Addr) (pn : List (Addr × Obj)), Zc cls d oe → (∃ vs, oe.data = .fields vs) → PSs (X.suite a ((a, oe) :: pn)) (b₀ :: suite) (ts a cls d)) :
    PS X (.Try body [.ExceptHandler (some (.Name x np)) (some n) (b₀ :: suite) pos'] [] [] pos) (fun D σ H => tb (wKeep X.K c i ts Wout D) D σ H) := ⟨fun pins s σ H D I hw => by
  have okX := I.ok
  have frX : X.A.frames = some (X.env :: X.outer) := by rw [okX.frames, st]
  refine wpAny_Try_except (wpAny_mono ((bo (wKeep X.K c i ts Wout D) (X.pn ++ pins) (fun e z => wpAny (model X.prog X.w) X.A (noteFrame e X.env) (fun _ z2 => wpAny (model X.prog X.w) X.A (setFlight e none) (fun _ z3 =>
    wpAny (model X.prog X.w) X.A (handleBy e X.env [.ExceptHandler (some (.Name x np)) (some n) (b₀ :: suite) pos']) (SP X pins D) X.xe z3) X.xe z2) X.xe z) (fun u z air => ?_) PassesOwn.looking).run [] s σ H D (I.toTry _) hw) (fun f z fin => ?_) fun _ _ q => q)
  · obtain ⟨a, B, sI, pins1, σ1, H1, cls, d, rfl, J1, nb, up, sky, na, os, ag, b, hb, yes, no⟩ := air
    have J : Inv X pins σ1 H1 sI := J1.ofTry okX
    have sky1 : Sky B (X.env :: X.outer) a (Zc cls d) X.env.locals z.heap := by rw [← st]; exact sky
    have nB : B.get? a = none := by
      rcases sky1 with q | q | q
      · exact q.2.1
      · exact q.2.1
      · exact q.2.1
    show wpAny (model X.prog X.w) X.A (noteFrame (.ref a) X.env) _ _ _
    refine Sky.land Zc.steady frX fr sky1 fun h3 fl3 up3 => ?_
    have J3 : Inv X pins σ1 H1 { z with heap := h3 } := J.landed nb fl3.1 (up.trans up3) os ag
    obtain ⟨o3, v3, g3, z3, d3⟩ := fl3.there
    have offF : a ∉ frs (X.env :: X.outer) := fun hm => by
      obtain ⟨_, o', e', hnf⟩ := fl3.2.2.1.mem hm
      rw [g3] at e'; cases e'
      exact hnf _ d3
    have offL : a ≠ X.env.locals := fun e => offF (List.mem_filterMap.mpr ⟨X.env, List.mem_cons_self, by rw [fr, e]⟩)
    have offS : a ∉ X.fs := fun hm => by
      obtain ⟨e, he, q⟩ := List.mem_filterMap.mp hm
      exact offF (List.mem_filterMap.mpr ⟨e, List.mem_cons_of_mem _ he, q⟩)
    have newI : sI.heap.get? a = none := by
      cases q : sI.heap.get? a with
      | none => rfl
      | some o =>
        have := nb a o q (by rw [st]; exact offF)
        rw [nB] at this; cases this
    have new0 : X.s_0.heap.get? a = none := by
      cases q : X.s_0.heap.get? a with
      | none => rfl
      | some o =>
        obtain ⟨o', r⟩ := J.base.there a o q (by rw [nex]; exact fun m => nomatch m)
        rw [newI] at r; cases r
    have offP : ∀ p ∈ X.pn ++ pins, p.1 ≠ a := fun p hm e => by
      have := (J.pin p hm).1
      rw [e, newI] at this; cases this
    have S3 := J3.suite g3 d3 na offL offS
    refine wpAny_handleBy_cons (codeAny_handlers_test ?_) (by intro q; cases q)
    have lt : PySem.W.Looks (model X.prog X.w) h3 (typeOf (.ref a)) cls := fun A Q E z k q => wpAny_typeOf_ref (k _ _ g3) (by rw [z3.1]; exact q)
    have lm := PySem.W.exm_one (M := model X.prog X.w) J3.kIn lt hb
    have look : ∀ {Q : Value → Shared → Prop} {E : Value → Shared → Prop}, Q c { z with heap := h3 } → wpAny (model X.prog X.w) (X.A.mark (some (.ref a))) (eval (.Name x np) X.env) Q E { z with heap := h3 } := fun {Q E} q => by
      obtain ⟨g1, g2, m | ⟨m, v, nn⟩⟩ := nm
      · exact ld_glob (X := X.suite a ((a, o3) :: (X.pn ++ pins))) S3 g1 m q g2
      · exact ld_blt (X := X.suite a ((a, o3) :: (X.pn ++ pins))) S3 g1 m v q nn g2
    refine look (lm.here ?_)
    cases b with
    | true =>
      refine codeAny_handlers_suite_as (HandSPX.lands_againZ fl3 fun h4 fl4 up4 => ?_)
      have J4 : Inv X pins σ1 H1 { z with heap := h4 } := J.landed nb fl4.1 ((up.trans up3).trans up4) os ag
      obtain ⟨o4, v4, g4, z4, d4⟩ := fl4.there
      have S4 := J4.suite g4 d4 na offL offS
      refine store_ok (X := X.suite a ((a, o4) :: (X.pn ++ pins))) (v := .ref a) S4 nd hi (.inl lo) rfl (fun z5 S5 => ?_) (.inr lo)
      refine wpAny_mono ((su a o4 cls d (X.pn ++ pins) z4 ⟨_, d4⟩).run [] z5 _ H1 _ S5 (yes rfl a na)) (fun f z6 fin => ?_) fun _ _ q => q.elim
      cases f with
      | next =>
        obtain ⟨σ6, H6, S6, q6⟩ := fin
        refine gone_ok (X := X.suite a ((a, o4) :: (X.pn ++ pins))) S6 nd hi lo fun z7 S7 => ?_
        obtain ⟨p1, p2, _⟩ := S7.pin (a, o4) (List.mem_append_left _ List.mem_cons_self)
        have J7 : Inv X pins (σ6.set i none) H6 z7 := S7.unsuite okX
        exact ⟨_, _, track J7 p2 new0 p1 d4 offP offL (exK_ok p1 z4 d4), q6⟩
      | brk =>
        obtain ⟨_, _, _, q6⟩ := fin
        exact q6.elim
      | cont =>
        obtain ⟨_, _, _, q6⟩ := fin
        exact q6.elim
      | ret u =>
        obtain ⟨_, _, _, _, _, q6⟩ := fin
        exact q6.elim
    | false =>
      show wpAny _ X.A (handleBy (.ref a) X.env []) _ _ _
      refine wpAny_handleBy_nil ?_
      obtain ⟨k1, k2, k3, oe, vs, T, oT, ts', he, hz, hd, h1, hr⟩ := id fl3
      unfold PySem.passOn
      refine wpAny_bind (wpAny_field he hd h1 ?_)
      rw [if_neg (by simp)]
      have away : wpAny (model X.prog X.w) X.A (setFlight (.ref a) X.env.frame) (fun _ z4 => wpAny (model X.prog X.w) X.A (throw (.ref a) : Sem Flow) (SP X pins D) X.xe z4) X.xe { z with heap := h3 } := by
        rw [fr]
        refine HandSPX.setFlight_upZ fl3 fun h4 hh up4 => wpAny_throw (tk _ _ ?_)
        exact ⟨a, B, sI, pins, σ1, H1, cls, d, rfl, J, nb, (up.trans up3).trans up4, .inr (.inr (by rw [st]; exact hh)), na, os, ag, no rfl⟩
      first
        | exact wpAny_bind (wpAny_pure (wpAny_bind away))
        | exact wpAny_bind away
  · cases f with
    | next =>
      obtain ⟨σ2, H2, J2, q⟩ := fin
      exact wpAny_execs_nil ⟨σ2, H2, J2.ofTry okX, q⟩
    | brk =>
      obtain ⟨σ2, H2, J2, q⟩ := fin
      exact ⟨σ2, H2, J2.ofTry okX, q⟩
    | cont =>
      obtain ⟨σ2, H2, J2, q⟩ := fin
      exact ⟨σ2, H2, J2.ofTry okX, q⟩
    | ret u =>
      obtain ⟨v, σ2, H2, J2, r, q⟩ := fin
      exact ⟨v, σ2, H2, J2.ofTry okX, r, q⟩⟩
end
end GP

set_option Elab.async false
set_option linter.all false
set_option maxRecDepth 100000
set_option maxHeartbeats 1000000
/-! G34: exceptions over data: a raised exception is an outcome of its own (XR); raise, calls that may raise, try. -/
namespace GP
open PySem PySem.Spec PyProof.Rows L2
/-- a raised exception, as an outcome -/
def XR (c : String) (fs : List (Str × D)) : D := .ins "!" [("!", .exc c fs)]
def asX : D → Option (String × List (Str × D))
  | .ins k [(_, .exc c fs)] => if k = "!" then some (c, fs) else none
  | _ => none
theorem asX_XR {c : String} {fs : List (Str × D)} : asX (XR c fs) = some (c, fs) := rfl
section
variable {Γ : Cn} {L : LS} {c c1 c2 c3 cf n : Nat} {te ta tb : TE} {de da db : DE} {tt tu : TT} {dt du : DT} {tA : TA} {dA : DA}
theorem rep_noX {G : Hp} {v : V} {d : D} (nx : Γ.cls "!" = none) (r : Rep Γ L G v d) : asX d = none := by
  unfold asX
  split
  · rename_i k y c fs
    cases r with
    | ins h hd hc r =>
      rw [if_neg]
      rintro rfl
      rw [nx] at hc; cases hc
  · rfl
/-- what is known of an exception in the air: its class, its fields -/
structure XAt (Γ : Cn) (L : LS) (G : Hp) (cls : Value) (d : Option Addr) (c : String) (fs : List (Str × D)) : Prop where
  ex : ∃ C xs, cls = .ref C ∧ Γ.con c = .ref C ∧ RepF Γ L G xs fs ∧ XdAt G d xs
/-- a wish about exceptions, by the outcome -/
def XOf (Γ : Cn) (L : LS) (T : Nat) (B G0 : Hp) (R : D → Prop) (E : XK) : Prop := ∀ cls d c fs G H, At L T B G0 G H → XAt Γ L G cls d c fs → R (XR c fs) → E cls d H
theorem XOf.le {T T' : Nat} {B G0 : Hp} {R : D → Prop} {E : XK} (h : XOf Γ L T B G0 R E) (l : T' ≤ T) : XOf Γ L T' B G0 R E := fun cls d c fs G H a => h cls d c fs G H (a.le l)
/-- an expression that may raise -/
def SXE (Γ : Cn) (L : LS) (c : Nat) (te : WX → TE) (de : DE) : Prop := ∀ (t : Nat) (σ : L2.St) (δ : DS) (B G H : Hp), LawAt L t G H → Exf G H → Env Γ L B G H σ δ → t + c ≤ TMAX → ∀ P : D → Prop, de δ P → ∀ (W : WX) (Q : VK),
  (∀ v d G' H', At L (t + c) H G G' H' → Rep Γ L G' v d → P d → Q v H') → XOf Γ L (t + c) H G P (WE W σ) → te W σ H Q
/-- a statement that may raise -/
def SSX (Γ : Cn) (L : LS) (c : Nat) (ts : WX → TS) (ds : DQ) : Prop := ∀ (t : Nat) (σ : L2.St) (δ : DS) (B G0 G H : Hp), At L t B G0 G H → Env Γ L B G H σ δ → t + c ≤ TMAX → ∀ N : DN, ds N δ → ∀ (D : Ends) (W : WX), EndsOf Γ L (t + c) B G0 N D →
  (∀ σ', XOf Γ L (t + c) B G0 N.rt (WE W σ')) → ts W D σ H
variable {ts tv : WX → TS} {ds dv : DQ} {tx : WX → TE}
theorem sx_of {ts : TS} (h : SS Γ L c ts ds) : SSX Γ L c (fun _ => ts) ds := fun t σ δ B G0 G H a e hc N hp D W E x => h t σ δ B G0 G H a e hc N hp D E
theorem sx_seq (h1 : SSX Γ L c1 ts ds) (h2 : SSX Γ L c2 tv dv) : SSX Γ L (c1 + c2) (fun W => tSeq (ts W) (tv W)) (dSeq ds dv) := fun t σ δ B G0 G H a e hc N h D W E x => by
  refine h1 t σ δ B G0 G H a e (by omega) _ h _ W ⟨fun σ1 δ1 G1 H1 a1 e1 q => ?_, fun v d G1 H1 a1 => E.rt v d G1 H1 (a1.le (by omega)), fun σ1 δ1 G1 H1 a1 => E.bk σ1 δ1 G1 H1 (a1.le (by omega)), fun σ1 δ1 G1 H1 a1 => E.ct σ1 δ1 G1 H1 (a1.le (by omega))⟩ fun σ' => (x σ').le (by omega)
  exact h2 (t + c1) σ1 δ1 B G0 G1 H1 a1 e1 (by omega) N q D W (by rw [Nat.add_assoc]; exact E) (by rw [Nat.add_assoc]; exact x)
theorem sx_if (h : SB Γ L c1 tt dt) (h1 : SSX Γ L c2 ts ds) (h2 : SSX Γ L c3 tv dv) : SSX Γ L (c1 + (c2 + c3)) (fun W => tIfS tt (ts W) (tv W)) (dIfS dt ds dv) := fun t σ δ B G0 G H a e hc N hp D W E x => by
  refine h t σ δ B G H a.lw a.gh e (by omega) _ hp _ fun b G1 H1 a1 q => ?_
  cases b with
  | true => exact h1 (t + c1) σ δ B G0 G1 H1 (a.tr a1) (e.step a1) (by omega) N q D W (E.le (by omega)) fun σ' => (x σ').le (by omega)
  | false => exact h2 (t + c1) σ δ B G0 G1 H1 (a.tr a1) (e.step a1) (by omega) N q D W (E.le (by omega)) fun σ' => (x σ').le (by omega)
theorem for_coreX {wi : TI} {di : DI} {g : TG} {dg : DG} {sl : List Nat} {tbd : WX → TS} {dbd : DQ} {kp : Addr → Prop} {t : Nat} {σ : L2.St} {δ : DS} {B G0 G H : Hp} (hk : ∀ b o, kp b → H b = some o → B b = some o) {N : DN} {D : Ends} {Wx : WX} {T : Nat} {items : List GP.D} {J : It}
    (hg : SG Γ L g dg sl) (hb : SSX Γ L c tbd dbd) (a : At L t B G0 G H) (e : Env Γ L B G H σ δ) (hT : t + items.length * c ≤ T) (hM : T ≤ TMAX) (hI : ItsOf Γ L kp J items G H) (hp : dForL dg dbd N items δ) (E : EndsOf Γ L T B G0 N D) (hx : ∀ σ', XOf Γ L T B G0 N.rt (WE Wx σ')) :
    ∃ W : Nat → Nat → L2.St → Hp → Prop, (∃ m, W 0 m σ H) ∧ ∀ i m σ H, W i m σ H →
      (J.stop i H ∧ D.nx σ H) ∨ (J.go i H ∧ ∃ M : L2.St → Hp → Prop, (∀ σ' H', M σ' H' → ∃ m', m' < m ∧ W (i + 1) m' σ' H') ∧ ∀ x H', J.yld i H x H' → g x σ H' fun σ2 H2 => tbd Wx { D with nx := M, ct := M, bk := D.nx } σ2 H2) := by
  let W : Nat → Nat → L2.St → Hp → Prop := fun i m σ' H' => m = items.length - i ∧ i ≤ items.length ∧ ∃ δ' G', At L (t + i * c) B G0 G' H' ∧ Ex G G' ∧ Env Γ L B G' H' σ' δ' ∧ dForL dg dbd N (items.drop i) δ'
  refine ⟨W, ⟨items.length, by simp, Nat.zero_le _, δ, G, by simpa using a, Ex.rfl', e, by simpa using hp⟩, ?_⟩
  rintro i m σ1 H1 ⟨rfl, hi, δ1, G1, a1, x1, e1, q1⟩
  by_cases hlt : i < items.length
  · right
    obtain ⟨d, hd⟩ : ∃ d, items[i]? = some d := ⟨items[i], by simp [hlt]⟩
    have hdrop : items.drop i = d :: items.drop (i + 1) := by
      rw [List.drop_eq_getElem_cons hlt]
      have : items[i] = d := by
        have := List.getElem?_eq_getElem hlt
        rw [this] at hd; exact Option.some.inj hd
      rw [this]
    rw [hdrop] at q1
    refine ⟨hI.go i G1 H1 hlt x1 a1.gh (fun b o z h n => a1.bh b o (hk b o z h) n), fun σ2 H2 => W (i + 1) (items.length - (i + 1)) σ2 H2, fun σ2 H2 w => ⟨_, by omega, w⟩, fun x H2 y => ?_⟩
    obtain ⟨G2, a2, r2⟩ := hI.yl (t + i * c) i x d G1 H1 H2 hd a1.lw x1 a1.gh (fun b o z h n => a1.bh b o (hk b o z h) n) y
    have e2 := e1.step a2
    refine hg (t + i * c) σ1 δ1 B G2 H2 x d a2.lw a2.gh e2 r2 _ q1 _ fun σ3 δ3 e3 _ q3 => ?_
    have hc : t + i * c + c ≤ TMAX := by
      have h1 : (i + 1) * c ≤ items.length * c := Nat.mul_le_mul_right c hlt
      rw [Nat.succ_mul] at h1
      omega
    have hle : t + i * c + c ≤ T := by
      have h1 : (i + 1) * c ≤ items.length * c := Nat.mul_le_mul_right c hlt
      rw [Nat.succ_mul] at h1
      omega
    have fin : ∀ (σ4 : L2.St) (δ4 : DS) (G4 H4 : Hp), At L (t + i * c + c) B G0 G4 H4 → Ex G2 G4 → Env Γ L B G4 H4 σ4 δ4 → dForL dg dbd N (items.drop (i + 1)) δ4 → W (i + 1) (items.length - (i + 1)) σ4 H4 := fun σ4 δ4 G4 H4 a4 x4 e4 q4 =>
      ⟨rfl, hlt, δ4, G4, by rw [Nat.succ_mul, ← Nat.add_assoc]; exact a4, (x1.tr a2.gg).tr x4, e4, q4⟩
    refine hb (t + i * c) σ3 δ3 B G2 G2 H2 ⟨Ex.rfl', a2.gh, (a1.tr a2).bh, fun _ _ h => .inl h, a2.lw⟩ e3 hc _ q3 _ Wx ⟨fun σ4 δ4 G4 H4 a4 e4 q4 => ?_, fun v d4 G4 H4 a4 r4 q4 => ?_, fun σ4 δ4 G4 H4 a4 e4 q4 => ?_, fun σ4 δ4 G4 H4 a4 e4 q4 => ?_⟩ fun σ' cls dx cn fs G4 H4 a4 z4 q4 => ?_
    · exact fin σ4 δ4 G4 H4 ⟨((a1.tr a2).gg).tr a4.gg, a4.gh, a4.bh, fun y o h => (a4.nw y o h).elim (fun h => (a1.tr a2).nw y o h) .inr, a4.lw⟩ a4.gg e4 q4
    · exact E.rt v d4 G4 H4 (At.le ⟨((a1.tr a2).gg).tr a4.gg, a4.gh, a4.bh, fun y o h => (a4.nw y o h).elim (fun h => (a1.tr a2).nw y o h) .inr, a4.lw⟩ hle) r4 q4
    · exact E.nx σ4 δ4 G4 H4 (At.le ⟨((a1.tr a2).gg).tr a4.gg, a4.gh, a4.bh, fun y o h => (a4.nw y o h).elim (fun h => (a1.tr a2).nw y o h) .inr, a4.lw⟩ hle) e4 q4
    · exact fin σ4 δ4 G4 H4 ⟨((a1.tr a2).gg).tr a4.gg, a4.gh, a4.bh, fun y o h => (a4.nw y o h).elim (fun h => (a1.tr a2).nw y o h) .inr, a4.lw⟩ a4.gg e4 q4
    · exact hx σ' cls dx cn fs G4 H4 (At.le ⟨((a1.tr a2).gg).tr a4.gg, a4.gh, a4.bh, fun y o h => (a4.nw y o h).elim (fun h => (a1.tr a2).nw y o h) .inr, a4.lw⟩ hle) z4 q4
  · left
    have hi' : i = items.length := by omega
    subst hi'
    rw [List.drop_length] at q1
    exact ⟨hI.st G1 H1 x1 a1.gh (fun b o z h n => a1.bh b o (hk b o z h) n), E.nx σ1 δ1 G1 H1 (a1.le hT) e1 q1⟩
theorem sx_for {wi : TI} {di : DI} {g : TG} {dg : DG} {sl : List Nat} {tbd : WX → TS} {dbd : DQ} (hi : SI Γ L (fun _ => False) c1 wi di) (hg : SG Γ L g dg sl) (hb : SSX Γ L 0 tbd dbd) : SSX Γ L c1 (fun W => tFor wi g (tbd W)) (dFor di dg dbd) := fun t σ δ B G0 G H a e hc N hp D W E x => by
  refine hi t σ δ B G H a.lw a.gh e hc _ hp _ fun J items G1 H1 a1 hI q => ?_
  exact for_coreX (di := di) (wi := wi) (T := t + c1) (fun _ _ z => z.elim) hg hb (a.tr a1) (e.step a1) (by omega) hc hI q E x
/-! ### expressions that may raise, in statements -/
def dAsgX (d : DE) (i : Nat) : DQ := fun N δ => d δ fun x => match asX x with
  | some _ => N.rt x
  | none => N.nx (δ.set i (some (.sh x)))
def dDropX (d : DE) : DQ := fun N δ => d δ fun x => match asX x with
  | some _ => N.rt x
  | none => N.nx δ
theorem sx_asg (i : Nat) (nx : Γ.cls "!" = none) (h : SXE Γ L c tx de) : SSX Γ L c (fun W => tAsg (tx W) (gName i)) (dAsgX de i) := fun t σ δ B G0 G H a e hc N hp D W E x => by
  refine h t σ δ B G H a.lw a.gh e hc _ hp W _ (fun v d G1 H1 a1 r1 q => ?_) fun cls d cn fs G1 H1 a1 z q => ?_
  · rw [rep_noX nx r1] at q
    exact E.nx _ _ G1 H1 (a.tr a1) ((e.step a1).set i r1) q
  · exact x σ cls d cn fs G1 H1 (a.tr a1) z q
theorem sx_drop (nx : Γ.cls "!" = none) (h : SXE Γ L c tx de) : SSX Γ L c (fun W => tDrop (tx W)) (dDropX de) := fun t σ δ B G0 G H a e hc N hp D W E x => by
  refine h t σ δ B G H a.lw a.gh e hc _ hp W _ (fun v d G1 H1 a1 r1 q => ?_) fun cls d cn fs G1 H1 a1 z q => ?_
  · rw [rep_noX nx r1] at q
    exact E.nx _ _ G1 H1 (a.tr a1) (e.step a1) q
  · exact x σ cls d cn fs G1 H1 (a.tr a1) z q
theorem sx_ret (h : SXE Γ L c tx de) : SSX Γ L c (fun W => tRet (tx W)) (dRet de) := fun t σ δ B G0 G H a e hc N hp D W E x =>
  h t σ δ B G H a.lw a.gh e hc _ hp.2 W _ (fun v d G1 H1 a1 r1 q => E.rt v d G1 H1 (a.tr a1) (r1.ret hp.1) q) fun cls d cn fs G1 H1 a1 z q => x σ cls d cn fs G1 H1 (a.tr a1) z q
/-- no exception comes out -/
def WF : WX := fun _ _ _ _ => False
def dNoX (d : DE) : DE := fun δ P => d δ fun x => asX x = none ∧ P x
theorem se_noX (h : SXE Γ L c tx de) : SE Γ L c (tx WF) (dNoX de) := fun t σ δ B G H l x e hc P hp Q k =>
  h t σ δ B G H l x e hc _ hp WF Q (fun v d G1 H1 a1 r1 q => k v d G1 H1 a1 r1 q.2) fun cls d cn fs G1 H1 a1 z q => by
    have := q.1
    rw [asX_XR] at this
    cases this
/-! ### promises -/
def liftX (Γ : Cn) (n c : Nat) (s : DSp) : Sp := fun vs H Q E => vs.length = n ∧ ∃ (L : LS) (t : Nat) (ds : List D) (G : Hp) (P : D → Prop), LawAt L t G H ∧ t + c ≤ TMAX ∧ Exf G H ∧ RepL Γ L G vs ds ∧ s ds P ∧
  (∀ r, P r → ∀ v G' H', At L (t + c) H G G' H' → Rep Γ L G' v r → Q v H') ∧ XOf Γ L (t + c) H G P E
theorem liftX_len {k cf : Nat} {s : DSp} (vs : List V) (H : Hp) (Q : VK) (E : XK) (h : liftX Γ k cf s vs H Q E) : vs.length = k := h.1
def tFnS (sp : Sp) (t : TA) (W : WX) : TE := fun σ H Q => t σ H fun vs H1 => sp vs H1 Q (WE W σ)
theorem sxe_fn {s : DSp} (ha : SA Γ L n c tA dA) : SXE Γ L (c + cf) (tFnS (liftX Γ n cf s) tA) (dFn s dA) := fun t σ δ B G H l x e hc P hp W Q k kx => by
  refine ha t σ δ B G H l x e (by omega) _ hp _ fun vs ds G1 H1 a1 r1 hl q1 => ⟨by rw [r1.len, hl], L, t + c, ds, G1, P, a1.lw, by omega, a1.gh, r1, q1, fun r hr v G2 H2 a2 r2 => ?_, fun cls d cn fs G2 H2 a2 z q => ?_⟩
  · exact k v r G2 H2 (by rw [← Nat.add_assoc]; exact a1.tr a2) r2 hr
  · exact kx cls d cn fs G2 H2 (by rw [← Nat.add_assoc]; exact a1.tr a2) z q
theorem pure_ofX {s : DSp} {cf cb k : Nat} {t : WX → TS} {d : DQ} {N : List Str} (snd : ∀ L, SSX Γ L cb t d) (hc : cb ≤ cf) (hd : ∀ xs P, xs.length = k → s xs P → d { nx := fun _ => P .non, rt := P } (startD N.length xs)) (vs : List V) (H : Hp) (Q : VK) (E : XK) (h : liftX Γ k cf s vs H Q E) :
    t (fun cls d _ H => E cls d H) { nx := fun _ H2 => Q .non H2, rt := Q } (start N vs) H := by
  obtain ⟨hl, L, tm, xs, G, P, lw, ht, ex, r, hp, kk, kx⟩ := h
  have a := At.start ex lw
  exact snd L tm (start N vs) (startD N.length xs) H G G H a (env_start r) (by omega) _ (hd xs P (by rw [← r.len]; exact hl) hp) _ _ ⟨fun σ δ G1 H1 a1 _ q => kk _ q _ G1 H1 (a1.le (by omega)) .non, fun v x G1 H1 a1 r1 q => kk x q v G1 H1 (a1.le (by omega)) r1, fun _ _ _ _ _ _ q => q.elim, fun _ _ _ _ _ _ q => q.elim⟩
    fun _ cls d cn fs G1 H1 a1 z q => kx cls d cn fs G1 H1 (a1.le (by omega)) z q
/-! ### raise -/
def dRaise0 (c : String) : DQ := fun N _ => N.rt (XR c [])
def dRaiseF (c : String) (f : Str) (d : DE) : DQ := fun N δ => d δ fun y => N.rt (XR c [(f, y)])
def tRaise0 (C : Addr) (W : WX) : TS := fun _ σ H => W (.ref C) none σ H
theorem sx_raise0 {cn : String} {C : Addr} (hc : Γ.con cn = .ref C) : SSX Γ L 0 (tRaise0 C) (dRaise0 cn) := fun t σ δ B G0 G H a e hc' N hp D W E x =>
  x σ (.ref C) none cn [] G H a ⟨⟨C, [], rfl, hc, .nil, .inl ⟨rfl, rfl⟩⟩⟩ hp
/-- what __init__(self, y): self.f = y of the exception class at C does -/
def spI (K : FK) (C : Addr) (f : Str) : Sp := fun vs H Q _ => ∃ a y, vs = [.ref a, y] ∧ H a = some (exo a C none) ∧ ∀ dx, H dx = none → dx ≠ a → Q .non (upd (upd H dx (exd dx [(f, y)])) a (exo a C (some dx)))
def tRaiseF (K : FK) (C : Addr) (f : Str) (te : TE) (W : WX) : TS := fun _ σ H => tMkO C (spI K C f) [] (tCons te tNil) σ H fun cls d H' => W cls d σ H'
theorem sx_raiseF {cn : String} {C : Addr} {f : Str} (hc : Γ.con cn = .ref C) (h : SE Γ L c te de) : SSX Γ L c (tRaiseF Γ.K C f te) (dRaiseF cn f de) := fun t σ δ B G0 G H a e ht N hp D W E x => by
  refine h t σ δ B G H a.lw a.gh e ht _ hp _ fun v d G1 H1 a1 r1 q => ⟨by simp, fun p hn => ?_⟩
  refine ⟨p, v, rfl, upd_same, fun dx h1 h2 => ⟨rfl, dx, [(f, v)], upd_same, ?_, ?_, ?_⟩⟩
  · rw [upd_ne h2, upd_same]
  · rw [upd_ne h2] at h1; exact h1
  · rw [upd_ne h2] at h1
    have eq : upd (L2.del (upd (upd (upd H1 p (exo p C none)) dx (exd dx [(f, v)])) p (exo p C (some dx))) p) dx (.xd [(f, v)]) = upd H1 dx (.xd [(f, v)]) := by
      funext b
      by_cases z : b = dx
      · subst z; rw [upd_same, upd_same]
      · rw [upd_ne z, upd_ne z]
        by_cases y : b = p
        · subst y; rw [L2.del_same, hn]
        · rw [L2.del_ne y, upd_ne y, upd_ne z, upd_ne y]
    rw [eq]
    have a2 := At.new (o := HO.xd [(f, v)]) a1.gh a1.lw h1
    exact x σ (.ref C) (some dx) cn [(f, d)] _ _ (a.tr (a1.tr a2)) ⟨⟨C, [(f, v)], rfl, hc, .cons (r1.up a2.gg) .nil, .inr ⟨dx, rfl, upd_same⟩⟩⟩ q
/-! ### try: i = .. except .. as ei: yi = ei -/
def tTryA (K : FK) (cv : Value) (i ei yi : Nat) (tx : WX → TE) (Wout : WX) : TS := fun D σ H => tAsg (tx (wKeep K cv ei (fun _ _ _ => tAsg (tVar ei) (gName yi)) Wout D)) (gName i) D σ H
def tTryE (K : FK) (cv : Value) (ei yi : Nat) (tx : WX → TE) (Wout : WX) : TS := fun D σ H => tDrop (tx (wKeep K cv ei (fun _ _ _ => tAsg (tVar ei) (gName yi)) Wout D)) D σ H
def caughtD (T : List String) (ei yi : Nat) (N : DN) (δ : DS) (c : String) (fs : List (Str × D)) : Prop := c ∈ T ∧ N.nx ((δ.set ei none).set yi (some (.sh (.exc c fs))))
def dTryA (T : List String) (i ei yi : Nat) (d : DE) : DQ := fun N δ => d δ fun x => match asX x with
  | some (c, fs) => caughtD T ei yi N δ c fs
  | none => N.nx (δ.set i (some (.sh x)))
def dTryE (T : List String) (ei yi : Nat) (d : DE) : DQ := fun N δ => d δ fun x => match asX x with
  | some (c, fs) => caughtD T ei yi N δ c fs
  | none => N.nx δ
theorem caught_ok {T : List String} {cv : Value} {ei yi : Nat} {N : DN} {D : Ends} {Wout : WX} {σ : L2.St} {δ : DS} {B G0 G H : Hp} {cls : Value} {d : Option Addr} {cn : String} {fs : List (Str × GP.D)} {t : Nat} (hei : ei < σ.length) (ne : ei ≠ yi) (hT : ∀ c ∈ T, ∀ C, Γ.con c = .ref C → PySem.W.exmOne Γ.K (.ref C) cv = some true)
    (a : At L t B G0 G H) (e : Env Γ L B G H σ δ) (E : EndsOf Γ L t B G0 N D) (z : XAt Γ L G cls d cn fs) (q : caughtD T ei yi N δ cn fs) : wKeep Γ.K cv ei (fun _ _ _ => tAsg (tVar ei) (gName yi)) Wout D cls d σ H := by
  obtain ⟨C, xs, rfl, hc, r, hd⟩ := z.ex
  refine ⟨true, hT cn q.1 C hc, fun _ p hn => ?_, fun z => by cases z⟩
  refine ⟨.ref p, by rw [List.getElem?_set]; simp [hei], ?_⟩
  have a2 := At.new (o := ExK (.ref C) d p) a.gh a.lw hn
  have r2 : Rep Γ L (upd G p (ExK (.ref C) d p)) (.ref p) (.exc cn fs) := .exc upd_same hc (RepF.up a2.gg r) (hd.imp id fun ⟨dd, z, y⟩ => ⟨dd, z, a2.gg _ _ y⟩)
  have eq : ((σ.set ei (some (V.ref p))).set yi (some (V.ref p))).set ei none = (σ.set ei none).set yi (some (V.ref p)) := by
    rw [List.set_comm _ _ (Ne.symm ne), List.set_set]
  show D.nx (((σ.set ei (some (V.ref p))).set yi (some (V.ref p))).set ei none) _
  rw [eq]
  exact E.nx _ _ _ _ (a.tr a2) (((e.step a2).wipe1 ei).set yi r2) q.2
theorem s_tryA {T : List String} {cv : Value} {Wout : WX} (n i ei yi : Nat) (ne : ei ≠ yi) (nx : Γ.cls "!" = none) (hT : ∀ c ∈ T, ∀ C, Γ.con c = .ref C → PySem.W.exmOne Γ.K (.ref C) cv = some true) (h : SXE Γ L c tx de) :
    SS Γ L c (tTryA Γ.K cv i ei yi tx Wout) (fun N δ => ei < δ.length ∧ dTryA T i ei yi de N δ) := fun t σ δ B G0 G H a e hc N hp D E => by
  refine h t σ δ B G H a.lw a.gh e hc _ hp.2 _ _ (fun v d G1 H1 a1 r1 q => ?_) fun cls d cn fs G1 H1 a1 z q => ?_
  · rw [rep_noX nx r1] at q
    exact E.nx _ _ G1 H1 (a.tr a1) ((e.step a1).set i r1) q
  · have q : caughtD T ei yi N δ cn fs := q
    exact caught_ok (by rw [← e.len]; exact hp.1) ne hT (a.tr a1) (e.step a1) E z q
theorem s_tryE {T : List String} {cv : Value} {Wout : WX} (n ei yi : Nat) (ne : ei ≠ yi) (nx : Γ.cls "!" = none) (hT : ∀ c ∈ T, ∀ C, Γ.con c = .ref C → PySem.W.exmOne Γ.K (.ref C) cv = some true) (h : SXE Γ L c tx de) :
    SS Γ L c (tTryE Γ.K cv ei yi tx Wout) (fun N δ => ei < δ.length ∧ dTryE T ei yi de N δ) := fun t σ δ B G0 G H a e hc N hp D E => by
  refine h t σ δ B G H a.lw a.gh e hc _ hp.2 _ _ (fun v d G1 H1 a1 r1 q => ?_) fun cls d cn fs G1 H1 a1 z q => ?_
  · rw [rep_noX nx r1] at q
    exact E.nx _ _ G1 H1 (a.tr a1) (e.step a1) q
  · have q : caughtD T ei yi N δ cn fs := q
    exact caught_ok (by rw [← e.len]; exact hp.1) ne hT (a.tr a1) (e.step a1) E z q
end
end GP

set_option Elab.async false
set_option linter.all false
set_option maxRecDepth 100000
set_option maxHeartbeats 1000000
/-! G35: rules over the program for exceptions: calls that may raise, defs that may raise, raise, try, isinstance and fields of a caught exception. -/
namespace GP
open PySem PySem.Spec PyProof.Rows L2
section
variable {P : Program} {w : World} {K : FK} {mg : Str → Option Value} {base : Heap}
/-- the context of a def's body that may let an exception out -/
abbrev cxX (P : Program) (w : World) (K : FK) (mg : Str → Option Value) (base : Heap) (N : List Str) (qual : Str) (st : Stmt) (f : Addr) (cdv : Value) (A : Around) (outer : List PySem.Env) (s : Shared) (H : Hp) (E : XK) : Cx :=
  cxOf (L2.CX P w) P w K mg base N qual (defScope st) f cdv A outer s H E
abbrev WK (E : XK) : WX := fun cls d _ H => E cls d H
/-- a def that may let an exception out -/
theorem fnGX {x qual : Str} {st : Stmt} {f : Addr} {fd : FuncData} {N ps : List Str} {k : Nat} {sp : Sp} {t : WX → TS} (F : Fun K x qual st f fd) (S : FnScope N ps (defScope st)) (len : ∀ vs H Q E, sp vs H Q E → vs.length = ps.length)
    (pure_ : ∀ vs H Q E, sp vs H Q E → t (WK E) { nx := fun _ H2 => Q .non H2, rt := Q } (start N vs) H)
    (der : ∀ (cdv : Value) (A : Around) (outer : List PySem.Env) (s : Shared) (H : Hp) (E : XK), RG k (cxX P w K mg base N qual st f cdv A outer s H E).A → Takes (cxX P w K mg base N qual st f cdv A outer s H E) (WK E) →
      PassesOwn (model P w) (cxX P w K mg base N qual st f cdv A outer s H E).A (cxX P w K mg base N qual st f cdv A outer s H E).env (cxX P w K mg base N qual st f cdv A outer s H E).xe →
      PSs (cxX P w K mg base N qual st f cdv A outer s H E) (defBody st) (t (WK E))) : FnG P w K mg base (L2.CX P w) (k + 1) f fd ps sp := by
  obtain ⟨oc, od, kV, doc, pm, an, cdv, ct, osl, rfl, lk, hcd⟩ := F.ex
  exact fnG_of lk hcd S len fun A outer s H vs Q E hr hsp => ⟨t (WK E), der cdv A outer s H E hr (takes_of rfl rfl rfl rfl) (passes_of rfl), pure_ vs H Q E hsp⟩
/-- where no exception comes out, it is a def that lets none out -/
theorem FnG.noX {Γ : Cn} {k n c : Nat} {f : Addr} {fd : FuncData} {ps : List Str} {s : DSp} (F : FnG P w K mg base (L2.CX P w) k f fd ps (liftX Γ n c s)) :
    FnG P w K mg base CX0 k f fd ps (lift Γ n c fun ds Q => s ds fun r => asX r = none ∧ Q r) := by
  have hx : ∀ {vs H Q E}, lift Γ n c (fun ds Q => s ds fun r => asX r = none ∧ Q r) vs H Q E → liftX Γ n c s vs H Q (fun _ _ _ => False) := fun {vs H Q E} ⟨hl, L, t, ds, G, R, lw, ht, ex, r, hs, hk⟩ =>
    ⟨hl, L, t, ds, G, _, lw, ht, ex, r, hs, fun r hr => hk r hr.2, fun cls d cn fs G' H' a z q => by
      have e := q.1
      rw [asX_XR] at e
      cases e⟩
  refine ⟨fun vs H Q E h => F.len _ _ _ _ (hx h), fun A outer s H args us vs Q E hr e0 hb r hsp => ?_⟩
  refine codeAny_mono (F.run A outer s H args us vs Q _ hr e0 hb r (hx hsp)) fun res s1 q => ?_
  match res, q with
  | .error ev, ⟨_, _, _, _, _, _, _, _, _, _, _, _, q⟩ => exact q.elim
  | .ok (.ret u), q => exact q
  | .ok .next, q => exact q.elim
  | .ok .brk, q => exact q.elim
  | .ok .cont, q => exact q.elim
theorem Cal.noX {Γ : Cn} {k n c : Nat} {x : Str} {ps : List Str} {s : DSp} (h : Cal P w K mg base (L2.CX P w) x k ps (liftX Γ n c s)) : Cal P w K mg base CX0 x k ps (lift Γ n c fun ds Q => s ds fun r => asX r = none ∧ Q r) := by
  obtain ⟨f, fd, F, r⟩ := h.ex
  exact ⟨f, fd, F.noX, r⟩
theorem takesF {X : Cx} : Takes X WF := fun u s' ⟨_, _, _, _, _, _, _, _, _, _, _, _, _, _, _, _, h⟩ => h.elim
end
section
variable {X : Cx} {CX : CXT} {k : Nat} {f C : Addr} {fd : FuncData} {ps : List Str} {sp : Sp} {W : WX} {x m : Str} {p pos apos : Pos} {e o : Expr} {es : List Expr} {te : TE} {t : TA}
theorem FnG.wpS {pins : List (Addr × Obj)} {σ : L2.St} {H : Hp} {s : Shared} {Q : VK} {E : XK} {us : List Value} {vs : List V} (F : FnG X.prog X.w X.K X.mg X.base CX k f fd ps sp) (hr : RG k X.A) (hb : Binds X.K fd ps []) (hx : PassesAt CX X σ E) (I : Inv X pins σ H s)
    (r : Vals vs us) (h : sp vs H Q E) : wpAny (model X.prog X.w) X.A (call (.ref f) us) (EP X pins σ Q) X.xe s := by
  have hl : us.length = ps.length := (r.length).symm.trans (F.len _ _ _ _ h)
  have b := hb s us I.kIn (by rw [List.append_nil]; exact hl)
  rw [List.append_nil] at b
  refine wpAny_call (codeAny_mono (F.run X.A X.stack s H ⟨us, []⟩ us vs Q E hr I.env0 b r h) fun res s1 q => ?_)
  match res, q with
  | .error ev, q => exact hx pins H s ev s1 I q
  | .ok (.ret u), q => exact I.after q
  | .ok .next, q => exact q.elim
  | .ok .brk, q => exact q.elim
  | .ok .cont, q => exact q.elim
/-- f(e, ..), f may raise -/
theorem pe_fnS (c : Cal X.prog X.w X.K X.mg X.base (L2.CX X.prog X.w) x k ps sp) {j : Nat} (hr : RG j X.A) (hj : k ≤ j) (hg : Gl X x) (tk : Takes X W) (ha : PA X (e :: es) t) (hdb : (x == ("__debug__" : Str)) = false := by decide)
    (he : starEach (e :: es) X.env = (false, eval e X.env) :: starEach es X.env := by rfl) (hpl : (backTo pos (starEach es X.env)).any (·.1) = false := by rfl) : PE X (.Call (.Name x p) (e :: es) [] pos) (tFnS sp t W) := by
  obtain ⟨f, fd, F, hm, hk, hb⟩ := c.ex
  refine ⟨fun pins s σ H Q I h => wpAny_Call_Name_kw (ld_glob I hg hm ?_ hdb)⟩
  refine PySem.W.callWith_K (h₀ := X.base) I.mod.kin hk (thn (ha.run pos pins s σ H _ I h) fun us s1 z => ?_) he hpl
  obtain ⟨vs, H1, I1, r, q⟩ := z
  exact ⟨I1.kIn, F.wpS (hr.mono hj) hb (passAt tk σ) I1 r q⟩
/-! ### raise -/
/-- an exception class x at C with __init__(self, y): self.f = y -/
structure CalX (P : Program) (w : World) (K : FK) (mg : Str → Option Value) (base : Heap) (x : Str) (C : Addr) (f : Str) : Prop where
  ex : ∃ fI fd ps, OexC K C ∧ PySem.W.findIn K (.ref C) "__init__" = some (some (.ref fI)) ∧ PySem.W.typeIn K (.ref fI) = some (.type "function") ∧ FnOk P w K mg base CX0 1 fI fd ps (spI K C f) ∧ Binds K fd ps [] ∧ mg x = some (.ref C)
theorem ps_raiseF {fl : Str} {pos' : Pos} (c : CalX X.prog X.w X.K X.mg X.base x C fl) {j : Nat} (hr : RG j X.A) (hj : 2 ≤ j) (hc : X.calm = true) (tk : Takes X W) (hg : Gl X x) (he : PE X e te) (hdb : (x == ("__debug__" : Str)) = false := by decide)
    (hs : starEach [e] X.env = (false, eval e X.env) :: starEach [] X.env := by rfl) : PS X (.Raise (some (.Call (.Name x p) [e] [] pos)) none pos') (tRaiseF X.K C fl te W) := by
  obtain ⟨fI, fd, ps, T, iC, tI, F1, hb, hm⟩ := c.ex
  exact ps_raise hc tk (pmk_oex T iC tI F1 (hr.rm.mono hj) hb (show Vals [] [] from .nil) pass0 hg hm (pa_cons he pa_nil hs) hdb hs)
theorem ps_raise0 {bmB : List Value} {B newId initId : String} {m : Str} {j : Nat} {p2 pos' : Pos} (hc : X.calm = true) (tk : Takes X W) (F : ExcBaseFacts B newId initId bmB) (q : PySem.W.excIn X.K C bmB newId = true) (gC : X.mg x = some (.ref C)) (kC : PySem.W.keepIn X.K (.ref C) = true) (r : Raises X (.ref C)) (hg : Gl X x)
    (hdb : (x == ("__debug__" : Str)) = false := by decide) : PS X (.Raise (some (.Call (.Name x p) [.Constant (.str m) j p2] [] pos)) none pos') (tRaise0 C W) :=
  ps_raise hc tk (pmk_own F q gC kC r hg hdb)
/-! ### try -/
theorem ps_tryA {n : Str} {c : Value} {i ei yi : Nat} {body suite : List Stmt} {b₀ : Stmt} {np pos pos' : Pos} {tx : WX → TE} {Wout : WX} (nd : X.N.Nodup) (hi : X.N[ei]? = some n) (lo : X.env.kindOf n = some .local) (nm : Names X x c) (tk : Takes X Wout)
    (bo : ∀ (W : WX) (pn : List (Addr × Obj)) (xe : Value → Shared → Prop), Takes (X.tr pn xe) W → PSs (X.tr pn xe) body (tAsg (tx W) (gName i)))
    (su : ∀ (a : Addr) (oe : Obj) (pn : List (Addr × Obj)), PSs (X.suite a ((a, oe) :: pn)) (b₀ :: suite) (tAsg (tVar ei) (gName yi)))
    (st : X.stack = X.env :: X.outer := by rfl) (fr : X.env.frame = some X.env.locals := by rfl) (nex : X.ex = [] := by rfl) :
    PS X (.Try body [.ExceptHandler (some (.Name x np)) (some n) (b₀ :: suite) pos'] [] [] pos) (tTryA X.K c i ei yi tx Wout) :=
  ps_try_keep (tb := fun W => tAsg (tx W) (gName i)) (ts := fun _ _ _ => tAsg (tVar ei) (gName yi)) st fr nex nd hi lo nm tk (fun W pn xe t _ => bo W pn xe t) fun a oe cls d pn _ _ => su a oe pn
theorem ps_tryE {n : Str} {c : Value} {ei yi : Nat} {body suite : List Stmt} {b₀ : Stmt} {np pos pos' : Pos} {tx : WX → TE} {Wout : WX} (nd : X.N.Nodup) (hi : X.N[ei]? = some n) (lo : X.env.kindOf n = some .local) (nm : Names X x c) (tk : Takes X Wout)
    (bo : ∀ (W : WX) (pn : List (Addr × Obj)) (xe : Value → Shared → Prop), Takes (X.tr pn xe) W → PSs (X.tr pn xe) body (tDrop (tx W)))
    (su : ∀ (a : Addr) (oe : Obj) (pn : List (Addr × Obj)), PSs (X.suite a ((a, oe) :: pn)) (b₀ :: suite) (tAsg (tVar ei) (gName yi)))
    (st : X.stack = X.env :: X.outer := by rfl) (fr : X.env.frame = some X.env.locals := by rfl) (nex : X.ex = [] := by rfl) :
    PS X (.Try body [.ExceptHandler (some (.Name x np)) (some n) (b₀ :: suite) pos'] [] [] pos) (tTryE X.K c ei yi tx Wout) :=
  ps_try_keep (tb := fun W => tDrop (tx W)) (ts := fun _ _ _ => tAsg (tVar ei) (gName yi)) st fr nex nd hi lo nm tk (fun W pn xe t _ => bo W pn xe t) fun a oe cls d pn _ _ => su a oe pn
end
/-! ### an exception's own __init__ -/
theorem fnI {P : Program} {w : World} {K : FK} {mg : Str → Option Value} {base : Heap} {x qual : Str} {st : Stmt} {f C : Addr} {fd : FuncData} {N ps : List Str} {fl : Str} (F : Fun K x qual st f fd) (S : FnScope N ps (defScope st)) (T : OexC K C) (hno : PySem.W.findIn K (.ref C) fl = some none) (hp : ps.length = 2) (hN : N.length = 2)
    (der : ∀ (cdv : Value) (A : Around) (outer : List PySem.Env) (s : Shared) (H : Hp) (E : XK), PSs (cx0 P w K mg base N qual st f cdv A outer s H E) (defBody st) (tOst K fl (tVar 0) (tVar 1))) : FnOk P w K mg base CX0 1 f fd ps (spI K C fl) := by
  obtain ⟨oc, od, kV, doc, pm, an, cdv, ct, osl, rfl, lk, hcd⟩ := F.ex
  refine fn_of (k := 0) lk hcd S (fun vs H Q E h => ?_) fun A outer s H vs Q E hr hsp => ⟨_, (der cdv A outer s H E).nox, ?_⟩
  · obtain ⟨a, y, rfl, _⟩ := h
    rw [hp]; rfl
  · obtain ⟨a, y, rfl, ha, q⟩ := hsp
    have e : L2.start N [V.ref a, y] = [some (V.ref a), some y] := by
      unfold L2.start
      rw [hN]; rfl
    rw [e]
    exact ⟨y, rfl, .ref a, rfl, a, C, rfl, T, hno, .inl ⟨ha, fun dx h1 h2 => q dx h1 h2⟩⟩
end GP

set_option Elab.async false
set_option linter.all false
set_option maxRecDepth 100000
set_option maxHeartbeats 1000000
/-! G36: isinstance and fields of a caught exception; runs of what may raise. -/
namespace GP
open PySem PySem.Spec PyProof.Rows L2
/-! ### isinstance(e, c) -/
/-- the dict of a caught exception, if it has one -/
def XdH (H : Hp) (d : Option Addr) : Prop := d = none ∨ ∃ dd fs, d = some dd ∧ H dd = some (.xd fs)
def rIsX (K : FK) : List V → Hp → VK → Prop := fun xs H Q => ∃ (a C : Addr) (d : Option Addr) (c : V) (u : Value) (b : Bool), xs = [.ref a, c] ∧ H a = some (ExK (.ref C) d a) ∧ XdH H d ∧ ExcC K C ∧ ClsV c u ∧ PySem.W.kitOne K (.ref C) u = some b ∧ Q (.bl b) H
def rIsXT (K : FK) : List V → Hp → VK → Prop := fun xs H Q => ∃ (a C : Addr) (d : Option Addr) (tp : Addr) (cs : List V) (us : List Value) (b : Bool), xs = [.ref a, .ref tp] ∧ H a = some (ExK (.ref C) d a) ∧ XdH H d ∧ ExcC K C ∧ H tp = some (.tup cs) ∧ Paired ClsV cs us ∧ PySem.W.kitAny K (.ref C) us = some b ∧ Q (.bl b) H
theorem exK_at {P : Program} {w : World} {H : Hp} {h : Heap} {a : Addr} {cls : Value} {d : Option Addr} (hok : HOk P w H h) (he : H a = some (ExK cls d a)) : ∃ (oe : Obj) (vs : Array Value), h.get? a = some oe ∧ Zc cls d oe ∧ oe.data = .fields vs := by
  have x : ObjOk P w H h a (.ext fun h => ∃ (oe : Obj) (vs : Array Value), h.get? a = some oe ∧ Zc cls d oe ∧ oe.data = .fields vs) := hok a _ he
  exact x.1
theorem inst_of {P : Program} {w : World} {H : Hp} {h : Heap} {a C : Addr} {d : Option Addr} (hok : HOk P w H h) (he : H a = some (ExK (.ref C) d a)) (hd : XdH H d) : ∃ ox od, PySem.W.InstAt h a ox C od := by
  obtain ⟨oe, vs, e, z, q⟩ := exK_at hok he
  rcases hd with rfl | ⟨dd, fs, rfl, hx⟩
  · obtain ⟨oc, od, oda, osl⟩ := oe
    obtain ⟨h1, h2⟩ := z
    dsimp only at h1 h2 q
    subst h1 h2 q
    exact ⟨_, none, e, rfl, rfl, trivial⟩
  · have hx : ObjOk P w H h dd (.xd fs) := hok dd _ hx
    obtain ⟨mA, hns, hr⟩ := hx
    obtain ⟨od, ho, hl⟩ := lookIn_ns hns
    exact ⟨oe, some od, e, z.1, by unfold PySem.W.notCls; rw [q] <;> rfl, by rw [z.2]; exact ho⟩
section
variable {X : Cx}
theorem isSome_hd {K : FK} {C : Addr} (h : PySem.W.hasDictIn K C = true) : (PySem.W.clsIn K C).isSome = true := by
  obtain ⟨cd, hc, _⟩ := PySem.W.any_some h
  rw [hc]; rfl
theorem call_isX : CallR X (.builtin "isinstance") (rIsX X.K) := by
  intro pins s σ H xs us Q I r h
  obtain ⟨a, C, d, c, u, b, rfl, ha, hd, T, k, e, q⟩ := h
  obtain ⟨u1, u2, rfl, r1, r2⟩ := vals2 r
  cases (show u1 = Value.ref a from r1)
  have e2 := k.eq r2
  subst e2
  obtain ⟨ox, od, J⟩ := inst_of I.hok ha hd
  exact PySem.W.kia_one (PySem.W.kitx_exc (isSome_hd T.hd) T.hg T.hk T.hs T.ha T.hn T.ht T.hm) I.kIn J e (fun z => nomatch z) fun tk => ⟨.bl b, H, I.tok tk, rfl, q⟩
theorem call_isXT : CallR X (.builtin "isinstance") (rIsXT X.K) := by
  intro pins s σ H xs us Q I r h
  obtain ⟨a, C, d, tp, cs, ws, b, rfl, ha, hd, T, hT, k, e, q⟩ := h
  obtain ⟨u1, u2, rfl, r1, r2⟩ := vals2 r
  cases (show u1 = Value.ref a from r1)
  cases (show u2 = Value.ref tp from r2)
  obtain ⟨ox, od, J⟩ := inst_of I.hok ha hd
  obtain ⟨_, its, rv, o, h1, h2, n, h3⟩ := (show ObjOk X.prog X.w H s.heap tp (.tup cs) from I.hok tp _ hT)
  have e3 := ClsV.all k rv
  subst e3
  obtain ⟨oc, od', dt, sl⟩ := o
  simp only at h2 h3
  subst h2 h3
  exact PySem.W.kia_tup (PySem.W.kitx_exc (isSome_hd T.hd) T.hg T.hk T.hs T.ha T.hn T.ht T.hm) I.kIn J h1 e (fun z => nomatch z) fun tk => ⟨.bl b, H, I.tok tk, rfl, q⟩
/-! ### e.f -/
def tXfK (K : FK) (f : Str) (te : TE) : TE := fun σ H Q => te σ H fun x H1 => ∃ (a C dd : Addr) (fs : List (Str × V)) (v : V), x = .ref a ∧ H1 a = some (ExK (.ref C) (some dd) a) ∧ XfC K C ∧ PySem.W.findIn K (.ref C) f = some none ∧ H1 dd = some (.xd fs) ∧ fs.lookup f = some v ∧ Q v H1
theorem pe_xfK {e : Expr} {te : TE} {pos : Pos} {n : Str} (he : PE X e te) (hb : attributeBase e n X.env (eval e X.env) = eval e X.env := by rfl) : PE X (.Attribute e n pos) (tXfK X.K n te) := by
  refine ⟨fun pins s σ H Q I h => ?_⟩
  refine attr_of hb (thn (he.run pins s σ H _ I h) fun u s1 hh => ?_)
  obtain ⟨x, H1, I1, rx, a, C, dd, fs, v, ex, hk, T, hno, ea, l, q⟩ := hh
  subst ex
  obtain rfl : u = Value.ref a := rx
  obtain ⟨oe, vs, ha, hz, hd⟩ := exK_at I1.hok hk
  have hx : ObjOk X.prog X.w H1 s1.heap dd (.xd fs) := I1.hok dd _ ea
  obtain ⟨mA, hns, hr⟩ := hx
  obtain ⟨od, ho, hl⟩ := lookIn_ns hns
  obtain ⟨u, hu, ru⟩ := RelO.some_of (v := v) (o := mA n) (by rw [← l]; exact hr n)
  have J : PySem.W.InstAt s1.heap a oe C (some od) := ⟨ha, hz.1, by unfold PySem.W.notCls; rw [hd] <;> rfl, by rw [hz.2]; exact ho⟩
  exact HandSPX.exc_get I1.kIn J T.ga T.gg T.exC (PySem.W.findObj_own T.hdC hno rfl (by rw [hl, hu])) (handed_of ru) ⟨v, H1, I1.tok _, ru, q⟩
end
/-! ### over data -/
/-- what isinstance answers of the exceptions T -/
def XIs (Γ : Cn) (T : List String) (cv : V) (f : String → Bool) : Prop := ∀ c ∈ T, ∀ C, Γ.con c = .ref C → ExcC Γ.K C ∧ ∃ u, ClsV cv u ∧ PySem.W.kitOne Γ.K (.ref C) u = some (f c)
def XFl (Γ : Cn) (T : List String) (f : Str) : Prop := ∀ c ∈ T, ∀ C, Γ.con c = .ref C → XfC Γ.K C ∧ PySem.W.findIn Γ.K (.ref C) f = some none
def dIsX (T : List String) (f : String → Bool) (d : DE) : DE := fun δ P => d δ fun x => match x with
  | .exc c _ => c ∈ T ∧ P (.bl (f c))
  | _ => False
def dXf (T : List String) (f : Str) (d : DE) : DE := fun δ P => d δ fun x => match x with
  | .exc c fs => c ∈ T ∧ match fs.lookup f with
    | some y => P y
    | none => False
  | _ => False
section
variable {Γ : Cn} {L : LS} {c : Nat} {te : TE} {de : DE}
theorem exf_ext {G H : Hp} {a : Addr} {φ : Heap → Prop} (e : Exf G H) (h : G a = some (.ext φ)) : H a = some (.ext φ) := by
  rcases e a _ h with q | ⟨_, _, q, _⟩
  · exact q
  · cases q
theorem exf_xd {G H : Hp} {a : Addr} {fs : List (Str × V)} (e : Exf G H) (h : G a = some (.xd fs)) : H a = some (.xd fs) := by
  rcases e a _ h with q | ⟨_, _, q, _⟩
  · exact q
  · cases q
theorem xdH_of {G H : Hp} {d : Option Addr} {xs : List (Str × V)} (e : Exf G H) (h : XdAt G d xs) : XdH H d := by
  rcases h with ⟨h, _⟩ | ⟨dd, h, q⟩
  · exact .inl h
  · exact .inr ⟨dd, xs, h, exf_xd e q⟩
theorem s_isX {T : List String} {cv : V} {f : String → Bool} (hx : XIs Γ T cv f) (h : SE Γ L c te de) : SE Γ L c (tCB (rIsX Γ.K) (tCons te (tCons (tC cv) tNil))) (dIsX T f de) := fun t σ δ B G H l x e hc P hp Q k =>
  h t σ δ B G H l x e hc _ hp _ fun v d G1 H1 a1 r1 q => by
    cases r1 with
    | @exc a C dd cn xs fs ha hcn rf hd =>
      obtain ⟨hm, hP⟩ := q
      obtain ⟨T1, u, k1, k2⟩ := hx cn hm C hcn
      exact ⟨a, C, dd, cv, u, f cn, rfl, exf_ext a1.gh ha, xdH_of a1.gh hd, T1, k1, k2, k _ _ G1 H1 a1 (.bl _) hP⟩
    | _ => exact q.elim
theorem repF_look {G : Hp} {f : Str} {y : D} : ∀ {xs : List (Str × V)} {fs : List (Str × D)}, RepF Γ L G xs fs → fs.lookup f = some y → ∃ v, xs.lookup f = some v ∧ Rep Γ L G v y
  | _, _, .nil, h => by cases h
  | _, _, .cons (k := k) (v := v) (d := d) hr t, h => by
    unfold List.lookup at h ⊢
    split at h
    · cases h; rename_i hk; exact ⟨v, by simp [hk], hr⟩
    · rename_i hk
      obtain ⟨w, h1, h2⟩ := repF_look t h
      exact ⟨w, by simp [hk, h1], h2⟩
theorem s_xf {T : List String} {f : Str} (hx : XFl Γ T f) (h : SE Γ L c te de) : SE Γ L c (tXfK Γ.K f te) (dXf T f de) := fun t σ δ B G H l x e hc P hp Q k =>
  h t σ δ B G H l x e hc _ hp _ fun v d G1 H1 a1 r1 q => by
    cases r1 with
    | @exc a C dd cn xs fs ha hcn rf hd =>
      obtain ⟨hm, hP⟩ := q
      split at hP
      · rename_i y hy
        obtain ⟨v, h1, h2⟩ := repF_look rf hy
        obtain ⟨T1, T2⟩ := hx cn hm C hcn
        rcases hd with ⟨rfl, rfl⟩ | ⟨d1, rfl, hq⟩
        · cases h1
        · exact ⟨a, C, d1, xs, v, rfl, exf_ext a1.gh ha, T1, T2, exf_xd a1.gh hq, h1, k v y G1 H1 a1 h2 hP⟩
      · exact hP.elim
    | _ => exact q.elim
end
/-! ### runs -/
def rNoX (r : RE) : RE := fun δ => (r δ).bind fun x => if (asX x).isNone = true then some x else none
def rAsgX (r : RE) (i : Nat) : RQ := fun δ => (r δ).bind fun x => match asX x with
  | some _ => some (.rt x)
  | none => some (.nx (δ.set i (some (.sh x))))
def rDropX (r : RE) : RQ := fun δ => (r δ).bind fun x => match asX x with
  | some _ => some (.rt x)
  | none => some (.nx δ)
def rRaise0 (c : String) : RQ := fun _ => some (.rt (XR c []))
def rRaiseF (c : String) (f : Str) (r : RE) : RQ := fun δ => (r δ).bind fun y => some (.rt (XR c [(f, y)]))
def rCaught (T : List String) (ei yi : Nat) (δ : DS) (c : String) (fs : List (Str × D)) : Option Out := if c ∈ T then some (.nx ((δ.set ei none).set yi (some (.sh (.exc c fs))))) else none
def rTryA (T : List String) (i ei yi : Nat) (r : RE) : RQ := fun δ => if ei < δ.length then (r δ).bind fun x => match asX x with
  | some (c, fs) => rCaught T ei yi δ c fs
  | none => some (.nx (δ.set i (some (.sh x))))
  else none
def rTryE (T : List String) (ei yi : Nat) (r : RE) : RQ := fun δ => if ei < δ.length then (r δ).bind fun x => match asX x with
  | some (c, fs) => rCaught T ei yi δ c fs
  | none => some (.nx δ)
  else none
def rIsXr (T : List String) (f : String → Bool) (r : RE) : RE := fun δ => (r δ).bind fun x => match x with
  | .exc c _ => if c ∈ T then some (.bl (f c)) else none
  | _ => none
def rXf (T : List String) (f : Str) (r : RE) : RE := fun δ => (r δ).bind fun x => match x with
  | .exc c fs => if c ∈ T then fs.lookup f else none
  | _ => none
section
variable {b : Bool} {de : DE} {re : RE}
theorem a_asgX (i : Nat) (h : AgE de re) : AgQ b (dAsgX de i) (rAsgX re i) := fun N δ o hb hr p => by
  obtain ⟨x, h1, h2⟩ := Option.bind_eq_some_iff.mp hr
  refine h δ x _ h1 ?_
  show match asX x with | some _ => N.rt x | none => N.nx (δ.set i (some (.sh x)))
  split at h2 <;> (rename_i hx; cases h2; exact p)
theorem a_dropX (h : AgE de re) : AgQ b (dDropX de) (rDropX re) := fun N δ o hb hr p => by
  obtain ⟨x, h1, h2⟩ := Option.bind_eq_some_iff.mp hr
  refine h δ x _ h1 ?_
  show match asX x with | some _ => N.rt x | none => N.nx δ
  split at h2 <;> (rename_i hx; cases h2; exact p)
theorem a_raise0 {c : String} : AgQ b (dRaise0 c) (rRaise0 c) := fun N δ o hb hr p => by
  cases hr; exact p
theorem a_raiseF {c : String} {f : Str} (h : AgE de re) : AgQ b (dRaiseF c f de) (rRaiseF c f re) := fun N δ o hb hr p => by
  obtain ⟨x, h1, h2⟩ := Option.bind_eq_some_iff.mp hr
  cases h2
  exact h δ x _ h1 p
theorem a_noX (h : AgE de re) : AgE (dNoX de) (rNoX re) := fun δ z P hr p => by
  obtain ⟨x, h1, h2⟩ := Option.bind_eq_some_iff.mp hr
  split at h2
  · rename_i hx
    cases h2
    exact h δ _ _ h1 ⟨Option.isNone_iff_eq_none.mp hx, p⟩
  · cases h2
theorem a_tryA {T : List String} (i ei yi : Nat) (h : AgE de re) : AgQ b (fun N δ => ei < δ.length ∧ dTryA T i ei yi de N δ) (rTryA T i ei yi re) := fun N δ o hb hr p => by
  unfold rTryA at hr
  split at hr
  · rename_i hl
    refine ⟨hl, ?_⟩
    obtain ⟨x, h1, h2⟩ := Option.bind_eq_some_iff.mp hr
    refine h δ x _ h1 ?_
    show match asX x with | some (c, fs) => caughtD T ei yi N δ c fs | none => N.nx (δ.set i (some (.sh x)))
    split at h2
    · rename_i c fs hx
      unfold rCaught at h2
      split at h2
      · rename_i hm
        cases h2
        exact ⟨hm, p⟩
      · cases h2
    · rename_i hx
      cases h2
      exact p
  · cases hr
theorem a_tryE {T : List String} (ei yi : Nat) (h : AgE de re) : AgQ b (fun N δ => ei < δ.length ∧ dTryE T ei yi de N δ) (rTryE T ei yi re) := fun N δ o hb hr p => by
  unfold rTryE at hr
  split at hr
  · rename_i hl
    refine ⟨hl, ?_⟩
    obtain ⟨x, h1, h2⟩ := Option.bind_eq_some_iff.mp hr
    refine h δ x _ h1 ?_
    show match asX x with | some (c, fs) => caughtD T ei yi N δ c fs | none => N.nx δ
    split at h2
    · rename_i c fs hx
      unfold rCaught at h2
      split at h2
      · rename_i hm
        cases h2
        exact ⟨hm, p⟩
      · cases h2
    · rename_i hx
      cases h2
      exact p
  · cases hr
theorem a_isX {T : List String} {f : String → Bool} (h : AgE de re) : AgE (dIsX T f de) (rIsXr T f re) := fun δ z P hr p => by
  obtain ⟨x, h1, h2⟩ := Option.bind_eq_some_iff.mp hr
  refine h δ x _ h1 ?_
  split at h2
  · split at h2
    · rename_i hm
      cases h2
      exact ⟨hm, p⟩
    · cases h2
  · cases h2
theorem a_xf {T : List String} {f : Str} (h : AgE de re) : AgE (dXf T f de) (rXf T f re) := fun δ z P hr p => by
  obtain ⟨x, h1, h2⟩ := Option.bind_eq_some_iff.mp hr
  refine h δ x _ h1 ?_
  split at h2
  · split at h2
    · rename_i hm
      refine ⟨hm, ?_⟩
      rw [h2]
      exact p
    · cases h2
  · cases h2
theorem ag_noX {s : DSp} {R : List D → Option D} (h : AgF s R) : AgF (fun ds Q => s ds fun r => asX r = none ∧ Q r) (fun ds => (R ds).bind fun x => if (asX x).isNone = true then some x else none) := fun ds z P hr p => by
  obtain ⟨x, h1, h2⟩ := Option.bind_eq_some_iff.mp hr
  split at h2
  · rename_i hx
    cases h2
    exact h ds _ _ h1 ⟨Option.isNone_iff_eq_none.mp hx, p⟩
  · cases h2
end
end GP

set_option Elab.async false
set_option linter.all false
set_option maxRecDepth 100000
set_option maxHeartbeats 400000
/-! G37: isdigit, int and str of texts, a starred list in a tuple; names for what is printed about exceptions. -/
namespace GP
open PySem PySem.Spec PyProof.Rows L2
/-- the exception class n, by its address -/
def Cn.xad (Γ : Cn) (n : String) : Addr := match Γ.con n with
  | .ref a => a
  | _ => 0
def isC (n : String) : String → Bool := fun c => c == n
def isAll : String → Bool := fun _ => true
def dTry1 (T : List String) (i ei yi : Nat) (d : DE) : DQ := fun N δ => ei < δ.length ∧ dTryA T i ei yi d N δ
def dTry2 (T : List String) (ei yi : Nat) (d : DE) : DQ := fun N δ => ei < δ.length ∧ dTryE T ei yi d N δ
section
variable {Γ : Cn} {L : LS} {c c1 c2 n : Nat} {te ta tb : TE} {de da db : DE} {b : Bool} {re ra rb : RE}
theorem s_try1 {tx : WX → TE} {T : List String} {cv : Value} {Wout : WX} (i ei yi : Nat) (ne : ei ≠ yi) (nx : Γ.cls "!" = none) (hT : ∀ c ∈ T, ∀ C, Γ.con c = .ref C → PySem.W.exmOne Γ.K (.ref C) cv = some true) (h : SXE Γ L c tx de) :
    SS Γ L c (tTryA Γ.K cv i ei yi tx Wout) (dTry1 T i ei yi de) := s_tryA 0 i ei yi ne nx hT h
theorem s_try2 {tx : WX → TE} {T : List String} {cv : Value} {Wout : WX} (ei yi : Nat) (ne : ei ≠ yi) (nx : Γ.cls "!" = none) (hT : ∀ c ∈ T, ∀ C, Γ.con c = .ref C → PySem.W.exmOne Γ.K (.ref C) cv = some true) (h : SXE Γ L c tx de) :
    SS Γ L c (tTryE Γ.K cv ei yi tx Wout) (dTry2 T ei yi de) := s_tryE 0 ei yi ne nx hT h
theorem a_try1 {T : List String} (i ei yi : Nat) (h : AgE de re) : AgQ b (dTry1 T i ei yi de) (rTryA T i ei yi re) := a_tryA i ei yi h
theorem a_try2 {T : List String} (ei yi : Nat) (h : AgE de re) : AgQ b (dTry2 T ei yi de) (rTryE T ei yi re) := a_tryE ei yi h
/-! ### isdigit -/
def gDigit : V → List V → Hp → VK → Prop := fun x xs H Q => ∃ a, x = .str a ∧ xs = [] ∧ True ∧ Q (.bl (Txt.isdigit a)) H
def fDigit : D → Option D
  | .str a => some (.bl (Txt.isdigit a))
  | _ => none
theorem s_digit (h : ST Γ L c te de) : SE Γ L c (tM0 gDigit te) (dUn fDigit de) := fun t σ δ B G H l x e hc P hp Q k => by
  refine h t σ δ B G H l x e hc _ hp _ fun v d G1 H1 a1 r1 q1 => ?_
  split at q1
  · rename_i z hz
    unfold fDigit at hz
    split at hz
    · rename_i a
      cases hz
      obtain ⟨rfl, _⟩ := str_of r1
      exact ⟨⟨a, rfl⟩, a, rfl, rfl, trivial, k _ _ G1 H1 a1 (.bl _) q1⟩
    · cases hz
  · exact q1.elim
theorem pe_digit {X : Cx} {o : Expr} {to : TE} {apos pos : Pos} (ho : PE X o to) (hbase : attributeBase o "isdigit" X.env (eval o X.env) = eval o X.env := by rfl) (hline : (apos.endLine == pos.line) = true := by rfl) : PE X (.Call (.Attribute o "isdigit" apos) [] [] pos) (tM0 gDigit to) :=
  pe_m0 F.slot_str_isdigit F.type_str_isdigit mt_isdigit ho hbase hline
/-! ### int(x) -/
def gInt : List V → Hp → VK → Prop := fun xs H Q => ((∃ i, xs = [.int i] ∧ Q (.int i) H) ∨ ∃ k, xs = [.bl k] ∧ Q (.int (if k then 1 else 0)) H) ∨ ∃ a n, xs = [.str a] ∧ PySem.intText? a = some n ∧ a.length ≤ 640 ∧ Q (.int n) H
def fInt1 : List D → Option D
  | [.int i] => some (.int i)
  | [.bl k] => some (.int (if k then 1 else 0))
  | [.str a] => if a.length ≤ 640 then (PySem.intText? a).map .int else none
  | _ => none
theorem g_int {X : Cx} : CallR X (.type "int") gInt := call_int1.or call_int_str
theorem k_int : CallS Γ L gInt fInt1 := fun t G H xs ds z l e r0 hz Q k => by
  unfold fInt1 at hz
  split at hz
  · cases hz
    obtain ⟨v, rfl, r⟩ := one_of r0
    obtain rfl := int_of r
    exact .inl (.inl ⟨_, rfl, k _ G H (At.start e l) (.int _)⟩)
  · cases hz
    obtain ⟨v, rfl, r⟩ := one_of r0
    obtain rfl := bl_of r
    exact .inl (.inr ⟨_, rfl, k _ G H (At.start e l) (.int _)⟩)
  · split at hz
    · rename_i hl
      obtain ⟨n, hn, ez⟩ := Option.map_eq_some_iff.mp hz
      subst ez
      obtain ⟨v, rfl, r⟩ := one_of r0
      obtain ⟨rfl, _⟩ := str_of r
      exact .inr ⟨_, n, rfl, hn, hl, k _ G H (At.start e l) (.int _)⟩
    · cases hz
  · cases hz
/-! ### str(x) -/
def gStr2 : List V → Hp → VK → Prop := fun xs H Q => gStr xs H Q ∨ ∃ a, xs = [.str a] ∧ Q (.str a) H
def fStr2 : List D → Option D
  | [.str a] => some (.str a)
  | ds => fStr ds
theorem g_str2 {X : Cx} : CallR X (.type "str") gStr2 := g_str.or SkE.call_str_str
theorem k_str2 : CallS Γ L gStr2 fStr2 := fun t G H xs ds z l e r0 hz Q k => by
  unfold fStr2 at hz
  split at hz
  · cases hz
    obtain ⟨v, rfl, r⟩ := one_of r0
    obtain ⟨rfl, ok⟩ := str_of r
    exact .inr ⟨_, rfl, k _ G H (At.start e l) (.str ok)⟩
  · exact .inl (k_str t G H xs ds z l e r0 hz Q k)
/-! ### repr(x) != 'text' -/
def fNeS (x y : D) : Option D := match x, y with
  | .raw a, .str b => some (.bl (!decide (a = b)))
  | _, _ => none
theorem o_neS : OpS Γ L (gNe Γ.K) fNeS := fun t G H x y dx dy z l e rx ry hz Q k => by
  unfold fNeS at hz
  split at hz
  · cases hz
    obtain rfl := raw_of rx
    obtain ⟨rfl, _⟩ := str_of ry
    refine .inl ⟨rfl, ?_⟩
    rw [dec_strV]
    exact k _ G H (At.start e l) (.bl _)
  · cases hz
/-! ### (x, *xs) -/
def dTupS (da db : DE) : DE := fun δ P => da δ fun x => db δ fun d => match sqD d with
  | some xs => xs.length + 1 ≤ LIM ∧ P (.tup (x :: xs))
  | none => False
def rTupS (ra rb : RE) : RE := fun δ => (ra δ).bind fun x => (rb δ).bind fun d => match sqD d with
  | some xs => if xs.length + 1 ≤ LIM then some (.tup (x :: xs)) else none
  | none => none
theorem s_tupS (h1 : SE Γ L c1 ta da) (h2 : SE Γ L c2 tb db) : SE Γ L (c1 + c2) (tTup (tCons ta (StX.tStar Γ.K tb tNil))) (dTupS da db) := fun t σ δ B G H l x e hc P hp Q k => by
  refine h1 t σ δ B G H l x e (by omega) _ hp _ fun v d G1 H1 a1 r1 q1 => ?_
  refine h2 (t + c1) σ δ B G1 H1 a1.lw a1.gh (e.step a1) (by omega) _ q1 _ fun w dd G2 H2 a2 r2 q2 => ?_
  split at q2
  · rename_i xs hxs
    obtain ⟨kd, p, ys, rfl, rl, z, sq⟩ := sq_of r2 hxs
    have ll := rl.len
    refine ⟨p, ys, rfl, ?_, ?_⟩
    · have := sq G2 H2 Ex.rfl' a2.gh
      cases kd with
      | true => first | exact .inl this | exact .inr this
      | false => first | exact .inr this | exact .inl this
    · refine ⟨lim_size (by rw [List.append_nil, List.length_cons, ll]; exact q2.1), fun np hn => ?_⟩
      rw [List.append_nil]
      have a3 := At.new (o := .tup (v :: ys)) a2.gh a2.lw hn
      exact k _ _ _ _ (by rw [← Nat.add_assoc]; exact (a1.tr a2).tr a3) (.tup (.inl upd_same) (.cons ((r1.up a2.gg).up a3.gg) (rl.up a3.gg)) (by rw [List.length_cons]; exact q2.1)) q2.2
  · exact q2.elim
theorem a_tupS (h1 : AgE da ra) (h2 : AgE db rb) : AgE (dTupS da db) (rTupS ra rb) := fun δ z P hr p => by
  obtain ⟨x, e1, hr⟩ := bnd hr
  obtain ⟨d, e2, hr⟩ := bnd hr
  refine h1 δ x _ e1 (h2 δ d _ e2 ?_)
  split at hr
  · split at hr
    · rename_i hl
      cases hr
      exact ⟨hl, p⟩
    · cases hr
  · cases hr
end
end GP

set_option Elab.async false
set_option linter.all false
set_option maxRecDepth 100000
set_option maxHeartbeats 4000000
/-! G43: C.m(e, ..) and C.m(k=e, ..) of a staticmethod m; such a call that may raise. -/
namespace GP
open PySem PySem.Spec PyProof.Rows L2
/-- C.m is a staticmethod around the def at f -/
structure Stat (K : FK) (C : Addr) (m : Str) (f : Addr) : Prop where
  rd : PySem.W.readsIn K C (.type "type") = true
  ga : PySem.W.specialIn K (.ref C) "__getattribute__" = some (some (.builtin "type.__getattribute__"))
  at_ : ∃ p rest, PySem.W.findCls K (.ref C) (.type "type") m = some (.get (.builtin "staticmethod.__get__") (.ref p) .none (.ref C)) ∧ PySem.W.recIn K p "staticmethod" = some (.ref f :: rest)
  kp : PySem.W.keepIn K (.ref f) = true
structure CalS (P : Program) (w : World) (K : FK) (mg : Str → Option Value) (base : Heap) (CX : CXT) (C : Addr) (m : Str) (k : Nat) (ps : List Str) (sp : Sp) : Prop where
  ex : ∃ f fd, FnG P w K mg base CX k f fd ps sp ∧ Stat K C m f ∧ Binds K fd ps []
structure CalSK (P : Program) (w : World) (K : FK) (mg : Str → Option Value) (base : Heap) (CX : CXT) (C : Addr) (m : Str) (k : Nat) (ps ks : List Str) (perm : List Nat) (sp : Sp) : Prop where
  ex : ∃ f fd, FnG P w K mg base CX k f fd ps sp ∧ Stat K C m f ∧ 0 < ps.length ∧ ∀ (s : Shared) (ws : List Value), K.In s.heap → ws.length = perm.length → BindsTo s fd ⟨[], ks.zip ws⟩ (ps.zip (pickL .none perm ws))
section
variable {X : Cx} {CX : CXT} {k : Nat} {f C : Addr} {fd : FuncData} {ps ks : List Str} {perm : List Nat} {sp : Sp} {E : XK} {W : WX} {m : Str} {pos apos : Pos} {e o : Expr} {es : List Expr} {kw : Keyword} {kws : List Keyword} {t : TA}
theorem getstat_ok {A : Around} {E : Value → Shared → Prop} {pl : Sem Bool} {pins : List (Addr × Obj)} {σ : L2.St} {H : Hp} {s : Shared} {Q : Value × List Value → Shared → Prop} (I : Inv X pins σ H s) (c : Stat X.K C m f) (h : ∀ s', Inv X pins σ H s' → Q (.ref f, []) s') :
    wpAny (model X.prog X.w) A (getMethod (.ref C) m pl) Q E s := by
  obtain ⟨p, rest, at_, hp⟩ := c.at_
  refine PySem.W.method_cls I.kIn c.ga (PySem.W.cls_bind I.kIn c.rd at_ ?_)
  refine wpAny_call (PySem.W.sm_get (s := { s with toks := s.toks + 1 }) I.kIn hp (PySem.W.handed_on rfl ?_))
  exact h _ (I.tok _)
theorem pe_stat {pl : Sem Bool} (c : CalS X.prog X.w X.K X.mg X.base CX C m k ps sp) {j : Nat} (hr : RG j X.A) (hj : k ≤ j) (hx : Passes CX X E) (he : PE X o (tC (.ref C))) (ha : PA X (e :: es) t)
    (hst : starEach (e :: es) X.env = (false, eval e X.env) :: starEach es X.env := by rfl) (hpl : (backTo pos (starEach es X.env)).any (·.1) = false := by rfl)
    (ht : eval (.Call (.Attribute o m apos) (e :: es) [] pos) X.env = (do
      let ov ← eval o X.env; standAt apos.atName; let (f, first) ← holding [ov] (getMethod ov m pl)
      callWith pos f first (backTo pos (starEach (e :: es) X.env)) (backToKw pos (keywordEach [] X.env))) := by rfl) : PE X (.Call (.Attribute o m apos) (e :: es) [] pos) (tFn sp E t) := by
  obtain ⟨f, fd, F, st, hb⟩ := c.ex
  refine ⟨fun pins s σ H Q I h => PySem.W.methodCall_KW (pl := pl) (thn (he.run pins s σ H (fun v H1 => v = .ref C ∧ H1 = H) I ⟨rfl, rfl⟩) fun u s1 z => ?_) ht⟩
  obtain ⟨xv, H1, I1, rx, rfl, rfl⟩ := z
  obtain rfl : u = Value.ref C := rx
  refine getstat_ok I1 st fun s2 I2 => PySem.W.callWith_K (h₀ := X.base) I.mod.kin st.kp (thn (ha.run pos pins s2 σ H1 _ I2 h) fun us s3 z => ?_) hst hpl
  obtain ⟨vs, H2, I3, r, q2⟩ := z
  exact ⟨I3.kIn, F.wp0 (hr.mono hj) hb hx I3 r q2⟩
theorem pe_statK {pl : Sem Bool} (c : CalSK X.prog X.w X.K X.mg X.base CX C m k ps ks perm sp) {j : Nat} (hr : RG j X.A) (hj : k ≤ j) (hx : Passes CX X E) (he : PE X o (tC (.ref C))) (ha : PK X (kw :: kws) t)
    (hall : (backToKw pos (keywordEach (kw :: kws) X.env)).all (·.1.isSome) = true := by rfl) (hks : (backToKw pos (keywordEach (kw :: kws) X.env)).filterMap (·.1) = ks := by rfl) (hpl : ((backTo pos (starEach [] X.env)).any (·.1) || (backToKw pos (keywordEach (kw :: kws) X.env)).any (·.1.isNone)) = false := by rfl)
    (ht : eval (.Call (.Attribute o m apos) [] (kw :: kws) pos) X.env = (do
      let ov ← eval o X.env; standAt apos.atName; let (f, first) ← holding [ov] (getMethod ov m pl)
      callWith pos f first (backTo pos (starEach [] X.env)) (backToKw pos (keywordEach (kw :: kws) X.env))) := by rfl) : PE X (.Call (.Attribute o m apos) [] (kw :: kws) pos) (tFnK sp perm E t) := by
  obtain ⟨f, fd, F, st, h0, hb⟩ := c.ex
  refine ⟨fun pins s σ H Q I h => PySem.W.methodCall_KW (pl := pl) (thn (he.run pins s σ H (fun v H1 => v = .ref C ∧ H1 = H) I ⟨rfl, rfl⟩) fun u s1 z => ?_) ht⟩
  obtain ⟨xv, H1, I1, rx, rfl, rfl⟩ := z
  obtain rfl : u = Value.ref C := rx
  refine getstat_ok I1 st fun s2 I2 => PySem.W.callWith_KW0 (h₀ := X.base) I.mod.kin st.kp hall (thn (ha.run pos pins s2 σ H1 _ I2 h) fun ws s3 z => ?_) hpl
  obtain ⟨vs, H2, I3, r, q2⟩ := z
  refine ⟨I3.kIn, ?_⟩
  rw [hks]
  have hl := F.len _ _ _ _ q2
  have hv : vs.length = perm.length := by
    by_cases e : vs.length = perm.length
    · exact e
    · unfold pickL at hl
      rw [if_neg e] at hl
      simp at hl
      omega
  exact F.wp (us := []) (hr.mono hj) hx I3 (fun _ => hb _ ws I3.kIn (by rw [← r.length]; exact hv)) (vals_pick r perm) q2
/-- .. that may raise -/
theorem pe_statS {pl : Sem Bool} (c : CalS X.prog X.w X.K X.mg X.base (L2.CX X.prog X.w) C m k ps sp) {j : Nat} (hr : RG j X.A) (hj : k ≤ j) (tk : Takes X W) (he : PE X o (tC (.ref C))) (ha : PA X (e :: es) t)
    (hst : starEach (e :: es) X.env = (false, eval e X.env) :: starEach es X.env := by rfl) (hpl : (backTo pos (starEach es X.env)).any (·.1) = false := by rfl)
    (ht : eval (.Call (.Attribute o m apos) (e :: es) [] pos) X.env = (do
      let ov ← eval o X.env; standAt apos.atName; let (f, first) ← holding [ov] (getMethod ov m pl)
      callWith pos f first (backTo pos (starEach (e :: es) X.env)) (backToKw pos (keywordEach [] X.env))) := by rfl) : PE X (.Call (.Attribute o m apos) (e :: es) [] pos) (tFnS sp t W) := by
  obtain ⟨f, fd, F, st, hb⟩ := c.ex
  refine ⟨fun pins s σ H Q I h => PySem.W.methodCall_KW (pl := pl) (thn (he.run pins s σ H (fun v H1 => v = .ref C ∧ H1 = H) I ⟨rfl, rfl⟩) fun u s1 z => ?_) ht⟩
  obtain ⟨xv, H1, I1, rx, rfl, rfl⟩ := z
  obtain rfl : u = Value.ref C := rx
  refine getstat_ok I1 st fun s2 I2 => PySem.W.callWith_K (h₀ := X.base) I.mod.kin st.kp (thn (ha.run pos pins s2 σ H1 _ I2 h) fun us s3 z => ?_) hst hpl
  obtain ⟨vs, H2, I3, r, q2⟩ := z
  exact ⟨I3.kIn, F.wpS (hr.mono hj) hb (passAt tk σ) I3 r q2⟩
end
end GP

set_option Elab.async false
set_option linter.all false
set_option maxRecDepth 100000
set_option maxHeartbeats 4000000
/-! G44: list(d.values()) of an owned dict; an owned thing lent to a call that returns a flat thing or a tuple of flat things; [.. for a, b in d.items()]. -/
namespace GP
open PySem PySem.Spec PyProof.Rows L2
/-! ### list(d.values()) -/
def tListVals (te : TE) : TE := fun σ H Q => te σ H fun x H1 => ∃ (d : Addr) (kvs : List (Key × V)), x = .ref d ∧ H1 d = some (.dK kvs) ∧ ∀ p, H1 p = none → Q (.ref p) (upd H1 p (.lst (kvs.map (·.2))))
theorem kv_vals {κ : Type} : ∀ {kvs : List (κ × V)} {vs : List (κ × Value)}, KV kvs vs → Vals (kvs.map (·.2)) (vs.map (·.2))
  | _, _, .nil => .nil
  | _, _, .cons h t => .cons h.2 (kv_vals t)
section
variable {X : Cx} {e : Expr} {te : TE} {p apos cpos pos : Pos}
theorem pe_listVals (hc : X.calm = true) (he : PE X e te) (hg : Gl X "list") (hm : X.mg "list" = none) (hv : bootBuiltins "list" = some (.type "list")) (hbase : attributeBase e "values" X.env (eval e X.env) = eval e X.env := by rfl) (hline : (apos.endLine == cpos.line) = true := by rfl)
    (hs : starEach [.Call (.Attribute e "values" apos) [] [] cpos] X.env = (false, eval (.Call (.Attribute e "values" apos) [] [] cpos) X.env) :: starEach [] X.env := by rfl) :
    PE X (.Call (.Name "list" p) [.Call (.Attribute e "values" apos) [] [] cpos] [] pos) (tListVals te) := by
  refine ⟨fun pins s σ H Q I hq => ?_⟩
  refine wpAny_Call_Name_kw (ld_blt I hg hm hv ?_)
  refine PyProof.Rows.callWith_type1 ?_ hs rfl
  rw [hs]
  show wpAny _ _ (spliced ((false, eval (.Call (.Attribute e "values" apos) [] [] cpos) X.env) :: backTo pos (starEach [] X.env))) _ _ s
  refine Calls.spliced_cons ?_
  refine wpAny_Call_method (T := "dict") (id := "dict.values") hbase rfl hline F.plainAttrs_dict F.slot_dict_values F.type_dict_values (thn (he.run pins s σ H _ I hq) fun u s1 ⟨x, H1, I1, rx, d, kvs, ex, hd, q⟩ => ?_)
  subst ex
  obtain rfl : u = Value.ref d := rx
  obtain ⟨hz, hs0, vs, kv, hdo⟩ := I1.hok d _ hd
  obtain ⟨ep, hat⟩ := hdo.dictAt
  have lk : kvs.length = vs.length := Paired.length kv
  have I2 : Inv X pins σ H1 { s1 with heap := s1.heap.push { cls := .type "dict_values", data := .fields #[.ref d] } } := I1.kept (t' := s1.toks) fun b ob q => Heap.get?_push_of_some _ q
  refine ⟨hdo.typeIs, hdo.mapOf.noDict, ?_⟩
  show wpAny _ _ (callWith cpos (.builtin "dict.values") [.ref d] [] []) _ X.xe s1
  refine method_meetsIn F.slot_dict_values F.entry_dict_values rfl (PySem.evalArgs_none ⟨rfl, hdo.typeIs, F.args_dict_values_1 _, _, meets_dict_values (mixKind X.prog X.w) d hs0, ⟨vs, hdo⟩, ?_⟩)
  refine Calls.spliced_nil ?_
  refine PySem.W.kdl_call (PySem.W.kdl_values (knd := mixKind X.prog X.w) (kvs := vs) (ep := ep) (d := d)) (I1.ok.hd hc) ⟨⟨_, Heap.get?_push_size _ rfl, rfl, rfl⟩, hat.push _⟩ (by omega) fun h' tk acc c hk hS hacc => ?_
  have hvs : acc.toList = vs.map (·.2) := PySem.W.kdl_vals_eq acc.toList (by rw [Array.length_toList]; exact hacc.1) fun j v e => hacc.2 j v (by rw [← Array.getElem?_toList]; exact e)
  have J := I2.laid (t' := tk) (o := .lst (kvs.map (·.2))) hk (Nat.le_refl _) ⟨by rw [List.length_map]; exact hz, acc.toList, c, by rw [hvs]; exact kv_vals kv, by rw [Array.toArray_toList]; exact hS⟩
  exact ⟨.ref _, _, J, rfl, q _ (I2.hok.fresh (Nat.le_refl _))⟩
end
section
variable {Γ : Cn} {L : LS}
def dValsO (i : Nat) : DE := fun δ P => match δ[i]? with
  | some (some (.ow (.dct kvs))) => P (.lst (kvs.map (·.2)))
  | _ => False
def rValsO (i : Nat) : RE := fun δ => match δ[i]? with
  | some (some (.ow (.dct kvs))) => some (.lst (kvs.map (·.2)))
  | _ => none
theorem a_valsO {i : Nat} : AgE (dValsO i) (rValsO i) := fun δ z P h p => by
  unfold rValsO at h
  unfold dValsO
  split at h
  · rename_i hi
    cases h
    exact p
  · cases h
theorem RepK.vals {G : Hp} : ∀ {xs : List (Key × V)} {ds : List (Key × D)}, RepK Γ L G xs ds → RepL Γ L G (xs.map (·.2)) (ds.map (·.2))
  | _, _, .nil => .nil
  | _, _, .cons _ h t => .cons h (RepK.vals t)
theorem s_valsO (i : Nat) : SF Γ L 0 (tListVals (tVar i)) (dValsO i) := fun t σ δ B G H l x e hc P hp Q k => by
  unfold dValsO at hp
  split at hp
  · rename_i kvs hi
    obtain ⟨p, hv, o, hb, hg, hn⟩ := e.ow i _ hi
    cases o with
    | dct hl r z =>
      refine ⟨.ref p, hv, p, _, rfl, hl, fun q nq => ?_⟩
      exact k q _ G _ (At.newH x l nq) nq (.lst upd_same r.vals (by rw [List.length_map]; exact z)) (x.none nq) hp
  · exact hp.elim
/-! ### lending to a call that hands out a flat thing, or a tuple of them -/
def flat2 : D → Bool
  | .tup xs => xs.all flD
  | d => flD d
def dLendE (i : Nat) (vs : List Nat) (de : DE) : DE := fun δ P => match δ[i]? with
  | some (some (.ow d)) => okNs (wipeD (δ.set i (some (.sh d))) vs) = true ∧ de (wipeD (δ.set i (some (.sh d))) vs) fun z => flat2 z = true ∧ P z
  | _ => False
theorem rep_flat2 {L' : LS} {G G' : Hp} {p : Addr} {u : HO} {v : V} {d : D} (hp : G p = some u) (nt : ∀ xs, u ≠ .tup xs) (hG : ∀ q, q ≠ p → G' q = G q) (h : flat2 d = true) (r : Rep Γ L G v d) : Rep Γ L' G' v d := by
  cases r with
  | tup hh r z =>
    rename_i a xs ds
    refine .tup ?_ (repL_fl h r) z
    rcases hh with hh | hh
    · left
      have ne : a ≠ p := fun e => by subst e; rw [hp] at hh; cases hh; exact nt _ rfl
      rw [hG a ne]
      exact hh
    · exact .inr hh
  | non => exact .non
  | bl b => exact .bl b
  | int i => exact .int i
  | str q => exact .str q
  | _ => simp [flat2, flD] at h
theorem s_lendE {te : TE} {de : DE} (i : Nat) (vs : List Nat) (h : SE Γ none 0 te de) : SE Γ L 0 te (dLendE i vs de) := fun t σ δ B G H l x e hc P hp Q k => by
  unfold dLendE at hp
  split at hp
  · rename_i d hd
    obtain ⟨p, hv, o, hb, hg, hn⟩ := e.ow i d hd
    obtain ⟨hns, hp⟩ := hp
    have nsj : ∀ (j : Nat) (s : Sl), (wipeD (δ.set i (some (.sh d))) vs)[j]? = some (some s) → ∃ d', s = .sh d' ∧ nsD 6 d' = true := fun j s hj => by
      have hm := List.mem_of_getElem? hj
      have := List.all_eq_true.mp hns _ hm
      cases s with
      | sh d' => exact ⟨d', rfl, this⟩
      | ow d' => cases this
    have key : ∀ u, H p = some u → (∀ ys, u ≠ .tup ys) → Rep Γ L (upd G p u) (.ref p) d → te σ H Q := fun u hu nt r => by
      have hx : Exf (upd G p u) H := fun a w z => by
        by_cases y : a = p
        · subst y; rw [upd_same] at z; cases z; exact .inl hu
        · rw [upd_ne y] at z; exact x a w z
      have he : Env Γ none B (upd G p u) H σ (wipeD (δ.set i (some (.sh d))) vs) := by
        refine ⟨fun j d' hj => ?_, fun j d' hj => ?_, fun j m d1 d2 q hjm h1 h2 _ _ => ?_, ?_⟩
        · obtain ⟨d2, e2, n2⟩ := nsj j _ hj
          cases e2
          have hj' := wipeD_at hj
          by_cases z : i = j
          · subst z
            rw [List.getElem?_set] at hj'
            by_cases l : i < δ.length
            · simp [l] at hj'; subst hj'; exact ⟨_, hv, rep_ns 6 r n2⟩
            · simp [l] at hj'
          · rw [List.getElem?_set_ne z] at hj'
            obtain ⟨v, hv', r'⟩ := e.sh j d' hj'
            exact ⟨v, hv', rep_ns 6 (r'.up (Ex.new hg)) n2⟩
        · obtain ⟨d2, e2, _⟩ := nsj j _ hj
          cases e2
        · obtain ⟨d3, e3, _⟩ := nsj j _ h1
          cases e3
        · rw [wipeD_len, List.length_set]
          exact e.len
      refine h t σ _ B (upd G p u) H (fun _ _ z => by cases z) hx he hc _ hp Q fun v z G3 H3 a3 r3 q3 => ?_
      refine k v z (del G3 p) H3 (lend_at l hg hu hn a3) (rep_flat2 (a3.gg p u upd_same) nt (fun q nq => ?_) q3.1 r3) q3.2
      unfold del
      simp [nq]
    cases o with
    | lst hl r z => exact key _ hl (fun _ q => by cases q) (.lst upd_same (r.up (Ex.new hg)) z)
    | dct hl r z => exact key _ hl (fun _ q => by cases q) (.dct upd_same (r.up (Ex.new hg)) z)
  · exact hp.elim
def rLendE (i : Nat) (vs : List Nat) (re : RE) : RE := fun δ => match δ[i]? with
  | some (some (.ow d)) => if okNs (wipeD (δ.set i (some (.sh d))) vs) = true then (re (wipeD (δ.set i (some (.sh d))) vs)).bind fun z => if flat2 z = true then some z else none else none
  | _ => none
theorem a_lendE {i : Nat} {vs : List Nat} {de : DE} {re : RE} (ht : AgE de re) : AgE (dLendE i vs de) (rLendE i vs re) := fun δ z P h p => by
  unfold rLendE at h
  split at h
  · rename_i d hd
    split at h
    · rename_i hns
      unfold dLendE
      rw [hd]
      obtain ⟨w, hw, h⟩ := bnd h
      split at h
      · rename_i hf
        cases h
        exact ⟨hns, ht _ z _ hw ⟨hf, p⟩⟩
      · cases h
    · cases h
  · cases h
/-! ### [.. for a, b in d.items()] -/
variable {ta te : TE} {da de : DE} {tt : TT} {dt : DT}
def dItems (de : DE) : DI := fun δ P => de δ fun d => match d with
  | .dct kvs => P (itsD kvs)
  | _ => False
theorem its_items {kp : Addr → Prop} {a : Addr} {od : Obj} {xs : List (Key × V)} {ds : List (Key × GP.D)} {G1 H1 : Hp} (hk : kp a) (hn : notL L a) (h1 : H1 a = some (.frz od (.dK xs))) (r : RepK Γ L G1 xs ds) (z : ds.length ≤ LIM) : ItsOf Γ L kp (Iti a od xs) (itsD ds) G1 H1 where
  lim := by unfold itsD; rw [List.length_map]; exact z
  go := fun i G H hi g x kk => ⟨kk a _ hk h1 hn, by unfold itsD at hi; rw [List.length_map] at hi; rw [r.len]; exact hi⟩
  st := fun G H g x kk => ⟨kk a _ hk h1 hn, by unfold itsD; rw [List.length_map, r.len]; exact Nat.le_refl _⟩
  yl := fun t i x d G H H2 hd l g xf kk y => by
    obtain ⟨T, k, v, hkv, rfl, nT, rfl⟩ := y
    have a2 := At.new (o := .tup [kV k, v]) xf l nT
    refine ⟨_, a2, ?_⟩
    unfold itsD at hd
    rw [List.getElem?_map] at hd
    obtain ⟨⟨k', d'⟩, hq, rfl⟩ := Option.map_eq_some_iff.mp hd
    obtain ⟨w, hw, rw'⟩ := (r.keys).at_ (i := i) (x := kD k') (by rw [List.getElem?_map, hq]; rfl)
    rw [List.getElem?_map, hkv] at hw
    cases hw
    obtain ⟨w2, hw2, rw2⟩ := (r.vals).at_ (i := i) (x := d') (by rw [List.getElem?_map, hq]; rfl)
    rw [List.getElem?_map, hkv] at hw2
    cases hw2
    exact .tup (.inl upd_same) (.cons ((rw'.up g).up a2.gg) (.cons ((rw2.up g).up a2.gg) .nil)) (show 2 ≤ LIM by decide)
theorem s_lcI {g : TG} {dg : DG} {sl vs : List Nat} (hi : SLoc Γ L ta da) (hg : SG Γ L g dg sl) (ht : SB Γ L 0 tt dt) (he : SE Γ L 0 te de) (hsl : ∀ i ∈ sl, i ∈ vs := by decide) : SF Γ L 0 (tLk (tLc (iItems ta) g tt te vs)) (dLc (dItems da) dg dt de vs) := fun t σ δ B G H l x e hc P hp Q k => by
  obtain ⟨a, xs, ds, hG, rk, z, q, loc⟩ := hi t σ δ B G H l x e _ hp
  have hn := G_notL l hG
  rcases x a _ hG with hH | ⟨_, od, e1, hH⟩
  · refine .inl ⟨a, _, hH, trivial, fun od => ?_⟩
    refine loc _ (fun b o h nb => by rw [upd_ne nb]; exact h) _ ⟨a, od, xs, rfl, upd_same, ?_⟩
    refine lc_core' (kp := fun _ => True) (T := t) (Q := fun v H' => H' a = some (.frz od (.dK xs)) ∧ Q v (upd H' a (.dK xs))) hsl hg ht he (l.lock hG) (x.lock hG od) (e.lock hG) (by omega) hc (its_items trivial hn upd_same rk z) q fun p d G2 H2 a2 np o gp q2 => ?_
    have e2 := a2.bh a _ upd_same hn
    have np2 : p ≠ a := fun y => by subst y; rw [upd_same] at np; cases np
    refine ⟨e2, k p d G2 _ (a2.unlock hG hH) (by rw [upd_ne np2] at np; exact np) (o.moved (upd_ne np2)) gp q2⟩
  · cases e1
    refine .inr (loc _ (fun b o h nb => h) _ ⟨a, od, xs, rfl, hH, ?_⟩)
    exact lc_core' (kp := fun _ => True) (T := t) hsl hg ht he l x e (by omega) hc (its_items trivial hn hH rk z) q fun p d G2 H2 a2 np o gp q2 => k p d G2 H2 a2 np o gp q2
def rItems (re : RE) : RA := fun δ => (re δ).bind fun d => match d with
  | .dct kvs => some (itsD kvs)
  | _ => none
end
end GP

set_option Elab.async false
set_option linter.all false
set_option maxRecDepth 100000
set_option maxHeartbeats 4000000
/-! G45: f'..' of texts; != of two instances whose class has an own ==. -/
namespace GP
open PySem PySem.Spec PyProof.Rows L2
/-! ### f'..' -/
def tJn (ts : List TE) : TE := fun σ H Q => tJs ts Str.empty σ H fun out H1 => Q (.str out) H1
section
variable {Γ : Cn} {L : LS}
/-- the parts' data: texts -/
def dJs : List DE → Str → DS → (Str → Prop) → Prop
  | [], acc, _, P => P acc
  | d :: ds, acc, δ, P => d δ fun x => match x with
    | .str y => okStr (acc ++ y) = true ∧ dJs ds (acc ++ y) δ P
    | _ => False
def dJn (ds : List DE) : DE := fun δ P => dJs ds Str.empty δ fun out => P (.str out)
inductive SJ (Γ : Cn) (L : LS) : List TE → List DE → Prop
  | nil : SJ Γ L [] []
  | cons {t : TE} {d : DE} {ts : List TE} {ds : List DE} (h : ST Γ L 0 t d) (r : SJ Γ L ts ds) : SJ Γ L (t :: ts) (d :: ds)
theorem js_ok {ts : List TE} {ds : List DE} (h : SJ Γ L ts ds) : ∀ (acc : Str), okStr acc = true → ∀ (t : Nat) (σ : L2.St) (δ : DS) (B G H : Hp), LawAt L t G H → Exf G H → Env Γ L B G H σ δ → t + 0 ≤ TMAX → ∀ P : Str → Prop, dJs ds acc δ P → ∀ Q : Str → Hp → Prop,
    (∀ out G' H', At L (t + 0) H G G' H' → okStr out = true → P out → Q out H') → tJs ts acc σ H Q := by
  induction h with
  | nil => exact fun acc ha t σ δ B G H l x e hc P hp Q k => k acc G H (At.start x l) ha hp
  | cons h r ih =>
    intro acc ha t σ δ B G H l x e hc P hp Q k
    refine h t σ δ B G H l x e hc _ hp _ fun v d G1 H1 a1 r1 q1 => ?_
    cases d with
    | str y =>
      obtain ⟨q1, q2⟩ := q1
      have ev : v = .str y := by
        rcases r1 with r1 | ⟨p, rfl, o, _⟩
        · cases r1; rfl
        · cases o
      refine ⟨y, ev, lim_size (okStr_len q1), ?_⟩
      exact ih (acc ++ y) q1 t σ δ B G1 H1 a1.lw a1.gh (e.step a1) hc P q2 Q fun out G2 H2 a2 ho p2 => k out G2 H2 (a1.tr a2) ho p2
    | _ => exact q1.elim
theorem s_jn {ts : List TE} {ds : List DE} (h : SJ Γ L ts ds) : SE Γ L 0 (tJn ts) (dJn ds) := fun t σ δ B G H l x e hc P hp Q k =>
  js_ok h Str.empty (by decide +kernel) t σ δ B G H l x e hc _ hp _ fun out G' H' a ho p => k (.str out) (.str out) G' H' a (.str ho) p
/-- a text put in -/
theorem s_fmt {te : TE} {de : DE} (h : ST Γ L 0 te de) : ST Γ L 0 (tFmt te) (fun δ P => de δ fun x => match x with
    | .str y => P (.str y)
    | _ => False) := fun t σ δ B G H l x e hc P hp Q k => h t σ δ B G H l x e hc _ hp _ fun v d G1 H1 a1 r1 q1 => by
  cases d with
  | str y =>
    have ev : v = .str y ∧ okStr y = true := by
      rcases r1 with r1 | ⟨p, rfl, o, _⟩
      · cases r1 with
        | str h => exact ⟨rfl, h⟩
      · cases o
    obtain ⟨rfl, hy⟩ := ev
    exact .inl ⟨y, rfl, lim_size (okStr_len hy), k _ _ G1 H1 a1 (.inl (.str hy)) q1⟩
  | _ => exact q1.elim
def dFmt (de : DE) : DE := fun δ P => de δ fun x => match x with
  | .str y => P (.str y)
  | _ => False
end
end GP

set_option Elab.async false
set_option linter.all false
set_option maxRecDepth 100000
set_option maxHeartbeats 4000000
/-! G46: != of two instances whose class has an own == (and no own !=). -/
namespace GP
open PySem PySem.Spec PyProof.Rows L2
theorem ns_some {K : FK} {h : Heap} {N : Addr} {mg : Str → Option Value} {n : Str} {v : Value} (X : K.In h) (G : h.Ns N mg) (e : PySem.W.nsIn K N n = some (some v)) : mg n = some v := by
  obtain ⟨o, es, ep, ho, hd, _, hf⟩ := G
  unfold PySem.W.nsIn at e
  split at e
  · rename_i q
    have z := X _ _ q
    rw [ho] at z
    cases z
    cases hd
    split at e
    · rename_i he
      cases e
      rw [← hf]
      unfold nsFind findBy
      rw [← Array.find?_toList, he]
      rfl
    · split at e <;> cases e
  · cases e
/-- the class at C has an own ==, the def at f -/
structure OwnEq (K : FK) (C f : Addr) : Prop where
  ex : ∃ (nm q : Str) (N : Addr) (bs : List Value) (sn : List Str) (sub : List Value) (col : Option Bool) (dd : Option Addr) (k0 k1 k2 k3 k5 : Option Value) (of : Obj), K.lookup C = some (excClassObj nm q C N bs [.type "object"] true sn sub false col dd k0 k1 k2 k3 k5 "object.__new__") ∧
    PySem.W.nsOkIn K N = true ∧ PySem.W.nsIn K N "__eq__" = some (some (.ref f)) ∧ PySem.W.nsIn K N "__ne__" = some none ∧ K.lookup f = some of ∧ of.cls = .type "function"
structure CalE (P : Program) (w : World) (K : FK) (mg : Str → Option Value) (base : Heap) (C : Addr) (k : Nat) (ps : List Str) (sp : Sp) : Prop where
  ex : ∃ f fd, FnG P w K mg base CX0 k f fd ps sp ∧ OwnEq K C f ∧ Binds K fd ps []
def rNeM (C : Addr) (sp : Sp) : R2 := fun x y H Q => ∃ a b dx dy fs gs, x = .ref a ∧ y = .ref b ∧ H a = some (.ins C dx fs) ∧ H b = some (.ins C dy gs) ∧ sp [x, y] H (fun v H' => ∃ b, v = .bl b ∧ Q (.bl (!b)) H') E0
section
variable {X : Cx} {k : Nat} {C : Addr} {ps : List Str} {sp : Sp}
theorem g_neM (c : CalE X.prog X.w X.K X.mg X.base C k ps sp) {j : Nat} (hr : RG j X.A) (hj : k + 1 ≤ j) : OpR X (compareOp .NotEq) (rNeM C sp) := fun pins s σ H x y v u Q I rx ry h => by
  obtain ⟨f, fd, F, oe, hb⟩ := c.ex
  obtain ⟨a, b, dx, dy, fs, gs, rfl, rfl, ha, hb', hsp⟩ := h
  obtain rfl : v = Value.ref a := rx
  obtain rfl : u = Value.ref b := ry
  obtain ⟨nm, q, N, bs, sn, sub, col, dd, k0, k1, k2, k3, k5, of, hC, n1, n2, n3, hf, hfc⟩ := oe.ex
  have KX := I.kIn
  obtain ⟨mA, J, _⟩ := ins_get I.hok ha
  obtain ⟨mB, J', _⟩ := ins_get I.hok hb'
  have nsN := Heap.Ns.of_isNs (PySem.W.isNs_of_in KX n1)
  have Y : s.heap.OwnEqNoNe a C f "object" [.type "object"] :=
    ⟨_, of, nm, q, N, bs, true, sn, sub, false, col, dd, k0, k1, k2, k3, k5, "object.__new__", _, _, J.obj, rfl, KX _ _ hC, nsN, ns_some KX nsN n2, KX _ _ hf, hfc, PySem.F.mro_object, rfl, PySem.W.ns_none_of KX nsN n3⟩
  have hl := F.len _ _ _ _ hsp
  have e := I.env0
  have e1 : Env0 X.prog X.w X.K X.mg X.base X.A.in1 X.stack s H := ⟨e.frames, e.mod, e.bs, e.bsz, e.funs, e.frf, e.hok, e.bare⟩
  have bd := hb s [.ref a, .ref b] KX (by rw [List.append_nil]; exact hl)
  rw [List.append_nil] at bd
  obtain ⟨h0, g0, d0, t0, os0⟩ := s
  refine compareOp_ne_ownEq PySem.F.cmp_object Y J'.obj rfl (RG.un hr) ?_
  refine wpAny_call (codeAny_mono (F.run X.A.in1 X.stack _ H ⟨[.ref a, .ref b], []⟩ [.ref a, .ref b] [.ref a, .ref b] _ E0 (RG.in1 (hr.mono hj)) e1 bd (.cons rfl (.cons rfl .nil)) hsp) fun res s1 z => ?_)
  match res, z with
  | .error ev, z => exact z.elim
  | .ok .next, z => exact z.elim
  | .ok .brk, z => exact z.elim
  | .ok .cont, z => exact z.elim
  | .ok (.ret u), z =>
    obtain ⟨w, H', I', rz, bq, rfl, qq⟩ := I.after z
    obtain rfl : u = Value.bool bq := rz
    exact ⟨bq, rfl, .bl (!bq), H', I', rfl, qq⟩
end
section
variable {Γ : Cn} {L : LS} {c1 c2 : Nat} {ta tb : TE} {da db : DE}
def dNeM (cn : String) (s : DSp) (da db : DE) : DE := fun δ P => da δ fun x => db δ fun y => match x, y with
  | .ins c fs, .ins c' gs => c = cn ∧ c' = cn ∧ s [.ins c fs, .ins c' gs] fun z => match z with
    | .bl b => P (.bl (!b))
    | _ => False
  | _, _ => False
theorem s_neM {cn : String} {s : DSp} (hC : Γ.cls cn = some (Γ.adr cn)) (ha : SE Γ L c1 ta da) (hb : SE Γ L c2 tb db) : SE Γ L (c1 + c2) (tOp (rNeM (Γ.adr cn) (lift Γ 2 0 s)) ta tb) (dNeM cn s da db) := fun t σ δ B G H l x e hc P hp Q k => by
  refine ha t σ δ B G H l x e (by omega) _ hp _ fun v d G1 H1 a1 r1 q1 => ?_
  refine hb (t + c1) σ δ B G1 H1 a1.lw a1.gh (e.step a1) (by omega) _ q1 _ fun w d2 G2 H2 a2 r2 q2 => ?_
  cases d <;> try exact q2.elim
  cases d2 <;> try exact q2.elim
  rename_i c fs c' gs
  obtain ⟨e1, e2, q3⟩ := q2
  subst e1
  subst e2
  have r1' := r1.up a2.gg
  obtain ⟨a, C, dx, xs, rfl, ea, hcl, _, ra⟩ := ins_of a2.gh (H := H2) (.inl r1')
  obtain ⟨b, C', dy, ys, rfl, eb, hcl', _, rb⟩ := ins_of a2.gh (H := H2) (.inl r2)
  rw [hC] at hcl hcl'
  cases hcl
  cases hcl'
  refine ⟨a, b, dx, dy, xs, ys, rfl, rfl, ea, eb, rfl, L, t + c1 + c2, _, G2, _, a2.lw, by omega, a2.gh, .cons ra (.cons rb .nil), q3, fun r hr v G3 H3 a3 r3 => ?_⟩
  cases r <;> try exact hr.elim
  rename_i bq
  cases r3
  exact ⟨bq, rfl, k _ _ G3 H3 (by rw [← Nat.add_assoc]; exact (a1.tr a2).tr a3) (.bl _) hr⟩
end
end GP

set_option Elab.async false
set_option linter.all false
set_option maxRecDepth 100000
set_option maxHeartbeats 4000000
/-! G47: runs and agreements for G44 to G46. -/
namespace GP
open PySem PySem.Spec PyProof.Rows L2
section
variable {da db : DE} {ra rb : RE}
theorem a_items (ha : AgE da ra) : AgA (dItems da) (rItems ra) := fun δ z P h p => by
  obtain ⟨x, h1, h⟩ := bnd h
  refine ha δ x _ h1 ?_
  cases x <;> try (cases h; done)
  cases h
  exact p
def rFmt (re : RE) : RE := fun δ => (re δ).bind fun x => match x with
  | .str y => some (.str y)
  | _ => none
theorem a_fmt (ha : AgE da ra) : AgE (dFmt da) (rFmt ra) := fun δ z P h p => by
  obtain ⟨x, h1, h⟩ := bnd h
  refine ha δ x _ h1 ?_
  cases x <;> try (cases h; done)
  cases h
  exact p
def rJs : List RE → Str → DS → Option Str
  | [], acc, _ => some acc
  | r :: rs, acc, δ => (r δ).bind fun x => match x with
    | .str y => if okStr (acc ++ y) = true then rJs rs (acc ++ y) δ else none
    | _ => none
def rJn (rs : List RE) : RE := fun δ => (rJs rs Str.empty δ).map .str
inductive AJ : List DE → List RE → Prop
  | nil : AJ [] []
  | cons {d : DE} {r : RE} {ds : List DE} {rs : List RE} (h : AgE d r) (t : AJ ds rs) : AJ (d :: ds) (r :: rs)
theorem aj_run {ds : List DE} {rs : List RE} (h : AJ ds rs) : ∀ (acc : Str) (δ : DS) (out : Str) (P : Str → Prop), rJs rs acc δ = some out → P out → dJs ds acc δ P := by
  induction h with
  | nil => intro acc δ out P e p; cases e; exact p
  | cons h t ih =>
    intro acc δ out P e p
    unfold rJs at e
    obtain ⟨x, h1, e⟩ := Option.bind_eq_some_iff.mp e
    unfold dJs
    refine h δ x _ h1 ?_
    cases x <;> try (cases e; done)
    dsimp only at e
    split at e
    · rename_i ho
      exact ⟨ho, ih _ δ out P e p⟩
    · cases e
theorem a_jn {ds : List DE} {rs : List RE} (h : AJ ds rs) : AgE (dJn ds) (rJn rs) := fun δ z P e p => by
  obtain ⟨out, h1, rfl⟩ := Option.map_eq_some_iff.mp e
  exact aj_run h Str.empty δ out _ h1 p
def rNeMr (cn : String) (R : List D → Option D) (ra rb : RE) : RE := fun δ => (ra δ).bind fun x => (rb δ).bind fun y => match x, y with
  | .ins c fs, .ins c' gs => if c = cn ∧ c' = cn then (R [.ins c fs, .ins c' gs]).bind fun z => match z with
    | .bl b => some (.bl (!b))
    | _ => none
    else none
  | _, _ => none
theorem a_neM {cn : String} {s : DSp} {R : List D → Option D} (hf : AgF s R) (ha : AgE da ra) (hb : AgE db rb) : AgE (dNeM cn s da db) (rNeMr cn R ra rb) := fun δ z P h p => by
  obtain ⟨x, h1, h⟩ := bnd h
  obtain ⟨y, h2, h⟩ := bnd h
  refine ha δ x _ h1 (hb δ y _ h2 ?_)
  split at h
  · split at h
    · rename_i hc
      obtain ⟨w, h3, h⟩ := bnd h
      refine ⟨hc.1, hc.2, hf _ w _ h3 ?_⟩
      cases w <;> try (cases h; done)
      cases h
      exact p
    · cases h
  · cases h
end
/-- name = [..] over a locked dict -/
theorem ps_lkA {X : Cx} {e : Stmt} {t : TE} {i : Nat} (h : PS X e (tAsg t (gName i))) : PS X e (tAsg (tLk t) (gName i)) := ps_lk h
end GP

set_option Elab.async false
set_option linter.all false
set_option maxRecDepth 100000
set_option maxHeartbeats 4000000
/-! G48: isinstance(x, C) of an instance of the class C. -/
namespace GP
open PySem PySem.Spec PyProof.Rows L2
/-- what of the text isinstance asks of a class -/
structure IsK (K : FK) (C : Addr) : Prop where
  cl : Cls K C
  ha : PySem.W.findIn K (.ref C) "__class__" = some (some (.builtin "object.__class__"))
  hn : PySem.W.specialIn K (.builtin "object.__class__") "__get__" = some (some (.builtin "getset_descriptor.__get__"))
  tk : PySem.W.takesIn K (.builtin "object.__class__") = some true
  hm : PySem.W.mroIn K C (.type "object") = some true
  hk : PySem.W.kitOne K (.ref C) (.ref C) = some true
section
variable {Γ : Cn} {L : LS} {c : Nat} {te : TE} {de : DE} {re : RE}
def dIsF (cn : String) (de : DE) : DE := fun δ P => de δ fun x => match x with
  | .ins k _ => k = cn ∧ P (.bl true)
  | _ => False
def rIsF (cn : String) (re : RE) : RE := fun δ => (re δ).bind fun x => match x with
  | .ins k _ => if k = cn then some (.bl true) else none
  | _ => none
theorem a_isF {cn : String} (h : AgE de re) : AgE (dIsF cn de) (rIsF cn re) := fun δ z P e p => by
  obtain ⟨x, h1, e⟩ := bnd e
  refine h δ x _ h1 ?_
  cases x <;> try (cases e; done)
  dsimp only at e
  split at e
  · rename_i hk
    cases e
    exact ⟨hk, p⟩
  · cases e
theorem s_isF {cn : String} (kF : IsK Γ.K (Γ.adr cn)) (co : Γ.con cn = .ref (Γ.adr cn)) (hC : Γ.cls cn = some (Γ.adr cn)) (h : SE Γ L c te de) :
    SE Γ L c (tCB (gIsi Γ.K) (tCons te (tCons (tC (Γ.con cn)) tNil))) (dIsF cn de) := fun t σ δ B G H l x e hc P hp Q k => by
  refine h t σ δ B G H l x e hc _ hp _ fun v d G1 H1 a1 r1 q1 => ?_
  cases d <;> try exact q1.elim
  rename_i kc fs
  obtain ⟨e1, q⟩ := q1
  subst e1
  obtain ⟨a, C, dx, xs, rfl, ea, hcl, _, _⟩ := ins_of a1.gh (H := H1) (.inl r1)
  rw [hC] at hcl
  cases hcl
  refine .inl ⟨.ref a, Γ.con kc, .ref (Γ.adr kc), .ref (Γ.adr kc), true, rfl, by rw [co]; exact .own _, .base (.ins ea kF.cl kF.ha kF.hn kF.tk kF.hm), kF.hk, ?_⟩
  exact k _ _ G1 H1 a1 (.bl true) q
end
end GP

set_option Elab.async false
set_option linter.all false
set_option maxRecDepth 100000
set_option maxHeartbeats 4000000
namespace GP
open PySem PySem.Spec PyProof.Rows L2
structure Kc (Γ : Cn) : Prop where
  k_LETTERS : ∀ L G, Rep Γ L G (Γ.con "LETTERS") dc_LETTERS
  k_LONGEST : ∀ L G, Rep Γ L G (Γ.con "LONGEST") dc_LONGEST
  f_parents : FldOk Γ "parents"
  c_Forest : Γ.cls "Forest" = some (Γ.adr "Forest")
  kcF : KcF Γ
  kF : IsK Γ.K (Γ.adr "Forest")
/-! _law_begun: slots 0 _law_script 1 _law_great 2 _law_cell; calls ; cost 0 -/
/-! _law_mixed: slots 0 _law_state 1 _law_found 2 _law_prime 3 _law_blend 4 _law_cell; calls ; cost 0 -/
/-! _law_take: slots 0 _law_state 1 _law_size 2 _law_found; calls _law_mixed; cost 1 -/
/-! _law_pick: slots 0 _law_state 1 _law_some; calls _law_take; cost 1 -/
/-! _law_words: slots 0 _law_state 1 _law_size 2 _law_own 3 _law_letters 4 _law_found 5 _law_k 6 _law_word 7 _law_j 8 _law_letter 9 _law_other; calls _law_pick _law_take; cost 99 -/
/-! Forest.__init__: slots 0 self 1 rows 2 row 3 name 4 parent; calls is_list is_row; cost 0 -/
/-! _law_written: slots 0 _law_rows 1 _law_found 2 _law_name 3 _law_parent; calls ; cost 0; draws nothing -/
def t_law_written (Γ : Cn) : TS := tSeq (tAsg (tC (.str "")) (gName 1)) (tSeq (tFor (gIter Γ.K (tVar 0)) (gTup Γ.K 2 (gCons (gName 2) (gCons (gName 3) (gNil)))) (tAsg (tOp (gAdd Γ.K) (tOp (gAdd Γ.K) (tOp
   (gAdd Γ.K) (tOp (gAdd Γ.K) (tVar 1) (tC (.str "account "))) (tVar 2)) (tIf (tTest (tOp (gIs) (tVar 3) (tC .non))) (tC (.str "")) (tOp (gAdd Γ.K) (tC (.str " in "))
   (tVar 3)))) (tC (.str "\n"))) (gName 1))) (tRet (tVar 1)))
def d_law_written_b1 : DQ := dAsg (dOp fAdd (dOp fAdd (dOp fAdd (dOp fAdd (dVar 1) (dC (.str "account "))) (dVar 2)) (dIf (dTest (dOp fIs (dVar 3) (dC .non))) (dC (.str "")) (dOp fAdd (dC (.str
   " in ")) (dVar 3)))) (dC (.str "\n"))) 1
def d_law_written : DQ := dSeq (dAsg (dC (.str "")) 1) (dSeq (dFor (dIter (dVarS 0)) (dTup2 2 3) (d_law_written_b1)) (dRet (dVarS 1)))
theorem snd_law_written {Γ : Cn} {L : LS} : SS Γ L 0 (t_law_written Γ) d_law_written := by
  unfold t_law_written d_law_written d_law_written_b1
  exact s_seq (s_asg 1 (s_c fun _ => .str (by decide +kernel))) (s_seq (s_for (s_iter (s_varS 0)) (s_tup2 2 3) (s_asg 1 (s_op o_add (SE.t (s_op o_add (SE.t (s_op o_add (SE.t
   (s_op o_add (s_var 1) (SE.t (s_c fun _ => .str (by decide +kernel))))) (s_var 2))) (SE.t (s_if' (s_test (SE.t (s_op o_is (s_var 3) (SE.t (s_c fun _ => .non))))) (s_c
   fun _ => .str (by decide +kernel)) (s_op o_add (SE.t (s_c fun _ => .str (by decide +kernel))) (s_var 3)))))) (SE.t (s_c fun _ => .str (by decide +kernel)))))) (s_ret
   (s_varS 1)))
def dp_law_written : DSp := dpOf 4 d_law_written
def sp_law_written (Γ : Cn) : Sp := lift Γ 1 0 dp_law_written
def r_law_written_b1 : RQ := rAsg (rOp fAdd (rOp fAdd (rOp fAdd (rOp fAdd (rVar 1) (rC (.str "account "))) (rVar 2)) (rIf (rTest (rOp fIs (rVar 3) (rC .non))) (rC (.str "")) (rOp fAdd (rC (.str
   " in ")) (rVar 3)))) (rC (.str "\n"))) 1
def r_law_written : RQ := rSeq (rAsg (rC (.str "")) 1) (rSeq (rFor (rIter (rVarS 0)) (rTup2 2 3) (r_law_written_b1)) (rRet (rVarS 1)))
def R_law_written : List D → Option D := runOf 4 r_law_written
theorem ag_law_written : AgF dp_law_written R_law_written := by
  refine ag_of ?_
  unfold d_law_written r_law_written d_law_written_b1 r_law_written_b1
  exact a_seq (a_asg (a_c _)) (a_seq (a_for (a_iter (a_varS 0)) (a_tup2 2 3) (a_asg (a_op (a_op (a_op (a_op (a_var 1) (a_c _)) (a_var 2)) (a_if (a_test (a_op (a_var 3) (a_c _)))
   (a_c _) (a_op (a_c _) (a_var 3)))) (a_c _)))) (a_ret (a_varS 1)))
/-! row_of: slots 0 line 1 earlier 2 words 3 found; calls is_row; cost 0; draws nothing -/
def t_row_of (Γ : Cn) : TS := tSeq (tAsg (tM1 (gSplit) (tVar 0) (tC (.str " "))) (gName 2)) (tSeq (tIfS (tTest (tOp (gNe Γ.K) (tOp (gIx Γ.K) (tVar 2) (tC (.int 0))) (tC (.str "account")))) (tRet (tC
   .non)) (tNext)) (tSeq (tIfS (tTest (tOp (gEq Γ.K) (tCB (gLen Γ.K) (tCons (tVar 2) (tNil))) (tC (.int 2)))) (tAsg (tTup (tCons (tOp (gIx Γ.K) (tVar 2) (tC (.int 1)))
   (tCons (tC .non) (tNil)))) (gName 3)) (tIfS (tAnd (tTest (tOp (gEq Γ.K) (tCB (gLen Γ.K) (tCons (tVar 2) (tNil))) (tC (.int 4)))) (tTest (tOp (gEq Γ.K) (tOp (gIx Γ.K)
   (tVar 2) (tC (.int 2))) (tC (.str "in"))))) (tAsg (tTup (tCons (tOp (gIx Γ.K) (tVar 2) (tC (.int 1))) (tCons (tOp (gIx Γ.K) (tVar 2) (tC (.int 3))) (tNil)))) (gName
   3)) (tRet (tC .non)))) (tRet (tIf (tTru Γ.K (tFn (sp_is_row Γ) E0 (tCons (tVar 3) (tCons (tVar 1) (tNil))))) (tVar 3) (tC .non)))))
def d_row_of : DQ := dSeq (dAsg (dM1 fSplit (dVar 0) (dC (.str " "))) 2) (dSeq (dIfS (dTest (dOp fNe (dOp fIx (dVar 2) (dC (.int 0))) (dC (.str "account")))) (dRet (dC .non)) (dNext)) (dSeq
   (dIfS (dTest (dOp fEq (dCB fLen (dCons (dVar 2) (dNil))) (dC (.int 2)))) (dAsg (dTup (dCons (dOp fIx (dVar 2) (dC (.int 1))) (dCons (dC .non) (dNil)))) 3) (dIfS (dAnd
   (dTest (dOp fEq (dCB fLen (dCons (dVar 2) (dNil))) (dC (.int 4)))) (dTest (dOp fEq (dOp fIx (dVar 2) (dC (.int 2))) (dC (.str "in"))))) (dAsg (dTup (dCons (dOp fIx
   (dVar 2) (dC (.int 1))) (dCons (dOp fIx (dVar 2) (dC (.int 3))) (dNil)))) 3) (dRet (dC .non)))) (dRet (dIf (dTru (dFn dp_is_row (dCons (dVarS 3) (dCons (dVarS 1)
   (dNil))))) (dVarS 3) (dC .non)))))
theorem snd_row_of {Γ : Cn} {L : LS} : SS Γ L 0 (t_row_of Γ) d_row_of := by
  unfold t_row_of d_row_of
  exact s_seq (s_asg 2 (s_m1 m_split (s_var 0) (SE.t (s_c fun _ => .str (by decide +kernel))))) (s_seq (s_if (s_test (SE.t (s_op o_ne (SE.t (s_op o_ix (s_var 2) (SE.t (s_c fun _
   => .int _)))) (SE.t (s_c fun _ => .str (by decide +kernel)))))) (s_ret (s_c fun _ => .non)) (s_next)) (s_seq (s_if (s_test (SE.t (s_op o_eq (SE.t (s_cb k_len (s_consT
   (s_var 2) (s_nilT)))) (SE.t (s_c fun _ => .int _))))) (s_asg 3 (s_tup (s_cons (s_op o_ix (s_var 2) (SE.t (s_c fun _ => .int _))) (s_cons (s_c fun _ => .non)
   (s_nil))))) (s_if (s_and (s_test (SE.t (s_op o_eq (SE.t (s_cb k_len (s_consT (s_var 2) (s_nilT)))) (SE.t (s_c fun _ => .int _))))) (s_test (SE.t (s_op o_eq (SE.t (s_op
   o_ix (s_var 2) (SE.t (s_c fun _ => .int _)))) (SE.t (s_c fun _ => .str (by decide +kernel))))))) (s_asg 3 (s_tup (s_cons (s_op o_ix (s_var 2) (SE.t (s_c fun _ => .int
   _))) (s_cons (s_op o_ix (s_var 2) (SE.t (s_c fun _ => .int _))) (s_nil))))) (s_ret (s_c fun _ => .non)))) (s_ret (s_if' (s_tru (SE.t (s_fn (s := dp_is_row) (cf := 0)
   (s_cons (s_varS 3) (s_cons (s_varS 1) (s_nil)))))) (s_varS 3) (s_c fun _ => .non)))))
def dp_row_of : DSp := dpOf 4 d_row_of
def sp_row_of (Γ : Cn) : Sp := lift Γ 2 0 dp_row_of
def r_row_of : RQ := rSeq (rAsg (rM1 fSplit (rVar 0) (rC (.str " "))) 2) (rSeq (rIfS (rTest (rOp fNe (rOp fIx (rVar 2) (rC (.int 0))) (rC (.str "account")))) (rRet (rC .non)) (rNext)) (rSeq
   (rIfS (rTest (rOp fEq (rCB fLen (rCons (rVar 2) (rNil))) (rC (.int 2)))) (rAsg (rTup (rCons (rOp fIx (rVar 2) (rC (.int 1))) (rCons (rC .non) (rNil)))) 3) (rIfS (rAnd
   (rTest (rOp fEq (rCB fLen (rCons (rVar 2) (rNil))) (rC (.int 4)))) (rTest (rOp fEq (rOp fIx (rVar 2) (rC (.int 2))) (rC (.str "in"))))) (rAsg (rTup (rCons (rOp fIx
   (rVar 2) (rC (.int 1))) (rCons (rOp fIx (rVar 2) (rC (.int 3))) (rNil)))) 3) (rRet (rC .non)))) (rRet (rIf (rTru (rFn R_is_row (rCons (rVarS 3) (rCons (rVarS 1)
   (rNil))))) (rVarS 3) (rC .non)))))
def R_row_of : List D → Option D := runOf 4 r_row_of
theorem ag_row_of : AgF dp_row_of R_row_of := by
  refine ag_of ?_
  unfold d_row_of r_row_of
  exact a_seq (a_asg (a_m1 (a_var 0) (a_c _))) (a_seq (a_ifS (a_test (a_op (a_op (a_var 2) (a_c _)) (a_c _))) (a_ret (a_c _)) (a_next)) (a_seq (a_ifS (a_test (a_op (a_cb (a_cons
   (a_var 2) (a_nil))) (a_c _))) (a_asg (a_tup (a_cons (a_op (a_var 2) (a_c _)) (a_cons (a_c _) (a_nil))))) (a_ifS (a_and (a_test (a_op (a_cb (a_cons (a_var 2) (a_nil)))
   (a_c _))) (a_test (a_op (a_op (a_var 2) (a_c _)) (a_c _)))) (a_asg (a_tup (a_cons (a_op (a_var 2) (a_c _)) (a_cons (a_op (a_var 2) (a_c _)) (a_nil))))) (a_ret (a_c
   _)))) (a_ret (a_if (a_tru (a_fn ag_is_row (a_cons (a_varS 3) (a_cons (a_varS 1) (a_nil))))) (a_varS 3) (a_c _)))))
/-! Forest.parse: slots 0 text 1 lines 2 rows 3 at 4 line 5 row; calls row_of Forest.__init__; cost 0 -/
def t_Forest_parse (Γ : Cn) : TS := tSeq (tIfS (tNot (tTru Γ.K (tCB (gIsi Γ.K) (tCons (tVar 0) (tCons (tC (.ty "str")) (tNil)))))) (tNever) (tNext)) (tSeq (tPar 1 2 (tCons (tM1 (gSplit) (tVar 0) (tC (.str
   "\n"))) (tCons (tDNewK) (tNil)))) (tSeq (tFor (iEnum Γ.K (tCons (tIf (tTest (tOp (gEq Γ.K) (tOp (gIx Γ.K) (tVar 1) (tUn gNeg (tC (.int 1)))) (tC (.str "")))) (tSl (gSl
   Γ.K) (tVar 1) (tNoPart) (tPart (tUn gNeg (tC (.int 1))))) (tVar 1)) (tNil))) (gTup Γ.K 2 (gCons (gName 3) (gCons (gName 4) (gNil)))) (tSeq (tAsg (tFn (sp_row_of Γ) E0
   (tCons (tVar 4) (tCons (tVar 2) (tNil)))) (gName 5)) (tSeq (tIfS (tTest (tOp (gIs) (tVar 5) (tC .non))) (tNever) (tNext)) (tAsg (tVar 5) (L2.gSub (tVar 2) (tOp (gIx
   Γ.K) (tVar 5) (tC (.int 0))) gSet))))) (tSeq (tIfS (tTest (tOp (gNe Γ.K) (tOp (gIx Γ.K) (tVar 1) (tUn gNeg (tC (.int 1)))) (tC (.str "")))) (tNever) (tNext)) (tRet
   (tMk (Γ.adr "Forest") (sp_Forest_init Γ) E0 (tCons (tListVals (tVar 2)) (tNil)))))))
def d_Forest_parse_b1 : DQ := dSeq (dAsg (dLendE 2 [0, 1, 3, 5] (dFn dp_row_of (dCons (dVarS 4) (dCons (dVarS 2) (dNil))))) 5) (dSeq (dIfS (dTest (dOp fIs (dVar 5) (dC .non))) ((fun _ _ => False))
   (dNext)) (dSetO 2 (dOp fIx (dVar 5) (dC (.int 0))) (dVarS 5)))
def d_Forest_parse_t4 : DQ := dRet (dFn dp_Forest_init (dCons (dValsO 2) (dNil)))
def d_Forest_parse_t3 : DQ := dSeq (dIfS (dTest (dOp fNe (dOp fIx (dVar 1) (dUn fNeg (dC (.int 1)))) (dC (.str "")))) ((fun _ _ => False)) (dNext)) d_Forest_parse_t4
def d_Forest_parse_t2 : DQ := dSeq (dFor (dEnum (dCons (dIf (dTest (dOp fEq (dOp fIx (dVar 1) (dUn fNeg (dC (.int 1)))) (dC (.str "")))) (dSl (dVar 1) (dNoPart) (dPart (dUn fNeg (dC (.int 1)))))
   (dVarS 1)) (dNil))) (dTup2 3 4) (d_Forest_parse_b1)) d_Forest_parse_t3
def d_Forest_parse_t1 : DQ := dSeq (dPar false true 1 2 (dM1 fSplit (dVar 0) (dC (.str "\n"))) (dNewD)) d_Forest_parse_t2
def d_Forest_parse : DQ := dSeq (dIfS (dNot (dTru (dCB fIsi (dCons (dVar 0) (dCons (dC (.ty "str")) (dNil)))))) ((fun _ _ => False)) (dNext)) d_Forest_parse_t1
theorem snd_Forest_parse {Γ : Cn} {L : LS} : SS Γ L 0 (t_Forest_parse Γ) d_Forest_parse := by
  unfold t_Forest_parse d_Forest_parse d_Forest_parse_t1 d_Forest_parse_t2 d_Forest_parse_t3 d_Forest_parse_t4 d_Forest_parse_b1
  exact s_seq (s_if (s_not (s_tru (SE.t (s_cb k_isi (s_consT (s_var 0) (s_consT (SE.t (s_c fun _ => .ty _)) (s_nilT))))))) (s_never) (s_next)) (s_seq (s_par (k1 := false) (k2 :=
   true) 1 2 (s_m1 m_split (s_var 0) (SE.t (s_c fun _ => .str (by decide +kernel)))) (s_newD)) (s_seq (s_for (s_enum (s_cons (s_if' (s_test (SE.t (s_op o_eq (SE.t (s_op
   o_ix (s_var 1) (SE.t (s_un o_neg (SE.t (s_c fun _ => .int _)))))) (SE.t (s_c fun _ => .str (by decide +kernel)))))) (s_sl (s_var 1) (s_noPart) (s_part (SE.t (s_un
   o_neg (SE.t (s_c fun _ => .int _)))))) (s_varS 1)) (s_nil))) (s_tup2 3 4) (s_seq (s_asg 5 (s_lendE 2 [0, 1, 3, 5] (s_fn (s := dp_row_of) (cf := 0) (s_cons (s_varS 4)
   (s_cons (s_varS 2) (s_nil)))))) (s_seq (s_if (s_test (SE.t (s_op o_is (s_var 5) (SE.t (s_c fun _ => .non))))) (s_never) (s_next)) (s_setO 2 (s_varS 5) (SE.t (s_op o_ix
   (s_var 5) (SE.t (s_c fun _ => .int _)))))))) (s_seq (s_if (s_test (SE.t (s_op o_ne (SE.t (s_op o_ix (s_var 1) (SE.t (s_un o_neg (SE.t (s_c fun _ => .int _)))))) (SE.t
   (s_c fun _ => .str (by decide +kernel)))))) (s_never) (s_next)) (s_ret (s_mk (cn := "Forest") (s := dp_Forest_init) (cf := 0) (s_cons (SF.e (s_valsO 2)) (s_nil)))))))
def r_Forest_parse_b1 : RQ := rSeq (rAsg (rLendE 2 [0, 1, 3, 5] (rFn R_row_of (rCons (rVarS 4) (rCons (rVarS 2) (rNil))))) 5) (rSeq (rIfS (rTest (rOp fIs (rVar 5) (rC .non))) (rNever) (rNext)) (rSetO
   2 (rOp fIx (rVar 5) (rC (.int 0))) (rVarS 5)))
def r_Forest_parse_s0 : RQ := rIfS (rNot (rTru (rCB fIsi (rCons (rVar 0) (rCons (rC (.ty "str")) (rNil)))))) (rNever) (rNext)
theorem ag_Forest_parse_s0 : AgQ false (dIfS (dNot (dTru (dCB fIsi (dCons (dVar 0) (dCons (dC (.ty "str")) (dNil)))))) ((fun _ _ => False)) (dNext)) r_Forest_parse_s0 := by
  unfold r_Forest_parse_s0
  try unfold d_Forest_parse_b1
  try unfold r_Forest_parse_b1
  exact a_ifS (a_not (a_tru (a_cb (a_cons (a_var 0) (a_cons (a_c _) (a_nil)))))) (a_never) (a_next)
def r_Forest_parse_s1 : RQ := rPar false true 1 2 (rM1 fSplit (rVar 0) (rC (.str "\n"))) (rNewD)
theorem ag_Forest_parse_s1 : AgQ false (dPar false true 1 2 (dM1 fSplit (dVar 0) (dC (.str "\n"))) (dNewD)) r_Forest_parse_s1 := by
  unfold r_Forest_parse_s1
  try unfold d_Forest_parse_b1
  try unfold r_Forest_parse_b1
  exact a_par (a_m1 (a_var 0) (a_c _)) (a_newD)
def r_Forest_parse_s2 : RQ := rFor (rEnum (rCons (rIf (rTest (rOp fEq (rOp fIx (rVar 1) (rUn fNeg (rC (.int 1)))) (rC (.str "")))) (rSl (rVar 1) (rNoPart) (rPart (rUn fNeg (rC (.int 1))))) (rVarS 1))
   (rNil))) (rTup2 3 4) (r_Forest_parse_b1)
theorem ag_Forest_parse_s2 : AgQ false (dFor (dEnum (dCons (dIf (dTest (dOp fEq (dOp fIx (dVar 1) (dUn fNeg (dC (.int 1)))) (dC (.str "")))) (dSl (dVar 1) (dNoPart) (dPart (dUn fNeg (dC (.int 1))))) (dVarS 1))
   (dNil))) (dTup2 3 4) (d_Forest_parse_b1)) r_Forest_parse_s2 := by
  unfold r_Forest_parse_s2
  try unfold d_Forest_parse_b1
  try unfold r_Forest_parse_b1
  exact a_for (a_enum (a_cons (a_if (a_test (a_op (a_op (a_var 1) (a_un (a_c _))) (a_c _))) (a_sl (a_var 1) (a_noPart) (a_part (a_un (a_c _)))) (a_varS 1)) (a_nil))) (a_tup2 3 4)
   (a_seq (a_asg (a_lendE (a_fn ag_row_of (a_cons (a_varS 4) (a_cons (a_varS 2) (a_nil)))))) (a_seq (a_ifS (a_test (a_op (a_var 5) (a_c _))) (a_never) (a_next)) (a_setO
   (a_op (a_var 5) (a_c _)) (a_varS 5))))
def r_Forest_parse_s3 : RQ := rIfS (rTest (rOp fNe (rOp fIx (rVar 1) (rUn fNeg (rC (.int 1)))) (rC (.str "")))) (rNever) (rNext)
theorem ag_Forest_parse_s3 : AgQ false (dIfS (dTest (dOp fNe (dOp fIx (dVar 1) (dUn fNeg (dC (.int 1)))) (dC (.str "")))) ((fun _ _ => False)) (dNext)) r_Forest_parse_s3 := by
  unfold r_Forest_parse_s3
  try unfold d_Forest_parse_b1
  try unfold r_Forest_parse_b1
  exact a_ifS (a_test (a_op (a_op (a_var 1) (a_un (a_c _))) (a_c _))) (a_never) (a_next)
def dp_Forest_parse : DSp := dpOf 6 d_Forest_parse
def sp_Forest_parse (Γ : Cn) : Sp := lift Γ 1 0 dp_Forest_parse
/-! Forest.text: slots 0 self 1 lines 2 name 3 parent 4 line; calls ; cost 0; draws nothing -/
def t_Forest_text (Γ : Cn) : TS := tSeq (tAsg (tLk (tLc (iItems (tFld Γ.K (tVar 0) "parents")) (gTup Γ.K 2 (gCons (gName 2) (gCons (gName 3) (gNil)))) (tYes) (tIf (tTest (tOp (gIs) (tVar 3) (tC .non)))
   (tJn [tC (.str "account "), tFmt (tVar 2)]) (tJn [tC (.str "account "), tFmt (tVar 2), tC (.str " in "), tFmt (tVar 3)])) [2, 3])) (gName 1)) (tRet (tM1 (gJoin Γ.K)
   (tC (.str "")) (tLc (gIter Γ.K (tVar 1)) (gName 4) (tYes) (tOp (gAdd Γ.K) (tVar 4) (tC (.str "\n"))) [4])))
def d_Forest_text : DQ := dSeq (dAsg (dLc (dItems (dFld "parents" (dVarS 0))) (dTup2 2 3) (dYes) (dIf (dTest (dOp fIs (dVar 3) (dC .non))) (dJn [dC (.str "account "), dFmt (dVar 2)]) (dJn [dC
   (.str "account "), dFmt (dVar 2), dC (.str " in "), dFmt (dVar 3)])) [2, 3]) 1) (dRet (dM1 fJoin (dC (.str "")) (dLc (dIter (dVar 1)) (dName 4) (dYes) (dOp fAdd (dVar
   4) (dC (.str "\n"))) [4])))
theorem snd_Forest_text {Γ : Cn} (f_parents : FldOk Γ "parents") {L : LS} : SS Γ L 0 (t_Forest_text Γ) d_Forest_text := by
  unfold t_Forest_text d_Forest_text
  exact s_seq (s_asg 1 (SF.e (s_lcI (loc_fld 0 f_parents) (s_tup2 2 3) (s_yes) (s_if' (s_test (SE.t (s_op o_is (s_var 3) (SE.t (s_c fun _ => .non))))) (s_jn (.cons (SE.t (s_c fun
   _ => .str (by decide +kernel))) (.cons (s_fmt (s_var 2)) .nil))) (s_jn (.cons (SE.t (s_c fun _ => .str (by decide +kernel))) (.cons (s_fmt (s_var 2)) (.cons (SE.t (s_c
   fun _ => .str (by decide +kernel))) (.cons (s_fmt (s_var 3)) .nil))))))))) (s_ret (s_m1 m_join (SE.t (s_c fun _ => .str (by decide +kernel))) (SF.t (s_lc (s_iterT
   (s_var 1)) (s_name 4) (s_yes) (s_op o_add (s_var 4) (SE.t (s_c fun _ => .str (by decide +kernel))))))))
def dp_Forest_text : DSp := dpOf 5 d_Forest_text
def sp_Forest_text (Γ : Cn) : Sp := lift Γ 1 0 dp_Forest_text
def r_Forest_text : RQ := rSeq (rAsg (rLc (rItems (rFld "parents" (rVarS 0))) (rTup2 2 3) (rYes) (rIf (rTest (rOp fIs (rVar 3) (rC .non))) (rJn [rC (.str "account "), rFmt (rVar 2)]) (rJn [rC
   (.str "account "), rFmt (rVar 2), rC (.str " in "), rFmt (rVar 3)])) [2, 3]) 1) (rRet (rM1 fJoin (rC (.str "")) (rLc (rIter (rVar 1)) (rName 4) (rYes) (rOp fAdd (rVar
   4) (rC (.str "\n"))) [4])))
def R_Forest_text : List D → Option D := runOf 5 r_Forest_text
theorem ag_Forest_text : AgF dp_Forest_text R_Forest_text := by
  refine ag_of ?_
  unfold d_Forest_text r_Forest_text
  exact a_seq (a_asg (a_lc (a_items (a_fld (a_varS 0))) (a_tup2 2 3) (a_yes) (a_if (a_test (a_op (a_var 3) (a_c _))) (a_jn (.cons (a_c _) (.cons (a_fmt (a_var 2)) .nil))) (a_jn
   (.cons (a_c _) (.cons (a_fmt (a_var 2)) (.cons (a_c _) (.cons (a_fmt (a_var 3)) .nil)))))))) (a_ret (a_m1 (a_c _) (a_lc (a_iter (a_var 1)) (a_name 4) (a_yes) (a_op
   (a_var 4) (a_c _)))))
/-! Forest.__eq__: slots 0 self 1 other; calls ; cost 0; draws nothing -/
def t_Forest_eq (Γ : Cn) : TS := tRet (tAndV (tCB (gIsi Γ.K) (tCons (tVar 1) (tCons (tC (Γ.con "Forest")) tNil))) (tOp (gEqD) (tFld Γ.K (tVar 0) "parents") (tFld Γ.K (tVar 1) "parents")))
def d_Forest_eq : DQ := dRet (dAndV (dIsF "Forest" (dVarS 1)) (dOp fEqD (dFld "parents" (dVar 0)) (dFld "parents" (dVar 1))))
theorem snd_Forest_eq {Γ : Cn} (kF : IsK Γ.K (Γ.adr "Forest")) (kcF : KcF Γ) (c_Forest : Γ.cls "Forest" = some (Γ.adr "Forest")) (f_parents : FldOk Γ "parents") {L : LS} : SS Γ L 0 (t_Forest_eq Γ) d_Forest_eq := by
  unfold t_Forest_eq d_Forest_eq
  exact s_ret (s_andV (SE.t (s_isF kF kcF.co c_Forest (s_varS 1))) (s_op o_eqD (SE.t (s_fld f_parents (s_var 0))) (SE.t (s_fld f_parents (s_var 1)))))
def dp_Forest_eq : DSp := dpOf 2 d_Forest_eq
def sp_Forest_eq (Γ : Cn) : Sp := lift Γ 2 0 dp_Forest_eq
def r_Forest_eq : RQ := rRet (rAndV (rIsF "Forest" (rVarS 1)) (rOp fEqD (rFld "parents" (rVar 0)) (rFld "parents" (rVar 1))))
def R_Forest_eq : List D → Option D := runOf 2 r_Forest_eq
theorem ag_Forest_eq : AgF dp_Forest_eq R_Forest_eq := by
  refine ag_of ?_
  unfold d_Forest_eq r_Forest_eq
  exact a_ret (a_andV (a_isF (a_varS 1)) (a_op (a_fld (a_var 0)) (a_fld (a_var 1))))
/-! law: slots 0 _law_script 1 _law_state 2 _law_texts 3 _law_turn 4 _law_rows 5 _law_forest_here 6 _law_due 7 _law_parsed 8 _law_parents 9 _law_name 10 _law_page 11 _law_pair; calls _law_begun _law_forest Forest.__init__ _law_written Forest.parse Forest.text Forest.__eq__ Forest.names Forest.ancestors; cost 436 -/
def t_law_rest (Γ : Cn) : TS := tSeq (tAsg (tLst (tNil)) (gName 2)) (tSeq (tFor (iRng1 (tCons (tC (.int 4)) (tNil))) (gName 3) (tSeq (tAsg (tFn (sp_law_forest Γ) E0 (tCons (tVar 1) (tCons (tC (.int 8))
   (tNil)))) (gName 4)) (tSeq (tPar 5 6 (tCons (tMk (Γ.adr "Forest") (sp_Forest_init Γ) E0 (tCons (tVar 4) (tNil))) (tCons (tFn (sp_law_written Γ) E0 (tCons (tVar 4)
   (tNil))) (tNil)))) (tSeq (tAsg (tFn (sp_Forest_parse Γ) E0 (tCons (tVar 6) (tNil))) (gName 7)) (tSeq (tIfS (tOr (tTest (tOp (gNe Γ.K) (tProp (Γ.adr "Forest")
   (sp_Forest_text Γ) [] E0 (tVar 5)) (tVar 6))) (tOr (tTest (tOp (rNeM (Γ.adr "Forest") (sp_Forest_eq Γ)) (tVar 7) (tVar 5))) (tOr (tTest (tOp (gNe Γ.K) (tProp (Γ.adr
   "Forest") (sp_Forest_names Γ) [] E0 (tVar 7)) (tProp (Γ.adr "Forest") (sp_Forest_names Γ) [] E0 (tVar 5)))) (tTest (tOp (gNe Γ.K) (tProp (Γ.adr "Forest")
   (sp_Forest_text Γ) [] E0 (tVar 7)) (tVar 6)))))) (tRet (tC (.bl false))) (tNext)) (tSeq (tIfS (tTest (tOp (gNe Γ.K) (tProp (Γ.adr "Forest") (sp_Forest_text Γ) [] E0
   (tFnK (sp_Forest_parse Γ) [0] E0 (tCons (tProp (Γ.adr "Forest") (sp_Forest_text Γ) [] E0 (tVar 5)) (tNil)))) (tVar 6))) (tRet (tC (.bl false))) (tNext)) (tSeq (tAsg
   (tCB (gDict Γ.K) (tCons (tVar 4) (tNil))) (gName 8)) (tSeq (tFor (gIter Γ.K (tProp (Γ.adr "Forest") (sp_Forest_names Γ) [] E0 (tVar 7))) (gName 9) (tIfS (tTest (tOp
   (gNe Γ.K) (tSl (gSl Γ.K) (tMt (Γ.adr "Forest") "ancestors" (sp_Forest_ancestors Γ) E0 (tVar 7) (tCons (tVar 9) (tNil))) (tPart (tC (.int 1))) (tPart (tC (.int 2))))
   (tIf (tTest (tOp (gIs) (tOp (gIx Γ.K) (tVar 8) (tVar 9)) (tC .non))) (tLst (tNil)) (tLst (tCons (tOp (gIx Γ.K) (tVar 8) (tVar 9)) (tNil)))))) (tRet (tC (.bl false)))
   (tNext))) (tDrop (tBM Γ.K "list" rAppend (tVar 2) (tCons (tTup (tCons (tVar 6) (tCons (tVar 4) (tNil)))) tNil))))))))))) (tSeq (tFor (gIter Γ.K (tVar 2)) (gTup Γ.K 2
   (gCons (gName 10) (gCons (gName 4) (gNil)))) (tIfS (tTest (tOp (gNe Γ.K) (tLc (gIter Γ.K (tVar 2)) (gName 11) (tTest (tOp (gNe Γ.K) (tOp (gEq Γ.K) (tOp (gIx Γ.K) (tVar
   11) (tC (.int 0))) (tVar 10)) (tOp (gEq Γ.K) (tOp (gIx Γ.K) (tVar 11) (tC (.int 1))) (tVar 4)))) (tVar 11) [11]) (tLst (tNil)))) (tRet (tC (.bl false))) (tNext)))
   (tRet (tC (.bl true)))))
def d_law_rest_b1 : DQ := dIfS (dTest (dOp fNe (dSl (dMt "Forest" "ancestors" dp_Forest_ancestors (dVarS 7) (dCons (dVarS 9) (dNil))) (dPart (dC (.int 1))) (dPart (dC (.int 2)))) (dIf (dTest (dOp
   fIs (dOp fIx (dVar 8) (dVar 9)) (dC .non))) (dLst (dNil)) (dLst (dCons (dOp fIx (dVar 8) (dVar 9)) (dNil)))))) (dRet (dC (.bl false))) (dNext)
def d_law_rest_b2_t7 : DQ := dApp 2 (dTup (dCons (dVarS 6) (dCons (dVarS 4) (dNil))))
def d_law_rest_b2_t6 : DQ := dSeq (dFor (dIter (dPr "Forest" dp_Forest_names (dVarS 7))) (dName 9) (d_law_rest_b1)) d_law_rest_b2_t7
def d_law_rest_b2_t5 : DQ := dSeq (dAsg (dCB fDict (dCons (dVar 4) (dNil))) 8) d_law_rest_b2_t6
def d_law_rest_b2_t4 : DQ := dSeq (dIfS (dTest (dOp fNe (dPr "Forest" dp_Forest_text (dFnK dp_Forest_parse [0] (dCons (dPr "Forest" dp_Forest_text (dVarS 5)) (dNil)))) (dVar 6))) (dRet (dC (.bl
   false))) (dNext)) d_law_rest_b2_t5
def d_law_rest_b2_t3 : DQ := dSeq (dIfS (dOr (dTest (dOp fNe (dPr "Forest" dp_Forest_text (dVarS 5)) (dVar 6))) (dOr (dTest (dNeM "Forest" dp_Forest_eq (dVarS 7) (dVarS 5))) (dOr (dTest (dOp fNe (dPr
   "Forest" dp_Forest_names (dVarS 7)) (dPr "Forest" dp_Forest_names (dVarS 5)))) (dTest (dOp fNe (dPr "Forest" dp_Forest_text (dVarS 7)) (dVar 6)))))) (dRet (dC (.bl
   false))) (dNext)) d_law_rest_b2_t4
def d_law_rest_b2_t2 : DQ := dSeq (dAsg (dFn dp_Forest_parse (dCons (dVarS 6) (dNil))) 7) d_law_rest_b2_t3
def d_law_rest_b2_t1 : DQ := dSeq (dPar false false 5 6 (dFn dp_Forest_init (dCons (dVarS 4) (dNil))) (dFn dp_law_written (dCons (dVarS 4) (dNil)))) d_law_rest_b2_t2
def d_law_rest_b2 : DQ := dSeq (dAsg (dFn dp_law_forest (dCons (dVarS 1) (dCons (dC (.int 8)) (dNil)))) 4) d_law_rest_b2_t1
def d_law_rest_b3 : DQ := dIfS (dTest (dOp fNe (dLc (dIter (dVar 2)) (dName 11) (dTest (dOp fNe (dOp fEq (dOp fIx (dVar 11) (dC (.int 0))) (dVar 10)) (dOp fEq (dOp fIx (dVar 11) (dC (.int 1)))
   (dVar 4)))) (dVarS 11) [11]) (dLst (dNil)))) (dRet (dC (.bl false))) (dNext)
def d_law_rest_t3 : DQ := dRet (dC (.bl true))
def d_law_rest_t2 : DQ := dSeq (dFrz 2 (dFor (dIter (dVarS 2)) (dTup2 10 4) (d_law_rest_b3))) d_law_rest_t3
def d_law_rest_t1 : DQ := dSeq (dForN 4 (dRng1 (dCons (dC (.int 4)) (dNil))) (dName 3) (d_law_rest_b2)) d_law_rest_t2
def d_law_rest : DQ := dSeq (dAsgO (dLst (dNil)) 2) d_law_rest_t1
theorem snd_law_rest {Γ : Cn} (c_Forest : Γ.cls "Forest" = some (Γ.adr "Forest")) {L : LS} : SS Γ L 436 (t_law_rest Γ) d_law_rest := by
  unfold t_law_rest d_law_rest d_law_rest_t1 d_law_rest_t2 d_law_rest_t3 d_law_rest_b3 d_law_rest_b2 d_law_rest_b2_t1 d_law_rest_b2_t2 d_law_rest_b2_t3 d_law_rest_b2_t4 d_law_rest_b2_t5 d_law_rest_b2_t6 d_law_rest_b2_t7 d_law_rest_b1
  exact s_seq (s_asgO 2 (s_lst (s_nil))) (s_seq (s_forN 4 (s_rng1 (s_consT (SE.t (s_c fun _ => .int _)) (s_nilT))) (s_name 3) (s_seq (s_asg 4 (SF.e (s_fnF (s := dp_law_forest)
   (cf := 109) (s_cons (s_varS 1) (s_cons (s_c fun _ => .int _) (s_nil)))))) (s_seq (s_par (k1 := false) (k2 := false) 5 6 (s_mk (cn := "Forest") (s := dp_Forest_init)
   (cf := 0) (s_cons (s_varS 4) (s_nil))) (s_fn (s := dp_law_written) (cf := 0) (s_cons (s_varS 4) (s_nil)))) (s_seq (s_asg 7 (s_fn (s := dp_Forest_parse) (cf := 0)
   (s_cons (s_varS 6) (s_nil)))) (s_seq (s_if (s_or (s_test (SE.t (s_op o_ne (SE.t (s_pr (s := dp_Forest_text) (cf := 0) c_Forest (s_varS 5))) (s_var 6)))) (s_or (s_test
   (SE.t (s_neM (s := dp_Forest_eq) c_Forest (s_varS 7) (s_varS 5)))) (s_or (s_test (SE.t (s_op o_ne (SE.t (s_pr (s := dp_Forest_names) (cf := 0) c_Forest (s_varS 7)))
   (SE.t (s_pr (s := dp_Forest_names) (cf := 0) c_Forest (s_varS 5)))))) (s_test (SE.t (s_op o_ne (SE.t (s_pr (s := dp_Forest_text) (cf := 0) c_Forest (s_varS 7))) (s_var
   6))))))) (s_ret (s_c fun _ => .bl _)) (s_next)) (s_seq (s_if (s_test (SE.t (s_op o_ne (SE.t (s_pr (s := dp_Forest_text) (cf := 0) c_Forest (s_fnK (s :=
   dp_Forest_parse) (cf := 0) (s_cons (s_pr (s := dp_Forest_text) (cf := 0) c_Forest (s_varS 5)) (s_nil))))) (s_var 6)))) (s_ret (s_c fun _ => .bl _)) (s_next)) (s_seq
   (s_asg 8 (SF.e (s_cbF k_dict (s_consT (s_var 4) (s_nilT))))) (s_seq (s_for (s_iter (s_pr (s := dp_Forest_names) (cf := 0) c_Forest (s_varS 7))) (s_name 9) (s_if
   (s_test (SE.t (s_op o_ne (SE.t (s_sl (SF.t (s_mtF (s := dp_Forest_ancestors) (cf := 0) c_Forest (s_varS 7) (s_cons (s_varS 9) (s_nil)))) (s_part (SE.t (s_c fun _ =>
   .int _))) (s_part (SE.t (s_c fun _ => .int _))))) (SE.t (s_if' (s_test (SE.t (s_op o_is (SE.t (s_op o_ix (s_var 8) (s_var 9))) (SE.t (s_c fun _ => .non))))) (SF.e
   (s_lst (s_nil))) (SF.e (s_lst (s_cons (s_op o_ix (s_var 8) (s_var 9)) (s_nil))))))))) (s_ret (s_c fun _ => .bl _)) (s_next))) (s_app 2 (s_tup (s_cons (s_varS 6)
   (s_cons (s_varS 4) (s_nil))))))))))))) (s_seq (s_frz 2 (s_for (s_iter (s_varS 2)) (s_tup2 10 4) (s_if (s_test (SE.t (s_op o_ne (SF.t (s_lc (s_iterT (s_var 2)) (s_name
   11) (s_test (SE.t (s_op o_ne (SE.t (s_op o_eq (SE.t (s_op o_ix (s_var 11) (SE.t (s_c fun _ => .int _)))) (s_var 10))) (SE.t (s_op o_eq (SE.t (s_op o_ix (s_var 11)
   (SE.t (s_c fun _ => .int _)))) (s_var 4)))))) (s_varS 11))) (SF.t (s_lst (s_nil)))))) (s_ret (s_c fun _ => .bl _)) (s_next)))) (s_ret (s_c fun _ => .bl _))))
def r_law_rest_b1 : RQ := rIfS (rTest (rOp fNe (rSl (rMt "Forest" "ancestors" R_Forest_ancestors (rVarS 7) (rCons (rVarS 9) (rNil))) (rPart (rC (.int 1))) (rPart (rC (.int 2)))) (rIf (rTest (rOp
   fIs (rOp fIx (rVar 8) (rVar 9)) (rC .non))) (rLst (rNil)) (rLst (rCons (rOp fIx (rVar 8) (rVar 9)) (rNil)))))) (rRet (rC (.bl false))) (rNext)
def r_law_rest_b3 : RQ := rIfS (rTest (rOp fNe (rLc (rIter (rVar 2)) (rName 11) (rTest (rOp fNe (rOp fEq (rOp fIx (rVar 11) (rC (.int 0))) (rVar 10)) (rOp fEq (rOp fIx (rVar 11) (rC (.int 1)))
   (rVar 4)))) (rVarS 11) [11]) (rLst (rNil)))) (rRet (rC (.bl false))) (rNext)
def r_law_rest_b2_s3 : RQ := rIfS (rOr (rTest (rOp fNe (rPr "Forest" R_Forest_text (rVarS 5)) (rVar 6))) (rOr (rTest (rNeMr "Forest" R_Forest_eq (rVarS 7) (rVarS 5))) (rOr (rTest (rOp fNe (rPr
   "Forest" R_Forest_names (rVarS 7)) (rPr "Forest" R_Forest_names (rVarS 5)))) (rTest (rOp fNe (rPr "Forest" R_Forest_text (rVarS 7)) (rVar 6)))))) (rRet (rC (.bl
   false))) (rNext)
theorem ag_law_rest_b2_s3 : AgQ false (dIfS (dOr (dTest (dOp fNe (dPr "Forest" dp_Forest_text (dVarS 5)) (dVar 6))) (dOr (dTest (dNeM "Forest" dp_Forest_eq (dVarS 7) (dVarS 5))) (dOr (dTest (dOp fNe (dPr
   "Forest" dp_Forest_names (dVarS 7)) (dPr "Forest" dp_Forest_names (dVarS 5)))) (dTest (dOp fNe (dPr "Forest" dp_Forest_text (dVarS 7)) (dVar 6)))))) (dRet (dC (.bl
   false))) (dNext)) r_law_rest_b2_s3 := by
  unfold r_law_rest_b2_s3
  try unfold d_law_rest_b3
  try unfold r_law_rest_b3
  try unfold d_law_rest_b1
  try unfold r_law_rest_b1
  exact a_ifS (a_or (a_test (a_op (a_pr ag_Forest_text (a_varS 5)) (a_var 6))) (a_or (a_test (a_neM ag_Forest_eq (a_varS 7) (a_varS 5))) (a_or (a_test (a_op (a_pr ag_Forest_names
   (a_varS 7)) (a_pr ag_Forest_names (a_varS 5)))) (a_test (a_op (a_pr ag_Forest_text (a_varS 7)) (a_var 6)))))) (a_ret (a_c _)) (a_next)
def r_law_rest_b2_s7 : RQ := rApp 2 (rTup (rCons (rVarS 6) (rCons (rVarS 4) (rNil))))
def r_law_rest_b2_t7 : RQ := r_law_rest_b2_s7
theorem ag_law_rest_b2_t7 : AgQ false d_law_rest_b2_t7 r_law_rest_b2_t7 := by
  unfold d_law_rest_b2_t7 r_law_rest_b2_t7 r_law_rest_b2_s7
  try unfold d_law_rest_b3
  try unfold r_law_rest_b3
  try unfold d_law_rest_b1
  try unfold r_law_rest_b1
  exact a_app (a_tup (a_cons (a_varS 6) (a_cons (a_varS 4) (a_nil))))
def r_law_rest_b2_s6 : RQ := rFor (rIter (rPr "Forest" R_Forest_names (rVarS 7))) (rName 9) (r_law_rest_b1)
def r_law_rest_b2_t6 : RQ := rSeq r_law_rest_b2_s6 r_law_rest_b2_t7
theorem ag_law_rest_b2_t6 : AgQ false d_law_rest_b2_t6 r_law_rest_b2_t6 := by
  unfold d_law_rest_b2_t6 r_law_rest_b2_t6 r_law_rest_b2_s6
  try unfold d_law_rest_b3
  try unfold r_law_rest_b3
  try unfold d_law_rest_b1
  try unfold r_law_rest_b1
  exact a_seq (a_for (a_iter (a_pr ag_Forest_names (a_varS 7))) (a_name 9) (a_ifS (a_test (a_op (a_sl (a_mt ag_Forest_ancestors (a_varS 7) (a_cons (a_varS 9) (a_nil))) (a_part
   (a_c _)) (a_part (a_c _))) (a_if (a_test (a_op (a_op (a_var 8) (a_var 9)) (a_c _))) (a_lst (a_nil)) (a_lst (a_cons (a_op (a_var 8) (a_var 9)) (a_nil)))))) (a_ret (a_c
   _)) (a_next))) ag_law_rest_b2_t7
def r_law_rest_b2_s5 : RQ := rAsg (rCB fDict (rCons (rVar 4) (rNil))) 8
def r_law_rest_b2_t5 : RQ := rSeq r_law_rest_b2_s5 r_law_rest_b2_t6
theorem ag_law_rest_b2_t5 : AgQ false d_law_rest_b2_t5 r_law_rest_b2_t5 := by
  unfold d_law_rest_b2_t5 r_law_rest_b2_t5 r_law_rest_b2_s5
  try unfold d_law_rest_b3
  try unfold r_law_rest_b3
  try unfold d_law_rest_b1
  try unfold r_law_rest_b1
  exact a_seq (a_asg (a_cb (a_cons (a_var 4) (a_nil)))) ag_law_rest_b2_t6
def r_law_rest_s0 : RQ := rAsgO (rLst (rNil)) 2
theorem ag_law_rest_s0 : AgQ false (dAsgO (dLst (dNil)) 2) r_law_rest_s0 := by
  unfold r_law_rest_s0
  try unfold d_law_rest_b3
  try unfold r_law_rest_b3
  try unfold d_law_rest_b1
  try unfold r_law_rest_b1
  exact a_asgO (a_lst (a_nil))
def r_law_rest_s3 : RQ := rRet (rC (.bl true))
def r_law_rest_t3 : RQ := r_law_rest_s3
theorem ag_law_rest_t3 : AgQ false d_law_rest_t3 r_law_rest_t3 := by
  unfold d_law_rest_t3 r_law_rest_t3 r_law_rest_s3
  try unfold d_law_rest_b3
  try unfold r_law_rest_b3
  try unfold d_law_rest_b1
  try unfold r_law_rest_b1
  exact a_ret (a_c _)
def r_law_rest_s2 : RQ := rFrz 2 (rFor (rIter (rVarS 2)) (rTup2 10 4) (r_law_rest_b3))
def r_law_rest_t2 : RQ := rSeq r_law_rest_s2 r_law_rest_t3
theorem ag_law_rest_t2 : AgQ false d_law_rest_t2 r_law_rest_t2 := by
  unfold d_law_rest_t2 r_law_rest_t2 r_law_rest_s2
  try unfold d_law_rest_b3
  try unfold r_law_rest_b3
  try unfold d_law_rest_b1
  try unfold r_law_rest_b1
  exact a_seq (a_frz (a_for (a_iter (a_varS 2)) (a_tup2 10 4) (a_ifS (a_test (a_op (a_lc (a_iter (a_var 2)) (a_name 11) (a_test (a_op (a_op (a_op (a_var 11) (a_c _)) (a_var 10))
   (a_op (a_op (a_var 11) (a_c _)) (a_var 4)))) (a_varS 11)) (a_lst (a_nil)))) (a_ret (a_c _)) (a_next)))) ag_law_rest_t3
end GP

set_option Elab.async false
set_option linter.all false
set_option maxRecDepth 100000
set_option maxHeartbeats 400000
namespace GP
open PySem PySem.Spec PyProof.Rows L2
/-! K03b: the text of a forest. -/
def low (s : Str) : Prop := ∀ c ∈ s.cps.toList, c < 128
theorem w_len {w : Str} : w.length = w.cps.toList.length := by
  show w.cps.size = _
  rw [Array.length_toList]
theorem low_ok {s : Str} (hs : low s) (hl : s.length ≤ LIM) : okStr s = true := by
  unfold okStr
  rw [decide_eq_true hl, Bool.true_and, ← Array.all_toList, List.all_eq_true]
  intro c hc
  have := hs c hc
  exact decide_eq_true (by omega)
theorem tl_app (a b : Str) : (a ++ b).cps.toList = a.cps.toList ++ b.cps.toList := TL.tl_append a b
theorem low_app {a b : Str} (ha : low a) (hb : low b) : low (a ++ b) := fun c hc => by
  rw [tl_app] at hc
  rcases List.mem_append.mp hc with hc | hc
  · exact ha c hc
  · exact hb c hc
theorem len_app (a b : Str) : (a ++ b).length = a.length + b.length := by
  rw [w_len, tl_app, List.length_append, ← w_len, ← w_len]
theorem add_s {a b : Str} (ha : low a) (hb : low b) (hl : a.length + b.length ≤ 2000) : fAdd (.str a) (.str b) = some (.str (a ++ b)) := by
  show (if okStr (a ++ b) = true then some (D.str (a ++ b)) else none) = _
  rw [if_pos (low_ok (low_app ha hb) (by rw [len_app]; exact Nat.le_trans hl (by decide)))]
theorem nl10 : TL.tl ("\n" : Str) = [10] := by decide +kernel
theorem sp32 : TL.tl (" " : Str) = [32] := by decide +kernel
theorem tAcc : TL.tl ("account " : Str) = TL.tl ("account" : Str) ++ [32] := by decide +kernel
theorem tIn : TL.tl (" in " : Str) = 32 :: (TL.tl ("in" : Str) ++ [32]) := by decide +kernel
theorem join_tl (y : Str) (parts : List Str) : TL.tl (Txt.join y parts) = TL.joinL (TL.tl y) (parts.map TL.tl) := by rw [TL.join_eq, TL.tl_join]
theorem lowC : low ("account " : Str) ∧ low ("account" : Str) ∧ low (" in " : Str) ∧ low ("in" : Str) ∧ low ("\n" : Str) ∧ low ("" : Str) := by
  unfold low
  decide +kernel
theorem nmLow {n : Str} (h : isNm n = true) : low n := fun c hc => by have := (isNm_iff.mp h).2.2 c hc; omega
theorem nmLen {n : Str} (h : isNm n = true) : n.length ≤ 8 := by rw [w_len]; exact (isNm_iff.mp h).2.1
theorem nmNo {n : Str} (h : isNm n = true) : 10 ∉ TL.tl n ∧ 32 ∉ TL.tl n := ⟨fun m => by have := (isNm_iff.mp h).2.2 10 m; omega, fun m => by have := (isNm_iff.mp h).2.2 32 m; omega⟩
/-- a row whose names are names -/
structure OkR (r : Row) : Prop where
  n : isNm r.1 = true
  p : ∀ q, r.2 = some q → isNm q = true
theorem okR {rows : List Row} (ok : OkF rows) {r : Row} (h : r ∈ rows) : OkR r := ⟨ok.nm r h, fun q hq => by
  obtain ⟨i, hi⟩ := List.mem_iff_getElem?.mp h
  obtain ⟨r2, h2, e⟩ := List.mem_map.mp (ok.pa i r q hi hq)
  rw [← e]
  exact ok.nm r2 (List.mem_of_mem_take h2)⟩
def wds (r : Row) : List Str := match r.2 with
  | none => ["account", r.1]
  | some p => ["account", r.1, "in", p]
def line (r : Row) : Str := Txt.join " " (wds r)
def wr (rows : List Row) : Str := Txt.join "\n" (rows.map line ++ [("" : Str)])
theorem wds_ne (r : Row) : wds r ≠ [] := by unfold wds; split <;> simp
theorem wds_no {r : Row} (h : OkR r) : ∀ p ∈ wds r, 10 ∉ TL.tl p ∧ 32 ∉ TL.tl p ∧ low p := by
  have a1 : 10 ∉ TL.tl ("account" : Str) ∧ 32 ∉ TL.tl ("account" : Str) := by decide +kernel
  have a2 : 10 ∉ TL.tl ("in" : Str) ∧ 32 ∉ TL.tl ("in" : Str) := by decide +kernel
  obtain ⟨n, q⟩ := r
  have hn := nmNo h.n
  have hl := nmLow h.n
  cases q with
  | none =>
    intro p hp
    rcases List.mem_cons.mp hp with rfl | hp
    · exact ⟨a1.1, a1.2, lowC.2.1⟩
    · rw [List.mem_singleton.mp hp]; exact ⟨hn.1, hn.2, hl⟩
  | some q =>
    have hq := nmNo (h.p q rfl)
    have hql := nmLow (h.p q rfl)
    intro p hp
    rcases List.mem_cons.mp hp with rfl | hp
    · exact ⟨a1.1, a1.2, lowC.2.1⟩
    · rcases List.mem_cons.mp hp with rfl | hp
      · exact ⟨hn.1, hn.2, hl⟩
      · rcases List.mem_cons.mp hp with rfl | hp
        · exact ⟨a2.1, a2.2, lowC.2.2.2.1⟩
        · rw [List.mem_singleton.mp hp]; exact ⟨hq.1, hq.2, hql⟩
theorem line_split {r : Row} (h : OkR r) : Txt.split (line r) " " = wds r := TL.split_join sp32 (by decide +kernel) (wds_ne r) fun p hp => (wds_no h p hp).2.1
def optL : Option Str → List Nat
  | none => []
  | some p => TL.tl (" in " : Str) ++ TL.tl p
theorem line_tl (r : Row) : TL.tl (line r) = TL.tl ("account " : Str) ++ (TL.tl r.1 ++ optL r.2) := by
  obtain ⟨n, q⟩ := r
  unfold line
  rw [join_tl, sp32, tAcc]
  cases q with
  | none =>
    show TL.tl ("account" : Str) ++ ([32] ++ TL.tl n) = _
    simp [optL]
  | some q =>
    show TL.tl ("account" : Str) ++ ([32] ++ (TL.tl n ++ ([32] ++ (TL.tl ("in" : Str) ++ ([32] ++ TL.tl q))))) = _
    simp only [optL, tIn]
    simp
theorem optL_low {r : Row} (h : OkR r) : (∀ c ∈ optL r.2, c < 128 ∧ c ≠ 10) ∧ (optL r.2).length ≤ 12 := by
  have a : ∀ c ∈ TL.tl (" in " : Str), c < 128 ∧ c ≠ 10 := by decide +kernel
  cases e : r.2 with
  | none => exact ⟨(fun c hc => by cases hc), Nat.zero_le _⟩
  | some q =>
    have hq := h.p q e
    refine ⟨fun c hc => ?_, ?_⟩
    · rcases List.mem_append.mp hc with hc | hc
      · exact a c hc
      · exact ⟨nmLow hq c hc, fun z => (nmNo hq).1 (z ▸ hc)⟩
    · have := nmLen hq
      rw [w_len] at this
      have b : (TL.tl (" in " : Str)).length = 4 := by decide +kernel
      show (TL.tl (" in " : Str) ++ TL.tl q).length ≤ 12
      rw [List.length_append, b]
      show 4 + q.cps.toList.length ≤ 12
      omega
theorem line_low {r : Row} (h : OkR r) : (∀ c ∈ TL.tl (line r), c < 128 ∧ c ≠ 10) ∧ (TL.tl (line r)).length ≤ 28 := by
  have a : ∀ c ∈ TL.tl ("account " : Str), c < 128 ∧ c ≠ 10 := by decide +kernel
  have b : (TL.tl ("account " : Str)).length = 8 := by decide +kernel
  have o := optL_low h
  have hl := nmLen h.n
  rw [w_len] at hl
  rw [line_tl]
  refine ⟨fun c hc => ?_, ?_⟩
  · rcases List.mem_append.mp hc with hc | hc
    · exact a c hc
    · rcases List.mem_append.mp hc with hc | hc
      · exact ⟨nmLow h.n c hc, fun z => (nmNo h.n).1 (z ▸ hc)⟩
      · exact o.1 c hc
  · rw [List.length_append, List.length_append, b]
    have := o.2
    show 8 + (r.1.cps.toList.length + _) ≤ 28
    omega
def wrL (rows : List Row) : List Nat := rows.flatMap fun r => TL.tl (line r) ++ [10]
theorem wr_tl (rows : List Row) : TL.tl (wr rows) = wrL rows := by
  unfold wr
  rw [join_tl, nl10, List.map_append, List.map_map]
  unfold wrL
  induction rows with
  | nil => rfl
  | cons r rows ih =>
    rw [List.flatMap_cons, ← ih]
    cases rows with
    | nil =>
      show TL.tl (line r) ++ ([10] ++ TL.tl ("" : Str)) = (TL.tl (line r) ++ [10]) ++ TL.tl ("" : Str)
      rw [List.append_assoc]
    | cons r2 rows =>
      show TL.tl (line r) ++ ([10] ++ TL.joinL [10] _) = (TL.tl (line r) ++ [10]) ++ TL.joinL [10] _
      rw [List.append_assoc]
      rfl
section
variable {rows : List Row} (ok : ∀ r ∈ rows, OkR r)
include ok
theorem wr_split : Txt.split (wr rows) "\n" = rows.map line ++ [("" : Str)] := by
  refine TL.split_join nl10 (by decide +kernel) (by simp) fun p hp => ?_
  rcases List.mem_append.mp hp with hp | hp
  · obtain ⟨r, hr, rfl⟩ := List.mem_map.mp hp
    exact fun m => ((line_low (ok r hr)).1 10 m).2 rfl
  · rw [List.mem_singleton.mp hp]
    exact fun m => by cases m
theorem wrL_low : (∀ c ∈ wrL rows, c < 128) ∧ (wrL rows).length ≤ rows.length * 29 := by
  induction rows with
  | nil => exact ⟨(fun c hc => by cases hc), Nat.zero_le _⟩
  | cons r rows ih =>
    have i := ih fun x hx => ok x (List.mem_cons_of_mem _ hx)
    have l := line_low (ok r List.mem_cons_self)
    have e : wrL (r :: rows) = (TL.tl (line r) ++ [10]) ++ wrL rows := List.flatMap_cons
    rw [e]
    refine ⟨fun c hc => ?_, ?_⟩
    · rcases List.mem_append.mp hc with hc | hc
      · rcases List.mem_append.mp hc with hc | hc
        · exact (l.1 c hc).1
        · rw [List.mem_singleton.mp hc]; decide
      · exact i.1 c hc
    · simp only [List.length_append, List.length_cons, List.length_nil]
      have := l.2
      have := i.2
      omega
end
theorem wds_inj {r s : Row} (h : wds r = wds s) : r = s := by
  obtain ⟨n, q⟩ := r
  obtain ⟨m, p⟩ := s
  cases q <;> cases p <;> simp [wds] at h
  · rw [h]
  · rw [h.1, h.2]
theorem line_inj {r s : Row} (hr : OkR r) (hs : OkR s) (h : line r = line s) : r = s := by
  have := line_split hr
  rw [h, line_split hs] at this
  exact (wds_inj this).symm
theorem wr_inj {rows rows2 : List Row} (h1 : ∀ r ∈ rows, OkR r) (h2 : ∀ r ∈ rows2, OkR r) (h : wr rows = wr rows2) : rows = rows2 := by
  have e : rows2.map line = rows.map line := by
    have e := wr_split h1
    rw [h, wr_split h2] at e
    exact List.append_cancel_right e
  clear h
  induction rows generalizing rows2 with
  | nil => cases rows2 with
    | nil => rfl
    | cons _ _ => cases e
  | cons r rows ih => cases rows2 with
    | nil => cases e
    | cons s rows2 =>
      rw [List.map_cons, List.map_cons] at e
      injection e with e1 e2
      rw [line_inj (h1 r List.mem_cons_self) (h2 s List.mem_cons_self) e1.symm, ih (fun x hx => h1 x (List.mem_cons_of_mem _ hx)) (fun x hx => h2 x (List.mem_cons_of_mem _ hx)) e2]
/-! ### _law_written -/
theorem wr_body {s : Str} (hs : low s) (hl : s.length ≤ 1000) {r : Row} (h : OkR r) (x : Option Sl) : ∃ s2, r_law_written_b1 [x, some (.sh (.str s)), some (.sh (.str r.1)), some (.sh (optD r.2))] = some (.nx [x, some (.sh (.str s2)), some (.sh (.str r.1)), some (.sh (optD r.2))]) ∧ TL.tl s2 = TL.tl s ++ (TL.tl (line r) ++ [10]) := by
  have c8 : ("account " : Str).length = 8 := by decide +kernel
  have c4 : (" in " : Str).length = 4 := by decide +kernel
  have c1 : ("\n" : Str).length = 1 := by decide +kernel
  have c0 : ("" : Str).length = 0 := by decide +kernel
  have z0 : ("" : Str).cps = #[] := by decide +kernel
  have hn := nmLen h.n
  have e1 := add_s hs lowC.1 (by omega)
  have e2 := add_s (low_app hs lowC.1) (nmLow h.n) (by rw [len_app]; omega)
  obtain ⟨n, q⟩ := r
  cases q with
  | none =>
    have e3 := add_s (low_app (low_app hs lowC.1) (nmLow h.n)) lowC.2.2.2.2.2 (by rw [len_app, len_app]; omega)
    have e4 := add_s (low_app (low_app (low_app hs lowC.1) (nmLow h.n)) lowC.2.2.2.2.2) lowC.2.2.2.2.1 (by rw [len_app, len_app, len_app]; omega)
    refine ⟨_, by simp [r_law_written_b1, e1, e2, e3, e4, optD]; rfl, ?_⟩
    rw [line_tl]
    simp only [TL.tl_append, optL, nl10]
    simp [z0]
  | some q =>
    have hq := h.p q rfl
    have hql := nmLen hq
    have e0 := add_s lowC.2.2.1 (nmLow hq) (by omega)
    have e3 := add_s (low_app (low_app hs lowC.1) (nmLow h.n)) (low_app lowC.2.2.1 (nmLow hq)) (by rw [len_app, len_app, len_app]; omega)
    have e4 := add_s (low_app (low_app (low_app hs lowC.1) (nmLow h.n)) (low_app lowC.2.2.1 (nmLow hq))) lowC.2.2.2.2.1 (by rw [len_app, len_app, len_app, len_app]; omega)
    refine ⟨_, by simp [r_law_written_b1, e0, e1, e2, e3, e4, optD]; rfl, ?_⟩
    rw [line_tl]
    simp only [TL.tl_append, optL, nl10]
    simp
theorem wr_for (x : Option Sl) : ∀ (rows : List Row) (s : Str) (a2 a3 : Option Sl), (∀ r ∈ rows, OkR r) → low s → s.length + rows.length * 29 ≤ 1000 → ∃ s2 b2 b3, rForL (rTup2 2 3) r_law_written_b1 (rows.map rowD) [x, some (.sh (.str s)), a2, a3] = some (.nx [x, some (.sh (.str s2)), b2, b3]) ∧ TL.tl s2 = TL.tl s ++ wrL rows
  | [], s, a2, a3, _, _, _ => ⟨s, a2, a3, rfl, by simp [wrL]⟩
  | r :: rows, s, a2, a3, h, hs, hl => by
    rw [List.length_cons] at hl
    have hr := h r List.mem_cons_self
    obtain ⟨s1, e1, t1⟩ := wr_body hs (by omega) hr x
    have l := line_low hr
    have hs1 : low s1 := fun c hc => by
      have : c ∈ TL.tl s1 := hc
      rw [t1] at this
      rcases List.mem_append.mp this with hc | hc
      · exact hs c hc
      · rcases List.mem_append.mp hc with hc | hc
        · exact (l.1 c hc).1
        · rw [List.mem_singleton.mp hc]; decide
    have hl1 : s1.length ≤ s.length + 29 := by
      rw [TL.len_tl, t1, List.length_append, List.length_append, ← TL.len_tl]
      have := l.2
      simp only [List.length_singleton]
      omega
    obtain ⟨s2, b2, b3, e2, t2⟩ := wr_for x rows s1 (some (.sh (.str r.1))) (some (.sh (optD r.2))) (fun y hy => h y (List.mem_cons_of_mem _ hy)) hs1 (by omega)
    refine ⟨s2, b2, b3, ?_, ?_⟩
    · rw [List.map_cons, rForL]
      show ((some [x, some (.sh (.str s)), some (.sh (.str r.1)), some (.sh (optD r.2))]).bind fun δ' => (r_law_written_b1 δ').bind _) = _
      rw [Option.bind_some, e1, Option.bind_some]
      exact e2
    · rw [t2, t1]
      show _ = _ ++ wrL (r :: rows)
      have : wrL (r :: rows) = (TL.tl (line r) ++ [10]) ++ wrL rows := List.flatMap_cons
      rw [this]
      simp
theorem R_written {rows : List Row} (ok : OkF rows) : R_law_written [.lst (rows.map rowD)] = some (.str (wr rows)) := by
  have h8 := ok.le
  obtain ⟨s2, b2, b3, e, t⟩ := wr_for (some (.sh (.lst (rows.map rowD)))) rows "" none none (fun r hr => okR ok hr) lowC.2.2.2.2.2 (by
    have : ("" : Str).length = 0 := by decide +kernel
    omega)
  have hs : s2 = wr rows := TL.ext_tl (by rw [t, wr_tl]; rfl)
  subst hs
  generalize hX : rows.map rowD = X at e ⊢
  simp [R_law_written, runOf, r_law_written, e]
end GP

set_option Elab.async false
set_option linter.all false
set_option maxRecDepth 100000
set_option maxHeartbeats 400000
namespace GP
open PySem PySem.Spec PyProof.Rows L2
/-! K03c: Forest.text, row_of, Forest.parse. -/
theorem ag_nx {b : Bool} {A B : DQ} {R : RQ} (ag : AgQ b A R) {N : DN} {δ δ1 : DS} (hb : N.own = b) (h : R δ = some (.nx δ1)) (p : B N δ1) : dSeq A B N δ := ag { N with nx := B N } δ (.nx δ1) hb h p
theorem jn2 {n : Str} (h : OkR (n, none)) : okStr (Str.empty ++ ("account " : Str)) = true ∧ okStr (Str.empty ++ ("account " : Str) ++ n) = true ∧ Str.empty ++ ("account " : Str) ++ n = line (n, none) := by
  have e : Str.empty ++ ("account " : Str) ++ n = line (n, none) := TL.ext_tl (by
    rw [line_tl, TL.tl_append, TL.tl_append]
    show ([] ++ _) ++ _ = _
    simp [optL])
  refine ⟨by decide +kernel, ?_, e⟩
  rw [e]
  have l := line_low h
  exact low_ok (fun c hc => (l.1 c hc).1) (by rw [TL.len_tl]; exact Nat.le_trans l.2 (by decide))
theorem jn4 {n q : Str} (h : OkR (n, some q)) : okStr (Str.empty ++ ("account " : Str) ++ n) = true ∧ okStr (Str.empty ++ ("account " : Str) ++ n ++ (" in " : Str)) = true ∧ okStr (Str.empty ++ ("account " : Str) ++ n ++ (" in " : Str) ++ q) = true ∧ Str.empty ++ ("account " : Str) ++ n ++ (" in " : Str) ++ q = line (n, some q) := by
  have e : Str.empty ++ ("account " : Str) ++ n ++ (" in " : Str) ++ q = line (n, some q) := TL.ext_tl (by
    rw [line_tl, TL.tl_append, TL.tl_append, TL.tl_append, TL.tl_append]
    show (((([] ++ _) ++ _) ++ _) ++ _) = _
    simp [optL])
  have le : low Str.empty := fun c hc => by cases hc
  have e0 : Str.empty.length = 0 := rfl
  have c8 : ("account " : Str).length = 8 := by decide +kernel
  have c4 : (" in " : Str).length = 4 := by decide +kernel
  have hn := nmLen h.n
  have hn : n.length ≤ 8 := hn
  have l := line_low h
  refine ⟨low_ok (low_app (low_app le lowC.1) (nmLow h.n)) ?_, low_ok (low_app (low_app (low_app le lowC.1) (nmLow h.n)) lowC.2.2.1) ?_, ?_, e⟩
  · rw [len_app, len_app]; show _ ≤ 1000000; omega
  · rw [len_app, len_app, len_app]; show _ ≤ 1000000; omega
  · rw [e]
    exact low_ok (fun c hc => (l.1 c hc).1) (by rw [TL.len_tl]; exact Nat.le_trans l.2 (by decide))
section
variable {a : RE} {r : RA} {δ : DS}
@[simp] theorem x_items : rItems a δ = (a δ).bind fun d => match d with
  | .dct kvs => some (itsD kvs)
  | _ => none := rfl
@[simp] theorem x_fmt : rFmt a δ = (a δ).bind fun x => match x with
  | .str y => some (.str y)
  | _ => none := rfl
end
theorem its_par (rows : List Row) : itsD (parK rows) = rows.map rowD := by
  unfold itsD parK
  rw [List.map_map]
  rfl
theorem text_comp {rows : List Row} (ok : ∀ r ∈ rows, OkR r) (x : Option Sl) : compL (lcStep (rTup2 2 3) rYes (rIf (rTest (rOp fIs (rVar 3) (rC .non))) (rJn [rC (.str "account "), rFmt (rVar 2)]) (rJn [rC (.str "account "), rFmt (rVar 2), rC (.str " in "), rFmt (rVar 3)])) [x, none, none, none, none]) (rows.map rowD) = some (rows.map fun r => .str (line r)) := by
  refine compL_map fun r hr => ?_
  have h := ok r hr
  obtain ⟨n, q⟩ := r
  cases q with
  | none =>
    obtain ⟨j1, j2, j3⟩ := jn2 h
    have j5 : okStr (line (n, none)) = true := by rw [← j3]; exact j2
    simp [rowD, optD, rJn, rJs, j1, j2, j3, j5]
  | some q =>
    obtain ⟨j1, j2, j3, j4⟩ := jn4 h
    have j0 : okStr (Str.empty ++ ("account " : Str)) = true := by decide +kernel
    have j5 : okStr (line (n, some q)) = true := by rw [← j4]; exact j3
    simp [rowD, optD, rJn, rJs, j0, j1, j2, j3, j4, j5]
theorem nl_comp {rows : List Row} (ok : ∀ r ∈ rows, OkR r) (x y : Option Sl) : compL (lcStep (rName 4) rYes (rOp fAdd (rVar 4) (rC (.str "\n"))) [x, y, none, none, none]) (rows.map fun r => .str (line r)) = some (rows.map fun r => .str (line r ++ ("\n" : Str))) := by
  refine compL_map fun r hr => ?_
  have l := line_low (ok r hr)
  have c1 : ("\n" : Str).length = 1 := by decide +kernel
  have e := add_s (a := line r) (b := "\n") (fun c hc => (l.1 c hc).1) lowC.2.2.2.2.1 (by
    rw [TL.len_tl, c1]
    have := l.2
    omega)
  simp [e]
theorem sum_lines {rows : List Row} (ok : ∀ r ∈ rows, OkR r) : ((rows.map fun r => line r ++ ("\n" : Str)).map (·.length)).sum ≤ rows.length * 29 := by
  induction rows with
  | nil => exact Nat.zero_le _
  | cons r rows ih =>
    have l := line_low (ok r List.mem_cons_self)
    have c1 : ("\n" : Str).length = 1 := by decide +kernel
    have := ih fun x hx => ok x (List.mem_cons_of_mem _ hx)
    rw [List.map_cons, List.map_cons, List.sum_cons, List.length_cons, len_app, c1, TL.len_tl]
    have := l.2
    omega
theorem join_lines (rows : List Row) : Txt.join "" (rows.map fun r => line r ++ ("\n" : Str)) = wr rows := by
  refine TL.ext_tl ?_
  rw [wr_tl, join_tl]
  have z : TL.tl ("" : Str) = [] := by decide +kernel
  rw [z]
  unfold wrL
  induction rows with
  | nil => rfl
  | cons r rows ih =>
    rw [List.flatMap_cons, ← ih]
    have e : TL.tl (line r ++ ("\n" : Str)) = TL.tl (line r) ++ [10] := by rw [TL.tl_append, nl10]
    cases rows with
    | nil =>
      show TL.tl (line r ++ ("\n" : Str)) = _ ++ []
      rw [e, List.append_nil]
    | cons r2 rows =>
      show TL.tl (line r ++ ("\n" : Str)) ++ ([] ++ TL.joinL [] _) = _
      rw [e]
      rfl
theorem R_text {rows : List Row} (ok : OkF rows) : R_Forest_text [forD rows] = some (.str (wr rows)) := by
  have h := fun r hr => okR ok (r := r) hr
  have h8 := ok.le
  have e1 := text_comp h (some (.sh (forD rows)))
  have e2 := nl_comp h (some (.sh (forD rows))) (some (.sh (.lst (rows.map fun r => .str (line r)))))
  have e3 : fJoin "" (.lst (rows.map fun r => .str (line r ++ ("\n" : Str)))) = some (.str (wr rows)) := by
    have hs : strsD (rows.map fun r => D.str (line r ++ ("\n" : Str))) = some (rows.map fun r => line r ++ ("\n" : Str)) := by
      have := strsD_map (rows.map fun r => line r ++ ("\n" : Str))
      rw [List.map_map] at this
      exact this
    unfold fJoin
    dsimp only
    rw [hs]
    dsimp only
    rw [if_pos, join_lines]
    rw [Bool.and_eq_true, decide_eq_true_eq, join_lines]
    have c0 : ("" : Str).length = 0 := by decide +kernel
    have w := wrL_low h
    refine ⟨?_, low_ok (fun c hc => w.1 c (by rw [← wr_tl]; exact hc)) ?_⟩
    · have := sum_lines h
      rw [c0, Nat.mul_zero]
      show _ ≤ 1000000
      omega
    · rw [TL.len_tl, wr_tl]
      show _ ≤ 1000000
      have := w.2
      omega
  have e0 := its_par rows
  have e4 := fld_for rows
  generalize (rows.map fun r => D.str (line r)) = A at e1 e2
  generalize (rows.map fun r => D.str (line r ++ ("\n" : Str))) = B at e2 e3
  generalize rows.map rowD = C at e0 e1
  simp [-x_lcStep, R_Forest_text, runOf, r_Forest_text, e4, e0, e1, e2, e3]
/-! ### row_of -/
def rowK (rows : List Row) : List (Key × D) := rows.map fun r => (.inr r.1, rowD r)
theorem valD_row (n : Str) : ∀ rows : List Row, valD (rowK rows) (.inr n) = (rows.find? fun r => decide (r.1 = n)).map rowD
  | [] => rfl
  | r :: rows => by
    have ih := valD_row n rows
    unfold valD rowK at ih ⊢
    rw [List.map_cons]
    by_cases h : r.1 = n
    · rw [List.find?_cons_of_pos (by simp [h]), List.find?_cons_of_pos (by simp [h])]
      rfl
    · rw [List.find?_cons_of_neg (by simp [h]), List.find?_cons_of_neg (by simp [h])]
      exact ih
theorem fIn_row (n : Str) (rows : List Row) : fIn (.str n) (.dct (rowK rows)) = some (.bl ((nms rows).contains n)) := by
  have h : inD (.str n) (.dct (rowK rows)) = some (valD (rowK rows) (.inr n)).isSome := rfl
  unfold fIn
  rw [h, ← isSome_par, valD_row, valD_par]
  cases rows.find? fun r => decide (r.1 = n) <;> rfl
theorem R_is_row_k (r : Row) (earlier : List Row) : R_is_row [rowD r, .dct (rowK earlier)] = some (.bl (okRow r earlier)) := by
  obtain ⟨n, q⟩ := r
  unfold okRow
  cases h1 : isNm n
  · simp [R_is_row, runOf, r_is_row, rowD, R_is_name_str, h1]
  · by_cases h2 : n ∈ nms earlier
    · simp [R_is_row, runOf, r_is_row, rowD, R_is_name_str, h1, fIn_row, h2]
    · cases q with
      | none => simp [R_is_row, runOf, r_is_row, rowD, R_is_name_str, h1, fIn_row, h2, optD]
      | some q => simp [R_is_row, runOf, r_is_row, rowD, R_is_name_str, h1, fIn_row, h2, optD]
theorem R_row {r : Row} (h : OkR r) {earlier : List Row} (ho : okRow r earlier = true) : R_row_of [.str (line r), .dct (rowK earlier)] = some (rowD r) := by
  have hr := R_is_row_k r earlier
  rw [ho] at hr
  have hs : fSplit (line r) (.str " ") = some (.lst ((wds r).map .str)) := by
    show (if (((" " : Str).length != 0) && (Txt.split (line r) " ").all okStr && decide ((Txt.split (line r) " ").length ≤ LIM)) = true then some (D.lst ((Txt.split (line r) " ").map .str)) else none) = _
    rw [line_split h, if_pos]
    rw [Bool.and_eq_true, Bool.and_eq_true, decide_eq_true_eq, List.all_eq_true]
    have hl : (wds r).length ≤ 4 := by unfold wds; split <;> simp
    refine ⟨⟨by decide, fun p hp => low_ok (wds_no h p hp).2.2 ?_⟩, Nat.le_trans hl (by decide)⟩
    have hn := nmLen h.n
    have c7 : ("account" : Str).length = 7 := by decide +kernel
    have c2 : ("in" : Str).length = 2 := by decide +kernel
    show _ ≤ 1000000
    obtain ⟨n, q⟩ := r
    cases q with
    | none =>
      simp only [wds, List.mem_cons, List.not_mem_nil, or_false] at hp
      have hn : n.length ≤ 8 := hn
      rcases hp with rfl | rfl
      · omega
      · omega
    | some q =>
      have hq := nmLen (h.p q rfl)
      have hn : n.length ≤ 8 := hn
      simp only [wds, List.mem_cons, List.not_mem_nil, or_false] at hp
      rcases hp with rfl | rfl | rfl | rfl <;> omega
  obtain ⟨n, q⟩ := r
  cases q with
  | none =>
    have i0 : fIx (.lst [.str "account", .str n]) (.int 0) = some (.str "account") := rfl
    have i1 : fIx (.lst [.str "account", .str n]) (.int 1) = some (.str n) := rfl
    have hr' : R_is_row [.tup [.str n, .non], .dct (rowK earlier)] = some (.bl true) := hr
    simp [R_row_of, runOf, r_row_of, hs, wds, i0, i1, hr', rowD, optD]
  | some q =>
    have i0 : fIx (.lst [.str "account", .str n, .str "in", .str q]) (.int 0) = some (.str "account") := rfl
    have i1 : fIx (.lst [.str "account", .str n, .str "in", .str q]) (.int 1) = some (.str n) := rfl
    have i2 : fIx (.lst [.str "account", .str n, .str "in", .str q]) (.int 2) = some (.str "in") := rfl
    have i3 : fIx (.lst [.str "account", .str n, .str "in", .str q]) (.int 3) = some (.str q) := rfl
    have hr' : R_is_row [.tup [.str n, .str q], .dct (rowK earlier)] = some (.bl true) := hr
    simp [R_row_of, runOf, r_row_of, hs, wds, i0, i1, i2, i3, hr', rowD, optD]
/-! ### Forest.parse -/
theorem cut_last (xs : List D) (x : D) : fSl none (some (-1)) (.lst (xs ++ [x])) = some (.lst xs) := by
  show some (D.lst (cutD (xs ++ [x]) none (some (-1)))) = _
  unfold cutD
  have h1 : HT.sIx (xs ++ [x]).length 0 none = 0 := rfl
  have h2 : HT.sIx (xs ++ [x]).length (xs ++ [x]).length (some (-1)) = xs.length := by
    have e : (xs ++ [x]).length = xs.length + 1 := by simp
    rw [e]
    unfold HT.sIx
    simp
    try omega
  rw [h1, h2]
  simp
theorem ns_rowK (rows : List Row) : nsD 6 (.dct (rowK rows)) = true := by
  show (rowK rows).all (fun kv => nsD 5 kv.2) = true
  rw [List.all_eq_true]
  intro kv hkv
  obtain ⟨r, _, rfl⟩ := List.mem_map.mp hkv
  obtain ⟨n, q⟩ := r
  cases q <;> rfl
theorem flat_row (r : Row) : flat2 (rowD r) = true := by
  obtain ⟨n, q⟩ := r
  cases q <;> rfl
theorem put_row (done : List Row) (r : Row) (h : r.1 ∉ nms done) : putD (rowK done) (.inr r.1) (rowD r) = rowK (done ++ [r]) := by
  unfold putD
  rw [if_neg]
  · unfold rowK
    rw [List.map_append]
    rfl
  · intro hh
    obtain ⟨kv, hkv, e⟩ := List.any_eq_true.mp hh
    obtain ⟨r2, h2, rfl⟩ := List.mem_map.mp hkv
    refine h (List.mem_map.mpr ⟨r2, h2, ?_⟩)
    have := of_decide_eq_true e
    injection this
def psS (t l : Option Sl) (done : List Row) (a b c : Option Sl) : DS := [t, l, some (.ow (.dct (rowK done))), a, b, c]
theorem okRow_nin {r : Row} {e : List Row} (h : okRow r e = true) : r.1 ∉ nms e := by
  unfold okRow at h
  simp only [Bool.and_eq_true, Bool.not_eq_true', List.contains_eq_mem, decide_eq_false_iff_not] at h
  exact h.1.2
theorem p_body {r : Row} (h : OkR r) {done : List Row} (ho : okRow r done = true) (hl : done.length ≤ 8) (t l a c : Option Sl) :
    r_Forest_parse_b1 (psS t l done a (some (.sh (.str (line r)))) c) = some (.nx (psS t l (done ++ [r]) a (some (.sh (.str (line r)))) (some (.sh (rowD r))))) := by
  have e1 := R_row h ho
  have e2 := ns_rowK done
  have e3 := flat_row r
  have e4 := put_row done r (okRow_nin ho)
  have e5 : (rowK done).length < LIM := by unfold rowK; rw [List.length_map]; show _ < 1000000; omega
  have e6 : fIs (rowD r) .non = some (.bl false) := rfl
  have e7 : fIx (rowD r) (.int 0) = some (.str r.1) := rfl
  have el : rLendE 2 [0, 1, 3, 5] (rFn R_row_of (rCons (rVarS 4) (rCons (rVarS 2) (rNil)))) (psS t l done a (some (.sh (.str (line r)))) c) = some (rowD r) := by
    unfold rLendE psS
    show (if okNs [none, none, some (.sh (.dct (rowK done))), none, some (.sh (.str (line r))), none] = true then (rFn R_row_of (rCons (rVarS 4) (rCons (rVarS 2) (rNil))) [none, none, some (.sh (.dct (rowK done))), none, some (.sh (.str (line r))), none]).bind _ else none) = _
    rw [if_pos (by
      show ([none, none, some (.sh (.dct (rowK done))), none, some (.sh (.str (line r))), none] : DS).all _ = true
      simp only [List.all_cons, List.all_nil, e2]
      rfl)]
    simp [e1, e3]
  have es : setD (.dct (rowK done)) (.str r.1) (rowD r) = some (.dct (rowK (done ++ [r]))) := by
    show (if (rowK done).length < LIM then some (D.dct (putD (rowK done) (.inr r.1) (rowD r))) else none) = _
    rw [if_pos e5, e4]
  generalize rowD r = R at *
  unfold r_Forest_parse_b1
  rw [x_seq, x_asg, el]
  simp [psS, e6, e7, rSetO, es]
theorem p_for (rows : List Row) (ok : OkF rows) (t l : Option Sl) : ∀ (todo done : List Row) (k : Nat) (a b c : Option Sl), rows = done ++ todo → ∃ a2 b2 c2, rForL (rTup2 3 4) r_Forest_parse_b1 ((List.range' k todo.length).zipWith (fun (i : Nat) x => D.tup [.int i, x]) (todo.map fun r => .str (line r))) (psS t l done a b c) = some (.nx (psS t l rows a2 b2 c2))
  | [], done, k, a, b, c, e => by
    rw [List.append_nil] at e
    subst e
    exact ⟨a, b, c, rfl⟩
  | r :: todo, done, k, a, b, c, e => by
    have hi : rows[done.length]? = some r := by rw [e, List.getElem?_append_right (Nat.le_refl _)]; simp
    have ho := okRow_of ok hi
    have ht : rows.take done.length = done := by rw [e, List.take_left']; rfl
    rw [ht] at ho
    have hr : OkR r := okR ok (by rw [e]; simp)
    have hl : done.length ≤ 8 := by
      have := ok.le
      rw [e, List.length_append] at this
      omega
    obtain ⟨a2, b2, c2, e2⟩ := p_for rows ok t l todo (done ++ [r]) (k + 1) (some (.sh (.int k))) (some (.sh (.str (line r)))) (some (.sh (rowD r))) (by rw [e]; simp)
    refine ⟨a2, b2, c2, ?_⟩
    rw [List.length_cons, List.range'_succ, List.map_cons, List.zipWith_cons_cons, rForL]
    show ((some (psS t l done (some (.sh (.int k))) (some (.sh (.str (line r)))) c)).bind fun δ' => (r_Forest_parse_b1 δ').bind _) = _
    rw [Option.bind_some, p_body hr ho hl, Option.bind_some]
    exact e2
theorem p_parse {rows : List Row} (ok : OkF rows) {P : D → Prop} (p : P (forD rows)) : dp_Forest_parse [.str (wr rows)] P := by
  have h := fun r hr => okR ok (r := r) hr
  have h8 := ok.le
  have w := wrL_low h
  have hs : fSplit (wr rows) (.str "\n") = some (.lst ((rows.map fun r => D.str (line r)) ++ [.str ""])) := by
    show (if ((("\n" : Str).length != 0) && (Txt.split (wr rows) "\n").all okStr && decide ((Txt.split (wr rows) "\n").length ≤ LIM)) = true then some (D.lst ((Txt.split (wr rows) "\n").map .str)) else none) = _
    rw [wr_split h, if_pos]
    · rw [List.map_append, List.map_map]; rfl
    · rw [Bool.and_eq_true, Bool.and_eq_true, decide_eq_true_eq, List.all_eq_true]
      refine ⟨⟨by decide, fun q hq => ?_⟩, ?_⟩
      · rcases List.mem_append.mp hq with hq | hq
        · obtain ⟨r, hr, rfl⟩ := List.mem_map.mp hq
          have l := line_low (h r hr)
          exact low_ok (fun c hc => (l.1 c hc).1) (by rw [TL.len_tl]; exact Nat.le_trans l.2 (by decide))
        · rw [List.mem_singleton.mp hq]; decide +kernel
      · rw [List.length_append, List.length_map]
        show _ + 1 ≤ 1000000
        omega
  have hng : fNeg (.int 1) = some (.int (-1)) := rfl
  have hlast : ∀ xs : List D, fIx (.lst (xs ++ [.str ""])) (.int (-1)) = some (.str "") := fun xs => by
    show atI (xs ++ [D.str ""]) (-1) = _
    unfold atI ixN
    simp
    rw [if_pos (by omega), Option.bind_some, show (-1 + ((xs.length : Int) + 1)).toNat = xs.length by omega]
    simp
  have hcut : ∀ xs : List D, fSl none (some (-1)) (.lst (xs ++ [.str ""])) = some (.lst xs) := fun xs => by
    have := cut_last xs (.str "")
    exact this
  unfold dp_Forest_parse dpOf d_Forest_parse
  rw [st_1]
  show dSeq _ d_Forest_parse_t1 _ [some (.sh (.str (wr rows))), none, none, none, none, none]
  refine ag_nx (δ1 := [some (.sh (.str (wr rows))), none, none, none, none, none]) ag_Forest_parse_s0 rfl (by unfold r_Forest_parse_s0; simp) ?_
  unfold d_Forest_parse_t1
  generalize hL : (rows.map fun r => D.str (line r)) = L at hs
  refine ag_nx (δ1 := psS (some (.sh (.str (wr rows)))) (some (.sh (.lst (L ++ [.str ""])))) [] none none none) ag_Forest_parse_s1 rfl (by
    unfold r_Forest_parse_s1
    simp [hs, psS, rowK]) ?_
  unfold d_Forest_parse_t2
  obtain ⟨a2, b2, c2, e2⟩ := p_for rows ok (some (.sh (.str (wr rows)))) (some (.sh (.lst (L ++ [.str ""])))) rows [] 0 none none none rfl
  rw [hL] at e2
  refine ag_nx (δ1 := psS (some (.sh (.str (wr rows)))) (some (.sh (.lst (L ++ [.str ""])))) rows a2 b2 c2) ag_Forest_parse_s2 rfl (by
    unfold r_Forest_parse_s2
    have hen : enumD [.lst L] = some ((List.range' 0 rows.length).zipWith (fun (i : Nat) x => D.tup [.int i, x]) L) := by
      show some ((List.range L.length).zipWith (fun (i : Nat) x => D.tup [.int i, x]) L) = _
      rw [← hL, List.length_map, List.range_eq_range']
    generalize ((List.range' 0 rows.length).zipWith (fun (i : Nat) x => D.tup [.int i, x]) L) = Z at e2 hen
    rw [x_for, x_enum]
    have e3 : rIf (rTest (rOp fEq (rOp fIx (rVar 1) (rUn fNeg (rC (.int 1)))) (rC (.str "")))) (rSl (rVar 1) (rNoPart) (rPart (rUn fNeg (rC (.int 1))))) (rVarS 1) (psS (some (.sh (.str (wr rows)))) (some (.sh (.lst (L ++ [.str ""])))) [] none none none) = some (.lst L) := by
      simp [psS, hng, hlast, hcut]
    rw [x_cons, e3]
    simp only [Option.bind_some, x_nil, Option.map_some, hen]
    exact e2) ?_
  unfold d_Forest_parse_t3
  refine ag_nx (δ1 := psS (some (.sh (.str (wr rows)))) (some (.sh (.lst (L ++ [.str ""])))) rows a2 b2 c2) ag_Forest_parse_s3 rfl (by
    unfold r_Forest_parse_s3
    simp [psS, hng, hlast]) ?_
  unfold d_Forest_parse_t4
  rw [y_ret]
  refine ⟨rfl, ?_⟩
  rw [y_fn, y_cons]
  show dp_Forest_init [.lst ((rowK rows).map (·.2))] P
  refine ⟨rows, .inl ?_, ok, p⟩
  unfold rowK
  rw [List.map_map]
  rfl
theorem R_eq (rows : List Row) (ok : OkF rows) : R_Forest_eq [forD rows, forD rows] = some (.bl true) := by
  have e1 : fEqD (.dct (parK rows)) (.dct (parK rows)) = some (.bl true) := by
    unfold fEqD
    rw [if_pos]
    show (decide ((parK rows).length = (parK rows).length) && (parK rows).all _) = true
    rw [decide_eq_true rfl, Bool.true_and, List.all_eq_true]
    intro kv hkv
    obtain ⟨r, hr, rfl⟩ := List.mem_map.mp hkv
    dsimp only
    have hf : (rows.find? fun s => decide (s.1 = r.1)) = some r := by
      have nd := ok.nd
      clear hkv ok
      induction rows with
      | nil => cases hr
      | cons s rows ih =>
        unfold nms at nd
        rw [List.map_cons, List.nodup_cons] at nd
        rcases List.mem_cons.mp hr with rfl | hr
        · rw [List.find?_cons_of_pos (by simp)]
        · rw [List.find?_cons_of_neg (by
            simp only [decide_eq_true_eq]
            intro z
            exact nd.1 (List.mem_map.mpr ⟨r, hr, z.symm⟩))]
          exact ih hr nd.2
    rw [valD_par, hf]
    show flatEq (optD r.2) (optD r.2) = true
    cases r.2 with
    | none => rfl
    | some q => show (q == q) = true; simp
  have e2 := fld_for rows
  have e3 : rIsF "Forest" (rVarS 1) [some (.sh (forD rows)), some (.sh (forD rows))] = some (.bl true) := rfl
  have e4 : R_Forest_eq [forD rows, forD rows] = (r_Forest_eq [some (.sh (forD rows)), some (.sh (forD rows))]).bind outD := rfl
  rw [e4]
  unfold r_Forest_eq
  rw [x_ret, x_andV, e3]
  simp [e1, e2]
end GP

set_option Elab.async false
set_option linter.all false
set_option maxRecDepth 100000
set_option maxHeartbeats 400000
namespace GP
open PySem PySem.Spec PyProof.Rows L2
/-! K03d: the laps of k03. -/
theorem deqL_refl {f : D → D → Bool} : ∀ {xs : List D}, (∀ x ∈ xs, f x x = true) → deqL f xs xs = true
  | [], _ => rfl
  | x :: xs, h => by
    show (f x x && deqL f xs xs) = true
    rw [h x List.mem_cons_self, deqL_refl fun y hy => h y (List.mem_cons_of_mem _ hy)]
    rfl
theorem deq_s (n : Nat) (a b : Str) : deq n (.str a) (.str b) = decide (a = b) := by cases n <;> rfl
theorem deq_opt (n : Nat) (a b : Option Str) : deq n (optD a) (optD b) = decide (a = b) := by
  cases a <;> cases b <;> cases n <;> first | rfl | (show decide _ = _; simp)
theorem deq_row (n : Nat) (r s : Row) : deq (n + 1) (rowD r) (rowD s) = decide (r = s) := by
  show (deq n (.str r.1) (.str s.1) && (deq n (optD r.2) (optD s.2) && true)) = _
  rw [deq_opt, deq_s, Bool.and_true, ← Bool.decide_and]
  congr 1
  rw [Prod.ext_iff]
theorem deq_rows (n : Nat) : ∀ rows rows2 : List Row, deqL (deq (n + 1)) (rows.map rowD) (rows2.map rowD) = decide (rows = rows2)
  | [], [] => rfl
  | [], _ :: _ => rfl
  | _ :: _, [] => rfl
  | r :: rows, s :: rows2 => by
    show (deq (n + 1) (rowD r) (rowD s) && deqL (deq (n + 1)) (rows.map rowD) (rows2.map rowD)) = _
    rw [deq_row, deq_rows n rows rows2, ← Bool.decide_and]
    congr 1
    rw [List.cons.injEq]
theorem pl_rows (rows : List Row) : plD DEP (.lst (rows.map rowD)) = true := plD_lst fun x hx => by
  obtain ⟨r, _, rfl⟩ := List.mem_map.mp hx
  obtain ⟨n, q⟩ := r
  cases q <;> rfl
theorem eq_rows (rows rows2 : List Row) : fEq (.lst (rows.map rowD)) (.lst (rows2.map rowD)) = some (.bl (decide (rows = rows2))) := by
  show (if plD DEP (.lst (rows.map rowD)) && plD DEP (.lst (rows2.map rowD)) then some (D.bl (deqL (deq 11) (rows.map rowD) (rows2.map rowD))) else none) = _
  rw [pl_rows, pl_rows, deq_rows 10]
  rfl
theorem ne_strsT (l : List Str) : fNe (.tup (l.map .str)) (.tup (l.map .str)) = some (.bl false) := by
  have hp : plD DEP (.tup (l.map .str)) = true := plD_lst fun x hx => by obtain ⟨n, _, rfl⟩ := List.mem_map.mp hx; rfl
  show (if plD DEP (.tup (l.map .str)) && plD DEP (.tup (l.map .str)) then some (D.bl (!deqL (deq 11) (l.map .str) (l.map .str))) else none) = _
  rw [hp, deqL_refl fun x hx => by obtain ⟨n, _, rfl⟩ := List.mem_map.mp hx; rw [deq_s]; simp]
  rfl
theorem ne_strsL (l : List Str) : fNe (.lst (l.map .str)) (.lst (l.map .str)) = some (.bl false) := by
  have hp : plD DEP (.lst (l.map .str)) = true := plD_lst fun x hx => by obtain ⟨n, _, rfl⟩ := List.mem_map.mp hx; rfl
  show (if plD DEP (.lst (l.map .str)) && plD DEP (.lst (l.map .str)) then some (D.bl (!deqL (deq 11) (l.map .str) (l.map .str))) else none) = _
  rw [hp, deqL_refl fun x hx => by obtain ⟨n, _, rfl⟩ := List.mem_map.mp hx; rw [deq_s]; simp]
  rfl
def txD (rows : List Row) : D := .tup [.str (wr rows), .lst (rows.map rowD)]
def lw3 (T : List (List Row)) (a3 a4 a5 a6 a7 a8 a9 a10 a11 : Option Sl) : DS := [none, some (.sh .st), some (.ow (.lst (T.map txD))), a3, a4, a5, a6, a7, a8, a9, a10, a11]
theorem run_s3 {rows : List Row} (ok : OkF rows) (T : List (List Row)) (a3 a4 a8 a9 a10 a11 : Option Sl) : r_law_rest_b2_s3 (lw3 T a3 a4 (some (.sh (forD rows))) (some (.sh (.str (wr rows)))) (some (.sh (forD rows))) a8 a9 a10 a11) = some (.nx (lw3 T a3 a4 (some (.sh (forD rows))) (some (.sh (.str (wr rows)))) (some (.sh (forD rows))) a8 a9 a10 a11)) := by
  have e1 := R_text ok
  have e2 := R_names rows
  have e3 := ne_strsT (nms rows)
  have e4 := ins_for rows
  have e5 : rNeMr "Forest" R_Forest_eq (rVarS 7) (rVarS 5) (lw3 T a3 a4 (some (.sh (forD rows))) (some (.sh (.str (wr rows)))) (some (.sh (forD rows))) a8 a9 a10 a11) = some (.bl false) := by
    show (if "Forest" = "Forest" ∧ "Forest" = "Forest" then (R_Forest_eq [forD rows, forD rows]).bind _ else none) = _
    rw [if_pos ⟨rfl, rfl⟩, R_eq rows ok]
    rfl
  generalize T.map txD = TT at *
  unfold lw3 at e5 ⊢
  generalize forD rows = F at *
  simp [r_law_rest_b2_s3, e1, e2, e3, e4, e5]
theorem cut12 (a : D) (xs : List D) : fSl (some 1) (some 2) (.lst (a :: xs)) = some (.lst (xs.take 1)) := by
  show some (D.lst (cutD (a :: xs) (some 1) (some 2))) = _
  unfold cutD
  cases xs with
  | nil => rfl
  | cons b xs =>
    have h1 : HT.sIx (a :: b :: xs).length 0 (some 1) = 1 := by
      unfold HT.sIx
      simp
      try omega
    have h2 : HT.sIx (a :: b :: xs).length (a :: b :: xs).length (some 2) = 2 := by
      unfold HT.sIx
      simp
      try omega
    rw [h1, h2]
    rfl
theorem m_anc : ¬ (("ancestors" : Str) = "parents") := by decide +kernel
theorem run_b1 {rows : List Row} (ok : OkF rows) {n : Str} (hn : n ∈ nms rows) (T : List (List Row)) (a3 a4 a5 a6 a10 a11 : Option Sl) : r_law_rest_b1 (lw3 T a3 a4 a5 a6 (some (.sh (forD rows))) (some (.sh (.dct (parK rows)))) (some (.sh (.str n))) a10 a11) = some (.nx (lw3 T a3 a4 a5 a6 (some (.sh (forD rows))) (some (.sh (.dct (parK rows)))) (some (.sh (.str n))) a10 a11)) := by
  have e1 := R_ancestors ok hn
  have e2 := anc_eq ok hn
  have e3 : fIx (.dct (parK rows)) (.str n) = some (optD (par rows n)) := by
    show valD (parK rows) (.inr n) = _
    rw [valD_par]
    unfold par
    cases hf : rows.find? fun r => decide (r.1 = n) with
    | none => exact absurd hn (find_none.mp hf)
    | some r => rfl
  have e5 := met_for rows _ m_anc
  rw [e2, List.map_cons] at e1
  have e4 := cut12 (.str n) ((match par rows n with
    | none => []
    | some q => anc rows q).map .str)
  unfold lw3
  generalize forD rows = F at *
  generalize parK rows = K at *
  cases hp : par rows n with
  | none =>
    rw [hp] at e1 e3 e4
    have e6 : fNe (.lst []) (.lst []) = some (.bl false) := rfl
    simp only [List.map_nil, List.take_nil] at e1 e4
    simp [r_law_rest_b1, e1, e3, e4, e5, optD, e6]
  | some q =>
    rw [hp] at e1 e3 e4
    dsimp only at e1 e4
    obtain ⟨h3, _⟩ := par_in ok hn hp
    rw [anc_eq ok h3] at e1 e4
    rw [List.map_cons] at e1 e4
    have e6 := ne_strsL [q]
    simp only [List.map_cons, List.map_nil] at e6
    rw [List.take_succ_cons, List.take_zero] at e4
    simp [r_law_rest_b1, e1, e3, e4, e5, optD, e6]
theorem run_fb1 {rows : List Row} (ok : OkF rows) (T : List (List Row)) (a3 a4 a5 a6 a10 a11 : Option Sl) : ∀ (ns : List Str) (a9 : Option Sl), (∀ n ∈ ns, n ∈ nms rows) → ∃ b9, rForL (rName 9) r_law_rest_b1 (ns.map .str) (lw3 T a3 a4 a5 a6 (some (.sh (forD rows))) (some (.sh (.dct (parK rows)))) a9 a10 a11) = some (.nx (lw3 T a3 a4 a5 a6 (some (.sh (forD rows))) (some (.sh (.dct (parK rows)))) b9 a10 a11))
  | [], a9, _ => ⟨a9, rfl⟩
  | n :: ns, a9, h => by
    obtain ⟨b9, e⟩ := run_fb1 ok T a3 a4 a5 a6 a10 a11 ns (some (.sh (.str n))) fun m hm => h m (List.mem_cons_of_mem _ hm)
    refine ⟨b9, ?_⟩
    rw [List.map_cons, rForL]
    show ((some (lw3 T a3 a4 a5 a6 (some (.sh (forD rows))) (some (.sh (.dct (parK rows)))) (some (.sh (.str n))) a10 a11)).bind fun δ' => (r_law_rest_b1 δ').bind _) = _
    rw [Option.bind_some, run_b1 ok (h n List.mem_cons_self), Option.bind_some]
    exact e
theorem run_t5 {rows : List Row} (ok : OkF rows) (T : List (List Row)) (hT : T.length ≤ 8) (a3 a5 a8 a9 a10 a11 : Option Sl) : ∃ b8 b9, r_law_rest_b2_t5 (lw3 T a3 (some (.sh (.lst (rows.map rowD)))) a5 (some (.sh (.str (wr rows)))) (some (.sh (forD rows))) a8 a9 a10 a11) = some (.nx (lw3 (T ++ [rows]) a3 (some (.sh (.lst (rows.map rowD)))) a5 (some (.sh (.str (wr rows)))) (some (.sh (forD rows))) b8 b9 a10 a11)) := by
  obtain ⟨b9, e⟩ := run_fb1 ok T a3 (some (.sh (.lst (rows.map rowD)))) a5 (some (.sh (.str (wr rows)))) a10 a11 (nms rows) a9 fun n h => h
  refine ⟨some (.sh (.dct (parK rows))), b9, ?_⟩
  have e5 : r_law_rest_b2_s5 (lw3 T a3 (some (.sh (.lst (rows.map rowD)))) a5 (some (.sh (.str (wr rows)))) (some (.sh (forD rows))) a8 a9 a10 a11) = some (.nx (lw3 T a3 (some (.sh (.lst (rows.map rowD)))) a5 (some (.sh (.str (wr rows)))) (some (.sh (forD rows))) (some (.sh (.dct (parK rows)))) a9 a10 a11)) := by
    have hd := dict_rows ok
    unfold r_law_rest_b2_s5 lw3
    simp [hd]
  have e6 : r_law_rest_b2_s6 (lw3 T a3 (some (.sh (.lst (rows.map rowD)))) a5 (some (.sh (.str (wr rows)))) (some (.sh (forD rows))) (some (.sh (.dct (parK rows)))) a9 a10 a11) = some (.nx (lw3 T a3 (some (.sh (.lst (rows.map rowD)))) a5 (some (.sh (.str (wr rows)))) (some (.sh (forD rows))) (some (.sh (.dct (parK rows)))) b9 a10 a11)) := by
    have e2 := R_names rows
    have e4 := ins_for rows
    unfold r_law_rest_b2_s6
    have er : rPr "Forest" R_Forest_names (rVarS 7) (lw3 T a3 (some (.sh (.lst (rows.map rowD)))) a5 (some (.sh (.str (wr rows)))) (some (.sh (forD rows))) (some (.sh (.dct (parK rows)))) a9 a10 a11) = some (.tup ((nms rows).map .str)) := by
      unfold lw3
      simp [e2, e4]
    rw [x_for, x_iter, er]
    exact e
  have e7 : r_law_rest_b2_s7 (lw3 T a3 (some (.sh (.lst (rows.map rowD)))) a5 (some (.sh (.str (wr rows)))) (some (.sh (forD rows))) (some (.sh (.dct (parK rows)))) b9 a10 a11) = some (.nx (lw3 (T ++ [rows]) a3 (some (.sh (.lst (rows.map rowD)))) a5 (some (.sh (.str (wr rows)))) (some (.sh (forD rows))) (some (.sh (.dct (parK rows)))) b9 a10 a11)) := by
    have hl : T.length < LIM := by show _ < 1000000; omega
    unfold r_law_rest_b2_s7 lw3
    simp [rApp, hl, txD]
  exact seq_nx e5 (seq_nx e6 e7)
/-! ### the last loop -/
def lw3f (T : List (List Row)) (a3 a4 a5 a6 a7 a8 a9 a10 a11 : Option Sl) : DS := [none, some (.sh .st), some (.sh (.lst (T.map txD))), a3, a4, a5, a6, a7, a8, a9, a10, a11]
theorem run_b3 {T : List (List Row)} (hT : ∀ rows ∈ T, OkF rows) {rows : List Row} (hr : rows ∈ T) (a3 a5 a6 a7 a8 a9 a11 : Option Sl) : r_law_rest_b3 (lw3f T a3 (some (.sh (.lst (rows.map rowD)))) a5 a6 a7 a8 a9 (some (.sh (.str (wr rows)))) a11) = some (.nx (lw3f T a3 (some (.sh (.lst (rows.map rowD)))) a5 a6 a7 a8 a9 (some (.sh (.str (wr rows)))) a11)) := by
  have hc : compL (lcStep (rName 11) (rTest (rOp fNe (rOp fEq (rOp fIx (rVar 11) (rC (.int 0))) (rVar 10)) (rOp fEq (rOp fIx (rVar 11) (rC (.int 1))) (rVar 4)))) (rVarS 11) (lw3f T a3 (some (.sh (.lst (rows.map rowD)))) a5 a6 a7 a8 a9 (some (.sh (.str (wr rows)))) none)) (T.map txD) = some ((T.filter fun _ => false).map txD) := by
    refine compL_filter fun rows2 h2 => ?_
    have i0 : fIx (txD rows2) (.int 0) = some (.str (wr rows2)) := rfl
    have i1 : fIx (txD rows2) (.int 1) = some (.lst (rows2.map rowD)) := rfl
    have e1 := eq_rows rows2 rows
    have e2 : decide (wr rows2 = wr rows) = decide (rows2 = rows) := by
      by_cases h : rows2 = rows
      · rw [h]; simp
      · rw [decide_eq_false h, decide_eq_false]
        exact fun z => h (wr_inj (fun r hr => okR (hT rows2 h2) hr) (fun r h => okR (hT rows hr) h) z)
    have e3 : ∀ b : Bool, fNe (.bl b) (.bl b) = some (.bl false) := fun b => by cases b <;> rfl
    unfold lw3f
    simp [i0, i1, e1, e2, e3]
  have hz : (T.filter fun _ => false) = [] := by simp
  rw [hz, List.map_nil] at hc
  have e6 : fNe (.lst []) (.lst []) = some (.bl false) := rfl
  unfold lw3f at hc ⊢
  generalize T.map txD = TT at *
  simp [-x_lcStep, r_law_rest_b3, hc, e6]
theorem run_fb3 {T : List (List Row)} (hT : ∀ rows ∈ T, OkF rows) (a3 a5 a6 a7 a8 a9 a11 : Option Sl) : ∀ (U : List (List Row)) (a4 a10 : Option Sl), (∀ rows ∈ U, rows ∈ T) → ∃ b4 b10, rForL (rTup2 10 4) r_law_rest_b3 (U.map txD) (lw3f T a3 a4 a5 a6 a7 a8 a9 a10 a11) = some (.nx (lw3f T a3 b4 a5 a6 a7 a8 a9 b10 a11))
  | [], a4, a10, _ => ⟨a4, a10, rfl⟩
  | rows :: U, a4, a10, h => by
    obtain ⟨b4, b10, e⟩ := run_fb3 hT a3 a5 a6 a7 a8 a9 a11 U (some (.sh (.lst (rows.map rowD)))) (some (.sh (.str (wr rows)))) fun m hm => h m (List.mem_cons_of_mem _ hm)
    refine ⟨b4, b10, ?_⟩
    rw [List.map_cons, rForL]
    show ((some (lw3f T a3 (some (.sh (.lst (rows.map rowD)))) a5 a6 a7 a8 a9 (some (.sh (.str (wr rows)))) a11)).bind fun δ' => (r_law_rest_b3 δ').bind _) = _
    rw [Option.bind_some, run_b3 hT (h rows List.mem_cons_self), Option.bind_some]
    exact e
theorem run_t2 {T : List (List Row)} (hT : ∀ rows ∈ T, OkF rows) (a3 a4 a5 a6 a7 a8 a9 a10 a11 : Option Sl) : r_law_rest_t2 (lw3 T a3 a4 a5 a6 a7 a8 a9 a10 a11) = some (.rt (.bl true)) := by
  obtain ⟨b4, b10, e⟩ := run_fb3 hT a3 a5 a6 a7 a8 a9 a11 T a4 a10 fun n h => h
  unfold r_law_rest_t2
  have e2 : r_law_rest_s2 (lw3 T a3 a4 a5 a6 a7 a8 a9 a10 a11) = some (.nx (lw3f T a3 b4 a5 a6 a7 a8 a9 b10 a11)) := by
    unfold r_law_rest_s2
    rw [x_frz]
    show rFor _ _ _ (lw3f T a3 a4 a5 a6 a7 a8 a9 a10 a11) = _
    rw [x_for, x_iter]
    exact e
  exact seq_nx e2 rfl
end GP

set_option Elab.async false
set_option linter.all false
set_option maxRecDepth 100000
set_option maxHeartbeats 400000
namespace GP
open PySem PySem.Spec PyProof.Rows L2
/-! K03e: law k03. -/
theorem u_pr {s : DSp} {R : List D → Option D} (ag : AgF s R) {rows : List Row} {z : D} {a : DE} {δ : DS} {P : D → Prop} (h : R [forD rows] = some z) (ha : ∀ Q : D → Prop, Q (forD rows) → a δ Q) (p : P z) : dPr "Forest" s a δ P := by
  unfold dPr
  refine ha _ ?_
  show "Forest" = "Forest" ∧ s [forD rows] P
  exact ⟨rfl, ag _ z P h p⟩
theorem body3 (M : DN) (hM : M.own = false) (T : List (List Row)) (hl : T.length ≤ 8) (a3 a4 a5 a6 a7 a8 a9 a10 a11 : Option Sl) (h : ∀ rows, OkF rows → ∀ a4 a5 a6 a7 a8 a9, M.nx (lw3 (T ++ [rows]) a3 a4 a5 a6 a7 a8 a9 a10 a11)) :
    d_law_rest_b2 M (lw3 T a3 a4 a5 a6 a7 a8 a9 a10 a11) := by
  unfold d_law_rest_b2
  rw [y_seq, y_asg]
  simp -implicitDefEqProofs only [lw3, y_fn, y_fnK, y_cons, y_varS, y_var, sh_0s, sh_s, rd_0s, rd_0o, rd_s, y_c, y_nil, oP_some, List.set_cons_succ, List.set_cons_zero, x_mkF, x_mkT]
  refine u_forest (m := 8) (by decide) (by decide) fun rows ok hr8 => ?_
  unfold d_law_rest_b2_t1
  rw [y_seq, y_par]
  simp -implicitDefEqProofs only [y_fn, y_fnK, y_cons, y_varS, y_var, sh_0s, sh_s, rd_0s, rd_0o, rd_s, y_c, y_nil, oP_some, List.set_cons_succ, List.set_cons_zero, x_mkF, x_mkT]
  refine ⟨rows, .inl rfl, ok, ?_⟩
  refine u_fn ag_law_written (R_written ok) ?_
  unfold d_law_rest_b2_t2
  rw [y_seq, y_asg]
  simp -implicitDefEqProofs only [y_fn, y_fnK, y_cons, y_varS, y_var, sh_0s, sh_s, rd_0s, rd_0o, rd_s, y_c, y_nil, oP_some, List.set_cons_succ, List.set_cons_zero, x_mkF, x_mkT]
  refine p_parse ok ?_
  unfold d_law_rest_b2_t3
  refine ag_nx ag_law_rest_b2_s3 hM (run_s3 ok T a3 (some (.sh (.lst (rows.map rowD)))) a8 a9 a10 a11) ?_
  unfold d_law_rest_b2_t4
  rw [y_seq, y_ifS, y_test, y_op]
  have hx5 : shS (lw3 T a3 (some (.sh (.lst (rows.map rowD)))) (some (.sh (forD rows))) (some (.sh (.str (wr rows)))) (some (.sh (forD rows))) a8 a9 a10 a11) 5 = some (forD rows) := rfl
  have hx6 : rdS (lw3 T a3 (some (.sh (.lst (rows.map rowD)))) (some (.sh (forD rows))) (some (.sh (.str (wr rows)))) (some (.sh (forD rows))) a8 a9 a10 a11) 6 = some (.str (wr rows)) := rfl
  refine u_pr ag_Forest_text (R_text ok) (fun Q q => ?_) ?_
  · rw [y_fnK, y_cons]
    refine u_pr ag_Forest_text (R_text ok) (fun Q q => ?_) ?_
    · rw [y_varS, hx5]
      exact q
    · rw [y_nil]
      exact p_parse ok q
  · rw [y_var, hx6, oP_some, ne_ss, oP_some, bP_bl]
    rw [if_neg (by simp), y_next]
    obtain ⟨b8, b9, e⟩ := run_t5 ok T hl a3 (some (.sh (forD rows))) a8 a9 a10 a11
    exact ag_law_rest_b2_t5 M _ _ hM e (h rows ok _ _ _ _ _ _)
theorem dd_law_rest : d_law_rest { nx := fun _ => False, rt := fun x => x = .bl true } (none :: some (.sh .st) :: List.replicate (12 - 2) none) := by
  unfold d_law_rest
  refine ag_nx (δ1 := lw3 [] none none none none none none none none none) ag_law_rest_s0 rfl (by unfold r_law_rest_s0; rfl) ?_
  unfold d_law_rest_t1
  refine i_seq (i_forN (i_rng (i_cons (i_c (i_nil (i_r1 ⟨by decide, by decide, by decide, ?_⟩))))))
  refine for_inv (fun i δ => ∃ T a3 a4 a5 a6 a7 a8 a9 a10 a11, δ = lw3 T a3 a4 a5 a6 a7 a8 a9 a10 a11 ∧ T.length = i ∧ ∀ rows ∈ T, OkF rows) _ 0 _ ⟨[], _, _, _, _, _, _, _, _, _, rfl, rfl, fun r hr => by cases hr⟩ ?_ (name_mono 3) ?_
  · rintro j x δ hj ⟨T, a3, a4, a5, a6, a7, a8, a9, a10, a11, rfl, hl, hT⟩ M hr ho hnx hct hbk
    have hj4 : j < 4 := by
      have := (List.getElem?_eq_some_iff.mp hj).1
      simpa using this
    refine body3 M (by rw [ho]) T (by omega) (some (.sh x)) a4 a5 a6 a7 a8 a9 a10 a11 fun rows ok a4 a5 a6 a7 a8 a9 => hnx _ ⟨T ++ [rows], _, _, _, _, _, _, _, _, _, rfl, by rw [List.length_append, hl]; rfl, fun r hr => ?_⟩
    rcases List.mem_append.mp hr with hr | hr
    · exact hT r hr
    · rw [List.mem_singleton.mp hr]; exact ok
  · rintro δ ⟨T, a3, a4, a5, a6, a7, a8, a9, a10, a11, rfl, _, hT⟩
    exact ag_law_rest_t2 _ _ _ rfl (run_t2 hT a3 a4 a5 a6 a7 a8 a9 a10 a11) rfl
end GP

set_option Elab.async false
set_option linter.all false
set_option maxRecDepth 100000
set_option maxHeartbeats 4000000
namespace GP
open PySem PySem.Spec PyProof.Rows L2
def topS (i : Nat) : Stmt := PySem.Challenge.pw_hearpurse_k03_whole_texts_of_forests.main.body.getD i (.Pass ⟨0, 0, 0, 0⟩)
abbrev st_law_begun : Stmt := topS 16
abbrev N_law_begun : List Str := ["_law_script", "_law_great", "_law_cell"]
abbrev ps_law_begun : List Str := ["_law_script"]
theorem fs_law_begun : FnScope N_law_begun ps_law_begun (defScope st_law_begun) := ⟨rfl, rfl, rfl, by decide +kernel, rfl, by decide +kernel, by decide +kernel⟩
abbrev st_law_mixed : Stmt := topS 17
abbrev N_law_mixed : List Str := ["_law_state", "_law_found", "_law_prime", "_law_blend", "_law_cell"]
abbrev ps_law_mixed : List Str := ["_law_state"]
theorem fs_law_mixed : FnScope N_law_mixed ps_law_mixed (defScope st_law_mixed) := ⟨rfl, rfl, rfl, by decide +kernel, rfl, by decide +kernel, by decide +kernel⟩
abbrev st_law_take : Stmt := topS 18
abbrev N_law_take : List Str := ["_law_state", "_law_size", "_law_found"]
abbrev ps_law_take : List Str := ["_law_state", "_law_size"]
theorem fs_law_take : FnScope N_law_take ps_law_take (defScope st_law_take) := ⟨rfl, rfl, rfl, by decide +kernel, rfl, by decide +kernel, by decide +kernel⟩
abbrev st_law_pick : Stmt := topS 19
abbrev N_law_pick : List Str := ["_law_state", "_law_some"]
abbrev ps_law_pick : List Str := ["_law_state", "_law_some"]
theorem fs_law_pick : FnScope N_law_pick ps_law_pick (defScope st_law_pick) := ⟨rfl, rfl, rfl, by decide +kernel, rfl, by decide +kernel, by decide +kernel⟩
abbrev st_law_words : Stmt := topS 20
abbrev N_law_words : List Str := ["_law_state", "_law_size", "_law_own", "_law_letters", "_law_found", "_law_k", "_law_word", "_law_j", "_law_letter", "_law_other"]
abbrev ps_law_words : List Str := ["_law_state", "_law_size"]
theorem fs_law_words : FnScope N_law_words ps_law_words (defScope st_law_words) := ⟨rfl, rfl, rfl, by decide +kernel, rfl, by decide +kernel, by decide +kernel⟩
abbrev st_law_forest : Stmt := topS 21
abbrev N_law_forest : List Str := ["_law_state", "_law_most", "_law_rows", "_law_name", "_law_parents", "_law_row"]
abbrev ps_law_forest : List Str := ["_law_state", "_law_most"]
theorem fs_law_forest : FnScope N_law_forest ps_law_forest (defScope st_law_forest) := ⟨rfl, rfl, rfl, by decide +kernel, rfl, by decide +kernel, by decide +kernel⟩
abbrev st_is_list : Stmt := topS 10
abbrev N_is_list : List Str := ["value"]
abbrev ps_is_list : List Str := ["value"]
theorem fs_is_list : FnScope N_is_list ps_is_list (defScope st_is_list) := ⟨rfl, rfl, rfl, by decide +kernel, rfl, by decide +kernel, by decide +kernel⟩
abbrev st_is_name : Stmt := topS 9
abbrev N_is_name : List Str := ["value", "letter"]
abbrev ps_is_name : List Str := ["value"]
theorem fs_is_name : FnScope N_is_name ps_is_name (defScope st_is_name) := ⟨rfl, rfl, rfl, by decide +kernel, rfl, by decide +kernel, by decide +kernel⟩
abbrev st_is_row : Stmt := topS 12
abbrev N_is_row : List Str := ["value", "earlier", "name", "parent"]
abbrev ps_is_row : List Str := ["value", "earlier"]
theorem fs_is_row : FnScope N_is_row ps_is_row (defScope st_is_row) := ⟨rfl, rfl, rfl, by decide +kernel, rfl, by decide +kernel, by decide +kernel⟩
abbrev st_Forest_init : Stmt := inClass (topS 14) 1
abbrev N_Forest_init : List Str := ["self", "rows", "row", "name", "parent"]
abbrev ps_Forest_init : List Str := ["self", "rows"]
theorem fs_Forest_init : FnScope N_Forest_init ps_Forest_init (defScope st_Forest_init) := ⟨rfl, rfl, rfl, by decide +kernel, rfl, by decide +kernel, by decide +kernel⟩
abbrev st_law_written : Stmt := topS 22
abbrev N_law_written : List Str := ["_law_rows", "_law_found", "_law_name", "_law_parent"]
abbrev ps_law_written : List Str := ["_law_rows"]
theorem fs_law_written : FnScope N_law_written ps_law_written (defScope st_law_written) := ⟨rfl, rfl, rfl, by decide +kernel, rfl, by decide +kernel, by decide +kernel⟩
abbrev st_row_of : Stmt := topS 13
abbrev N_row_of : List Str := ["line", "earlier", "words", "found"]
abbrev ps_row_of : List Str := ["line", "earlier"]
theorem fs_row_of : FnScope N_row_of ps_row_of (defScope st_row_of) := ⟨rfl, rfl, rfl, by decide +kernel, rfl, by decide +kernel, by decide +kernel⟩
abbrev st_Forest_parse : Stmt := inClass (topS 14) 3
abbrev N_Forest_parse : List Str := ["text", "lines", "rows", "at", "line", "row"]
abbrev ps_Forest_parse : List Str := ["text"]
theorem fs_Forest_parse : FnScope N_Forest_parse ps_Forest_parse (defScope st_Forest_parse) := ⟨rfl, rfl, rfl, by decide +kernel, rfl, by decide +kernel, by decide +kernel⟩
abbrev st_Forest_text : Stmt := inClass (topS 14) 6
abbrev N_Forest_text : List Str := ["self", "lines", "name", "parent", "line"]
abbrev ps_Forest_text : List Str := ["self"]
theorem fs_Forest_text : FnScope N_Forest_text ps_Forest_text (defScope st_Forest_text) := ⟨rfl, rfl, rfl, by decide +kernel, rfl, by decide +kernel, by decide +kernel⟩
abbrev st_Forest_eq : Stmt := inClass (topS 14) 2
abbrev N_Forest_eq : List Str := ["self", "other"]
abbrev ps_Forest_eq : List Str := ["self", "other"]
theorem fs_Forest_eq : FnScope N_Forest_eq ps_Forest_eq (defScope st_Forest_eq) := ⟨rfl, rfl, rfl, by decide +kernel, rfl, by decide +kernel, by decide +kernel⟩
abbrev st_Forest_names : Stmt := inClass (topS 14) 4
abbrev N_Forest_names : List Str := ["self"]
abbrev ps_Forest_names : List Str := ["self"]
theorem fs_Forest_names : FnScope N_Forest_names ps_Forest_names (defScope st_Forest_names) := ⟨rfl, rfl, rfl, by decide +kernel, rfl, by decide +kernel, by decide +kernel⟩
abbrev st_Forest_need_account : Stmt := inClass (topS 14) 7
abbrev N_Forest_need_account : List Str := ["self", "name"]
abbrev ps_Forest_need_account : List Str := ["self", "name"]
theorem fs_Forest_need_account : FnScope N_Forest_need_account ps_Forest_need_account (defScope st_Forest_need_account) := ⟨rfl, rfl, rfl, by decide +kernel, rfl, by decide +kernel, by decide +kernel⟩
abbrev st_Forest_ancestors : Stmt := inClass (topS 14) 8
abbrev N_Forest_ancestors : List Str := ["self", "name", "found"]
abbrev ps_Forest_ancestors : List Str := ["self", "name"]
theorem fs_Forest_ancestors : FnScope N_Forest_ancestors ps_Forest_ancestors (defScope st_Forest_ancestors) := ⟨rfl, rfl, rfl, by decide +kernel, rfl, by decide +kernel, by decide +kernel⟩
abbrev st_law : Stmt := topS 23
abbrev N_law : List Str := ["_law_script", "_law_state", "_law_texts", "_law_turn", "_law_rows", "_law_forest_here", "_law_due", "_law_parsed", "_law_parents", "_law_name", "_law_page", "_law_pair"]
abbrev ps_law : List Str := ["_law_script"]
theorem fs_law : FnScope N_law ps_law (defScope st_law) := ⟨rfl, rfl, rfl, by decide +kernel, rfl, by decide +kernel, by decide +kernel⟩
def t_law (Γ : Cn) : TS := tSeq (tAsg (tFn (sp_law_begun Γ) E0 (tCons (tVar 0) (tNil))) (gName 1)) (t_law_rest Γ)
structure Blt (mg : Str → Option Value) : Prop where
  n_all : mg "all" = none
  n_dict : mg "dict" = none
  n_enumerate : mg "enumerate" = none
  n_isinstance : mg "isinstance" = none
  n_len : mg "len" = none
  n_list : mg "list" = none
  n_range : mg "range" = none
  n_str : mg "str" = none
  n_tuple : mg "tuple" = none
structure TxC (Γ : Cn) (mg : Str → Option Value) : Prop where
  m_LETTERS : ∃ u, mg "LETTERS" = some u ∧ RelV (Γ.con "LETTERS") u
  m_LONGEST : ∃ u, mg "LONGEST" = some u ∧ RelV (Γ.con "LONGEST") u
  m_Forest : ∃ u, mg "Forest" = some u ∧ RelV (Γ.con "Forest") u
section
variable {P : Program} {w : World} {Γ : Cn} {mg : Str → Option Value} {base : Heap}
theorem ok_law_begun (B : Blt mg) (T : TxC Γ mg) (C : Kc Γ)  {a : Addr} {fd : FuncData} (F : Fun Γ.K "_law_begun" "_law_begun" st_law_begun a fd) : FnG P w Γ.K mg base CX0 1 a fd ps_law_begun (sp_law_begun Γ) := by
  refine fnG (k := 0) (t := t_law_begun Γ) F fs_law_begun (fun _ _ _ _ h => h.1) (pure_begun) fun cdv A outer s H E hr => ?_
  have nd := fs_law_begun.nd
  exact pss_cons (ps_setLc (i := 1) (own := [("_law_cell", 2)]) rfl nd rfl rfl (sw_true rfl rfl rfl (by decide +kernel)) (pi_gen (pv 0)) (blkOk_by (sc := defScope st_law_begun)
   (own := [("_law_cell", 2)]) (N := N_law_begun) (by decide +kernel)) (fun _ _ _ _ _ => pg_name (i := 2) nd rfl (Or.inl rfl)) (fun _ _ _ _ _ => pts_one (pt_cmpR g_ge (pv
   2) (pe_op g_pow (pe_int) (pe_int)) (nomark _))) (fun _ _ _ _ _ => pe_op g_sub (pv 2) (pe_op g_pow (pe_int) (pe_int)))) (pss_one (ps_ret (pe_disp (pps_cons (pe_str) (pv
   1) (pps_cons (pe_str) (pe_callTy (g_list rfl) rfl B.n_list (by decide +kernel) (pa_cons (pv 0) (pa_nil))) (pps_cons (pe_str) (pe_int) (pps_cons (pe_str) (pe_int)
   (pps_nil))))) (by rfl) (by rfl) (fun z => by cases z) (by decide))))
theorem ok_law_mixed (B : Blt mg) (T : TxC Γ mg) (C : Kc Γ)  {a : Addr} {fd : FuncData} (F : Fun Γ.K "_law_mixed" "_law_mixed" st_law_mixed a fd) : FnG P w Γ.K mg base CX0 1 a fd ps_law_mixed (sp_law_mixed Γ) := by
  refine fnG (k := 0) (t := t_law_mixed Γ) F fs_law_mixed (fun _ _ _ _ h => h.1) (pure_mixed) fun cdv A outer s H E hr => ?_
  have nd := fs_law_mixed.nd
  exact pss_cons (ps_asg (pe_op g_add (pe_ix (g_ix hr.rm) (pv 0) (pe_str) (fun _ _ => rfl)) (pe_int)) (pg_sub (pv 0) (pe_str) (g_set hr.un))) (pss_cons (ps_set (i := 1) nd rfl
   (Or.inl rfl) (pe_int)) (pss_cons (ps_for PassesOwn.never rfl (pi_gen (pe_lst (pa_cons (pe_int) (pa_cons (pe_int) (pa_cons (pe_int) (pa_cons (pe_int) (pa_cons (pe_int)
   (pa_cons (pe_int) (pa_nil))))))))) (pg_name (i := 2) nd rfl (Or.inl rfl)) (pss_cons (ps_set (i := 3) nd rfl (Or.inl rfl) (pe_op g_add (pe_op g_mul (pe_int) (pe_ix
   (g_ix hr.rm) (pv 0) (pe_str) (fun _ _ => rfl))) (pe_op g_fdiv (pv 2) (pe_int)))) (pss_cons (ps_for PassesOwn.never rfl (pi_gen (pe_ix (g_ix hr.rm) (pv 0) (pe_str) (fun
   _ _ => rfl))) (pg_name (i := 4) nd rfl (Or.inl rfl)) (pss_one (ps_set (i := 3) nd rfl (Or.inl rfl) (pe_op g_mod (pe_op g_add (pe_op g_mul (pv 3) (pe_int)) (pv 4)) (pv
   2))))) (pss_one (ps_set (i := 1) nd rfl (Or.inl rfl) (pe_op g_add (pe_op g_mul (pv 1) (pe_int)) (pe_op g_mod (pe_op g_pow (pv 3) (pe_int)) (pv 2)))))))) (pss_one
   (ps_ret (pv 1)))))
theorem ok_law_take (B : Blt mg) (T : TxC Γ mg) (C : Kc Γ) (c_law_mixed : Cal P w Γ.K mg base CX0 "_law_mixed" 1 ps_law_mixed (sp_law_mixed Γ)) {a : Addr} {fd : FuncData} (F : Fun Γ.K "_law_take" "_law_take" st_law_take a fd) : FnG P w Γ.K mg base CX0 2 a fd ps_law_take (sp_law_take Γ) := by
  refine fnG (k := 1) (t := t_law_take Γ) F fs_law_take (fun _ _ _ _ h => h.1) (pure_take) fun cdv A outer s H E hr => ?_
  have nd := fs_law_take.nd
  exact pss_cons (ps_if (pt_cmpR (g_eq hr.rm) (pe_ix (g_ix hr.rm) (pv 0) (pe_str) (fun _ _ => rfl)) (pe_int) (nomark _)) (pss_one (ps_asg (pe_ifExp (pt_cmpR (g_ne hr.rm) (pe_ix
   (g_ix hr.rm) (pv 0) (pe_str) (fun _ _ => rfl)) (pe_lst (pa_nil)) (nomark _)) (pe_bm PySem.F.plainAttrs_list PySem.F.slot_list_pop PySem.F.type_list_pop mt_popAt (pe_ix
   (g_ix hr.rm) (pv 0) (pe_str) (fun _ _ => rfl)) (pa_cons (pe_int) (pa_nil))) (pe_fn c_law_mixed hr (by decide) rfl pass0 (pa_cons (pv 0) (pa_nil)))) (pg_sub (pv 0)
   (pe_str) (g_set hr.un)))) (pss_nil)) (pss_cons (ps_set (i := 2) nd rfl (Or.inl rfl) (pe_op g_mod (pe_ix (g_ix hr.rm) (pv 0) (pe_str) (fun _ _ => rfl)) (pv 1)))
   (pss_cons (ps_asg (pe_op g_fdiv (pe_ix (g_ix hr.rm) (pv 0) (pe_str) (fun _ _ => rfl)) (pv 1)) (pg_sub (pv 0) (pe_str) (g_set hr.un))) (pss_one (ps_ret (pv 2)))))
theorem ok_law_pick (B : Blt mg) (T : TxC Γ mg) (C : Kc Γ) (c_law_take : Cal P w Γ.K mg base CX0 "_law_take" 2 ps_law_take (sp_law_take Γ)) {a : Addr} {fd : FuncData} (F : Fun Γ.K "_law_pick" "_law_pick" st_law_pick a fd) : FnG P w Γ.K mg base CX0 3 a fd ps_law_pick (sp_law_pick Γ) := by
  refine fnG (k := 2) (t := t_law_pick Γ) F fs_law_pick (fun _ _ _ _ h => h.1) (pure_pick) fun cdv A outer s H E hr => ?_
  have nd := fs_law_pick.nd
  exact pss_one (ps_ret (pe_ix (g_ix hr.rm) (pv 1) (pe_fn c_law_take hr (by decide) rfl pass0 (pa_cons (pv 0) (pa_cons (pe_callB g_len rfl B.n_len (by decide +kernel) (pa_cons
   (pv 1) (pa_nil))) (pa_nil)))) (fun _ _ => rfl)))
theorem ok_law_words (B : Blt mg) (T : TxC Γ mg) (C : Kc Γ) (c_law_pick : Cal P w Γ.K mg base CX0 "_law_pick" 3 ps_law_pick (sp_law_pick Γ)) (c_law_take : Cal P w Γ.K mg base CX0 "_law_take" 2 ps_law_take (sp_law_take Γ)) {a : Addr} {fd : FuncData} (F : Fun Γ.K "_law_words" "_law_words" st_law_words a fd) : FnG P w Γ.K mg base CX0 4 a fd ps_law_words (sp_law_words Γ) := by
  refine fnG (k := 3) (t := t_law_words Γ) F fs_law_words (fun _ _ _ _ h => h.1) (pure_words N_law_words rfl) fun cdv A outer s H E hr => ?_
  have nd := fs_law_words.nd
  exact pss_cons (ps_set (i := 2) nd rfl (Or.inl rfl) (pe_splitG (pe_str) (pe_str))) (pss_cons (ps_asg (pe_tup (pa_cons (pe_str) (pa_cons (pe_lst (pa_nil)) (pa_nil)))) (pg_tup
   rfl (pgs_cons (pg_name (i := 3) nd rfl (Or.inr rfl)) (pgs_cons (pg_name (i := 4) nd rfl (Or.inr rfl)) (pgs_nil))))) (pss_cons (ps_for PassesOwn.never rfl (pi_range1
   rfl B.n_range (pa_cons (pv 1) (pa_nil))) (pg_name (i := 5) nd rfl (Or.inl rfl)) (pss_cons (ps_set (i := 6) nd rfl (Or.inr rfl) (pe_fn c_law_pick hr (by decide) rfl
   pass0 (pa_cons (pv 0) (pa_cons (pv 2) (pa_nil))))) (pss_cons (ps_if (pt_cmpR g_gt (pe_fn c_law_take hr (by decide) rfl pass0 (pa_cons (pv 0) (pa_cons (pe_int)
   (pa_nil)))) (pe_int) (nomark _)) (pss_one (ps_set (i := 6) nd rfl (Or.inr rfl) (pe_joinG (pe_str) (pe_lc (own := [("_law_j", 7)]) rfl nd (pi_range1 rfl B.n_range
   (pa_cons (pe_fn c_law_pick hr (by decide) rfl pass0 (pa_cons (pv 0) (pa_cons (pe_lst (pa_cons (pe_int) (pa_cons (pe_int) (pa_cons (pe_int) (pa_cons (pe_int)
   (pa_nil)))))) (pa_nil)))) (pa_nil))) (blkOk_by (sc := defScope st_law_words) (own := [("_law_j", 7)]) (N := N_law_words) (by decide +kernel)) (fun _ _ _ _ _ => pg_name
   (i := 7) nd rfl (Or.inl rfl)) (fun _ _ _ _ _ => pts_nil) (fun _ _ _ _ _ => pe_fn c_law_pick hr (by decide) rfl pass0 (pa_cons (pv 0) (pa_cons (pv 3) (pa_nil))))))))
   (pss_nil)) (pss_cons (ps_if (pt_cmpR (g_in hr.rm) (pv 6) (pv 4) rfl) (pss_one (ps_set (i := 6) nd rfl (Or.inr rfl) (pe_ix (g_ix hr.rm) (pe_lc (own := [("_law_other",
   9)]) rfl nd (pi_gen (pe_lc (own := [("_law_letter", 8)]) rfl nd (pi_gen (pv 3)) (blkOk_by (sc := defScope st_law_words) (own := [("_law_letter", 8)]) (N :=
   N_law_words) (by decide +kernel)) (fun _ _ _ _ _ => pg_name (i := 8) nd rfl (Or.inl rfl)) (fun _ _ _ _ _ => pts_nil) (fun _ _ _ _ _ => pe_op g_add (pe_op g_add
   (pe_slice g_sl (pv 6) (po_none) (po_some (pe_int))) (pe_str)) (pv 8)))) (blkOk_by (sc := defScope st_law_words) (own := [("_law_other", 9)]) (N := N_law_words)
   (by decide +kernel)) (fun _ _ _ _ _ => pg_name (i := 9) nd rfl (Or.inl rfl)) (fun _ _ _ _ _ => pts_one (pt_cmpR (g_notIn hr.rm) (pv 9) (pv 4) rfl)) (fun _ _ _ _ _ =>
   pv 9)) (pe_int) (fun _ _ => rfl)))) (pss_nil)) (pss_one (ps_expr (pe_bm PySem.F.plainAttrs_list PySem.F.slot_list_append PySem.F.type_list_append mt_append (pv 4)
   (pa_cons (pv 6) pa_nil)))))))) (pss_one (ps_ret (pv 4)))))
theorem ok_law_forest (B : Blt mg) (T : TxC Γ mg) (C : Kc Γ) (c_law_words : Cal P w Γ.K mg base CX0 "_law_words" 4 ps_law_words (sp_law_words Γ)) (c_law_take : Cal P w Γ.K mg base CX0 "_law_take" 2 ps_law_take (sp_law_take Γ)) (c_law_pick : Cal P w Γ.K mg base CX0 "_law_pick" 3 ps_law_pick (sp_law_pick Γ)) {a : Addr} {fd : FuncData} (F : Fun Γ.K "_law_forest" "_law_forest" st_law_forest a fd) : FnG P w Γ.K mg base CX0 5 a fd ps_law_forest (sp_law_forest Γ) := by
  refine fnG (k := 4) (t := t_law_forest Γ) F fs_law_forest (fun _ _ _ _ h => h.1) (pure_ofF (N := N_law_forest) (fun L => snd_law_forest) (by decide) fun _ _ _ h => h) fun cdv A outer s H E hr => ?_
  have nd := fs_law_forest.nd
  exact pss_cons (ps_set (i := 2) nd rfl (Or.inl rfl) (pe_lst (pa_nil))) (pss_cons (ps_for PassesOwn.never rfl (pi_gen (pe_fn c_law_words hr (by decide) rfl pass0 (pa_cons (pv 0)
   (pa_cons (pe_op g_add (pe_int) (pe_fn c_law_take hr (by decide) rfl pass0 (pa_cons (pv 0) (pa_cons (pv 1) (pa_nil))))) (pa_nil))))) (pg_name (i := 3) nd rfl (Or.inl
   rfl)) (pss_cons (ps_set (i := 4) nd rfl (Or.inl rfl) (pe_op g_add (pe_lst (pa_cons (pe_non) (pa_nil))) (pe_lc (own := [("_law_row", 5)]) rfl nd (pi_gen (pv 2))
   (blkOk_by (sc := defScope st_law_forest) (own := [("_law_row", 5)]) (N := N_law_forest) (by decide +kernel)) (fun _ _ _ _ _ => pg_name (i := 5) nd rfl (Or.inl rfl))
   (fun _ _ _ _ _ => pts_nil) (fun _ _ _ _ _ => pe_ix (g_ix hr.rm) (pv 5) (pe_int) (fun _ _ => rfl))))) (pss_one (ps_expr (pe_bm PySem.F.plainAttrs_list
   PySem.F.slot_list_append PySem.F.type_list_append mt_append (pv 2) (pa_cons (pe_tup (pa_cons (pv 3) (pa_cons (pe_fn c_law_pick hr (by decide) rfl pass0 (pa_cons (pv 0)
   (pa_cons (pv 4) (pa_nil)))) (pa_nil)))) pa_nil)))))) (pss_one (ps_ret (pv 2))))
theorem ok_is_list (B : Blt mg) (T : TxC Γ mg) (C : Kc Γ)  {a : Addr} {fd : FuncData} (F : Fun Γ.K "is_list" "is_list" st_is_list a fd) : FnG P w Γ.K mg base CX0 1 a fd ps_is_list (sp_is_list Γ) := by
  refine fnG (k := 0) (t := t_is_list Γ) F fs_is_list (fun _ _ _ _ h => h.1) (pure_of (N := N_is_list) (fun L => snd_is_list) (by decide) fun _ _ _ h => h) fun cdv A outer s H E hr => ?_
  have nd := fs_is_list.nd
  exact pss_one (ps_ret (pe_callB g_isi rfl B.n_isinstance (by decide +kernel) (pa_cons (pv 0) (pa_cons (pe_tup (pa_cons (pe_bltn rfl B.n_list (by decide +kernel) rfl) (pa_cons
   (pe_bltn rfl B.n_tuple (by decide +kernel) rfl) (pa_nil)))) (pa_nil)))))
theorem ok_is_name (B : Blt mg) (T : TxC Γ mg) (C : Kc Γ)  {a : Addr} {fd : FuncData} (F : Fun Γ.K "is_name" "is_name" st_is_name a fd) : FnG P w Γ.K mg base CX0 1 a fd ps_is_name (sp_is_name Γ) := by
  refine fnG (k := 0) (t := t_is_name Γ) F fs_is_name (fun _ _ _ _ h => h.1) (pure_of (N := N_is_name) (fun L => snd_is_name C.k_LONGEST C.k_LETTERS) (by decide) fun _ _ _ h => h) fun cdv A outer s H E hr => ?_
  have nd := fs_is_name.nd
  exact pss_one (ps_ret (L2.pe_and (pe_callB g_isi rfl B.n_isinstance (by decide +kernel) (pa_cons (pv 0) (pa_cons (pe_bltn rfl B.n_str (by decide +kernel) rfl) (pa_nil))))
   (L2.pe_and (pe_chain g_le g_le (pe_int) (pe_callB g_len rfl B.n_len (by decide +kernel) (pa_cons (pv 0) (pa_nil))) (pe_con rfl T.m_LONGEST)) (pe_one (pe_callB (cr_all
   rfl) rfl B.n_all (by decide +kernel) (pa_cons (pe_lc (own := [("letter", 1)]) rfl nd (pi_gen (pv 0)) (blkOk_by (sc := defScope st_is_name) (own := [("letter", 1)]) (N
   := N_is_name) (by decide +kernel)) (fun _ _ _ _ _ => pg_name (i := 1) nd rfl (Or.inl rfl)) (fun _ _ _ _ _ => pts_nil) (fun _ _ _ _ _ => pe_cmpR (g_in hr.rm) (pv 1)
   (pe_con rfl T.m_LETTERS) rfl)) (pa_nil)))))))
theorem ok_is_row (B : Blt mg) (T : TxC Γ mg) (C : Kc Γ) (c_is_name : Cal P w Γ.K mg base CX0 "is_name" 1 ps_is_name (sp_is_name Γ)) {a : Addr} {fd : FuncData} (F : Fun Γ.K "is_row" "is_row" st_is_row a fd) : FnG P w Γ.K mg base CX0 2 a fd ps_is_row (sp_is_row Γ) := by
  refine fnG (k := 1) (t := t_is_row Γ) F fs_is_row (fun _ _ _ _ h => h.1) (pure_of (N := N_is_row) (fun L => snd_is_row) (by decide) fun _ _ _ h => h) fun cdv A outer s H E hr => ?_
  have nd := fs_is_row.nd
  exact pss_cons (ps_if (PW.pt (pw_or (pt_not (pt_tru (pe_callB g_isi rfl B.n_isinstance (by decide +kernel) (pa_cons (pv 0) (pa_cons (pe_bltn rfl B.n_tuple (by decide +kernel)
   rfl) (pa_nil)))) (by intro _; rfl))) (pw_or1 (pt_cmpR (g_ne hr.rm) (pe_callB g_len rfl B.n_len (by decide +kernel) (pa_cons (pv 0) (pa_nil))) (pe_int) (nomark _)))))
   (pss_one (ps_ret (pe_bl))) (pss_nil)) (pss_cons (ps_asg (pv 0) (pg_tup rfl (pgs_cons (pg_name (i := 2) nd rfl (Or.inl rfl)) (pgs_cons (pg_name (i := 3) nd rfl (Or.inl
   rfl)) (pgs_nil))))) (pss_cons (ps_if (PW.pt (pw_or (pt_not (pt_tru (pe_fn c_is_name hr (by decide) rfl pass0 (pa_cons (pv 2) (pa_nil))) (by intro _; rfl))) (pw_or1
   (pt_cmpR (g_in hr.rm) (pv 2) (pv 1) rfl)))) (pss_one (ps_ret (pe_bl))) (pss_nil)) (pss_one (ps_ret (L2.pe_or (pe_cmpR g_is (pv 3) (pe_non) (nomark _)) (pe_one
   (L2.pe_and (pe_callB g_isi rfl B.n_isinstance (by decide +kernel) (pa_cons (pv 3) (pa_cons (pe_bltn rfl B.n_str (by decide +kernel) rfl) (pa_nil)))) (pe_one (pe_cmpR
   (g_in hr.rm) (pv 3) (pv 1) rfl)))))))))
theorem ok_Forest_init (B : Blt mg) (T : TxC Γ mg) (C : Kc Γ) (c_is_list : Cal P w Γ.K mg base CX0 "is_list" 1 ps_is_list (sp_is_list Γ)) (c_is_row : Cal P w Γ.K mg base CX0 "is_row" 2 ps_is_row (sp_is_row Γ)) {a : Addr} {fd : FuncData} (F : Fun Γ.K "__init__" "Forest.__init__" st_Forest_init a fd) : FnG P w Γ.K mg base CX0 3 a fd ps_Forest_init (sp_Forest_init Γ) := by
  refine fnG (k := 2) (t := t_Forest_init Γ) F fs_Forest_init (fun _ _ _ _ h => h.1) (pure_Forest C.kcF) fun cdv A outer s H E hr => ?_
  have nd := fs_Forest_init.nd
  exact pss_cons (ps_if (PW.pt (pw_or (pt_not (pt_tru (pe_fn c_is_list hr (by decide) rfl pass0 (pa_cons (pv 1) (pa_nil))) (by intro _; rfl))) (pw_or1 (pt_not (pt_chain g_le g_le
   (pe_int) (pe_callB g_len rfl B.n_len (by decide +kernel) (pa_cons (pv 1) (pa_nil))) (ClX.pe_cval (pe_con rfl T.m_Forest))))))) (pss_one (ps_never)) (pss_nil))
   (pss_cons (ps_fld (pv 0) (pe_dnewK) rfl) (pss_one (ps_for PassesOwn.never rfl (pi_gen (pv 1)) (pg_name (i := 2) nd rfl (Or.inl rfl)) (pss_cons (ps_if (pt_not (pt_tru
   (pe_fn c_is_row hr (by decide) rfl pass0 (pa_cons (pv 2) (pa_cons (pe_fld (pv 0) rfl) (pa_nil)))) (by intro _; rfl))) (pss_one (ps_never)) (pss_nil)) (pss_cons (ps_asg
   (pv 2) (pg_tup rfl (pgs_cons (pg_name (i := 3) nd rfl (Or.inl rfl)) (pgs_cons (pg_name (i := 4) nd rfl (Or.inl rfl)) (pgs_nil))))) (pss_one (ps_asg (pv 4) (pg_sub
   (pe_fld (pv 0) rfl) (pv 3) (g_set hr.un)))))))))
theorem ok_law_written (B : Blt mg) (T : TxC Γ mg) (C : Kc Γ)  {a : Addr} {fd : FuncData} (F : Fun Γ.K "_law_written" "_law_written" st_law_written a fd) : FnG P w Γ.K mg base CX0 1 a fd ps_law_written (sp_law_written Γ) := by
  refine fnG (k := 0) (t := t_law_written Γ) F fs_law_written (fun _ _ _ _ h => h.1) (pure_of (N := N_law_written) (fun L => snd_law_written) (by decide) fun _ _ _ h => h) fun cdv A outer s H E hr => ?_
  have nd := fs_law_written.nd
  exact pss_cons (ps_set (i := 1) nd rfl (Or.inl rfl) (pe_str)) (pss_cons (ps_for PassesOwn.never rfl (pi_gen (pv 0)) (pg_tup rfl (pgs_cons (pg_name (i := 2) nd rfl (Or.inl rfl))
   (pgs_cons (pg_name (i := 3) nd rfl (Or.inl rfl)) (pgs_nil)))) (pss_one (ps_set (i := 1) nd rfl (Or.inl rfl) (pe_op g_add (pe_op g_add (pe_op g_add (pe_op g_add (pv 1)
   (pe_str)) (pv 2)) (pe_ifExp (pt_cmpR g_is (pv 3) (pe_non) (nomark _)) (pe_str) (pe_op g_add (pe_str) (pv 3)))) (pe_str))))) (pss_one (ps_ret (pv 1))))
theorem ok_row_of (B : Blt mg) (T : TxC Γ mg) (C : Kc Γ) (c_is_row : Cal P w Γ.K mg base CX0 "is_row" 2 ps_is_row (sp_is_row Γ)) {a : Addr} {fd : FuncData} (F : Fun Γ.K "row_of" "row_of" st_row_of a fd) : FnG P w Γ.K mg base CX0 3 a fd ps_row_of (sp_row_of Γ) := by
  refine fnG (k := 2) (t := t_row_of Γ) F fs_row_of (fun _ _ _ _ h => h.1) (pure_of (N := N_row_of) (fun L => snd_row_of) (by decide) fun _ _ _ h => h) fun cdv A outer s H E hr => ?_
  have nd := fs_row_of.nd
  exact pss_cons (ps_set (i := 2) nd rfl (Or.inl rfl) (pe_splitG (pv 0) (pe_str))) (pss_cons (ps_if (pt_cmpR (g_ne hr.rm) (pe_ix (g_ix hr.rm) (pv 2) (pe_int) (fun _ _ => rfl))
   (pe_str) (nomark _)) (pss_one (ps_ret (pe_non))) (pss_nil)) (pss_cons (ps_if (pt_cmpR (g_eq hr.rm) (pe_callB g_len rfl B.n_len (by decide +kernel) (pa_cons (pv 2)
   (pa_nil))) (pe_int) (nomark _)) (pss_one (ps_set (i := 3) nd rfl (Or.inl rfl) (pe_tup (pa_cons (pe_ix (g_ix hr.rm) (pv 2) (pe_int) (fun _ _ => rfl)) (pa_cons (pe_non)
   (pa_nil)))))) (pss_one (ps_if (PW.pt (pw_and (pt_cmpR (g_eq hr.rm) (pe_callB g_len rfl B.n_len (by decide +kernel) (pa_cons (pv 2) (pa_nil))) (pe_int) (nomark _))
   (pw_and1 (pt_cmpR (g_eq hr.rm) (pe_ix (g_ix hr.rm) (pv 2) (pe_int) (fun _ _ => rfl)) (pe_str) (nomark _))))) (pss_one (ps_set (i := 3) nd rfl (Or.inl rfl) (pe_tup
   (pa_cons (pe_ix (g_ix hr.rm) (pv 2) (pe_int) (fun _ _ => rfl)) (pa_cons (pe_ix (g_ix hr.rm) (pv 2) (pe_int) (fun _ _ => rfl)) (pa_nil)))))) (pss_one (ps_ret
   (pe_non)))))) (pss_one (ps_ret (pe_ifExp (pt_tru (pe_fn c_is_row hr (by decide) rfl pass0 (pa_cons (pv 3) (pa_cons (pv 1) (pa_nil)))) (by intro _; rfl)) (pv 3)
   (pe_non))))))
theorem ok_Forest_parse (B : Blt mg) (T : TxC Γ mg) (C : Kc Γ) (c_row_of : Cal P w Γ.K mg base CX0 "row_of" 3 ps_row_of (sp_row_of Γ)) (c_Forest_init : CalC P w Γ.K mg base CX0 "Forest" (Γ.adr "Forest") 3 ps_Forest_init (sp_Forest_init Γ)) {a : Addr} {fd : FuncData} (F : Fun Γ.K "parse" "Forest.parse" st_Forest_parse a fd) : FnG P w Γ.K mg base CX0 5 a fd ps_Forest_parse (sp_Forest_parse Γ) := by
  refine fnG (k := 4) (t := t_Forest_parse Γ) F fs_Forest_parse (fun _ _ _ _ h => h.1) (pure_of (N := N_Forest_parse) (fun L => snd_Forest_parse) (by decide) fun _ _ _ h => h) fun cdv A outer s H E hr => ?_
  have nd := fs_Forest_parse.nd
  exact pss_cons (ps_if (pt_not (pt_tru (pe_callB g_isi rfl B.n_isinstance (by decide +kernel) (pa_cons (pv 0) (pa_cons (pe_bltn rfl B.n_str (by decide +kernel) rfl) (pa_nil))))
   (by intro _; rfl))) (pss_one (ps_never)) (pss_nil)) (pss_cons (ps_par (i := 1) (j := 2) rfl nd rfl rfl (by decide) rfl rfl (pa_cons (pe_splitG (pv 0) (pe_str))
   (pa_cons (pe_dnewK) (pa_nil))) (by rfl)) (pss_cons (ps_for PassesOwn.never rfl (pi_enum rfl B.n_enumerate (pa_cons (pe_ifExp (pt_cmpR (g_eq hr.rm) (pe_ix (g_ix hr.rm)
   (pv 1) (pe_un g_neg (pe_int)) (fun _ _ => rfl)) (pe_str) (nomark _)) (pe_slice g_sl (pv 1) (po_none) (po_some (pe_un g_neg (pe_int)))) (pv 1)) (pa_nil))) (pg_tup rfl
   (pgs_cons (pg_name (i := 3) nd rfl (Or.inl rfl)) (pgs_cons (pg_name (i := 4) nd rfl (Or.inl rfl)) (pgs_nil)))) (pss_cons (ps_set (i := 5) nd rfl (Or.inl rfl) (pe_fn
   c_row_of hr (by decide) rfl pass0 (pa_cons (pv 4) (pa_cons (pv 2) (pa_nil))))) (pss_cons (ps_if (pt_cmpR g_is (pv 5) (pe_non) (nomark _)) (pss_one (ps_never))
   (pss_nil)) (pss_one (ps_asg (pv 5) (pg_sub (pv 2) (pe_ix (g_ix hr.rm) (pv 5) (pe_int) (fun _ _ => rfl)) (g_set hr.un))))))) (pss_cons (ps_if (pt_cmpR (g_ne hr.rm)
   (pe_ix (g_ix hr.rm) (pv 1) (pe_un g_neg (pe_int)) (fun _ _ => rfl)) (pe_str) (nomark _)) (pss_one (ps_never)) (pss_nil)) (pss_one (ps_ret (pe_mk c_Forest_init hr
   (by decide) rfl pass0 (pa_cons (pe_listVals rfl (pv 2) rfl B.n_list (by decide +kernel)) (pa_nil))))))))
theorem ok_Forest_text (B : Blt mg) (T : TxC Γ mg) (C : Kc Γ)  {a : Addr} {fd : FuncData} (F : Fun Γ.K "text" "Forest.text" st_Forest_text a fd) : FnG P w Γ.K mg base CX0 1 a fd ps_Forest_text (sp_Forest_text Γ) := by
  refine fnG (k := 0) (t := t_Forest_text Γ) F fs_Forest_text (fun _ _ _ _ h => h.1) (pure_of (N := N_Forest_text) (fun L => snd_Forest_text C.f_parents) (by decide) fun _ _ _ h => h) fun cdv A outer s H E hr => ?_
  have nd := fs_Forest_text.nd
  exact pss_cons (ps_lkA (ps_setLc (i := 1) (own := [("name", 2), ("parent", 3)]) rfl nd rfl rfl (sw_true rfl rfl rfl (by decide +kernel)) (pi_items (pe_fld (pv 0) rfl))
   (blkOk_by (sc := defScope st_Forest_text) (own := [("name", 2), ("parent", 3)]) (N := N_Forest_text) (by decide +kernel)) (fun _ _ _ _ _ => pg_tup rfl (pgs_cons
   (pg_name (i := 2) nd rfl (Or.inl rfl)) (pgs_cons (pg_name (i := 3) nd rfl (Or.inl rfl)) (pgs_nil)))) (fun _ _ _ _ _ => pts_nil) (fun _ _ _ _ _ => pe_ifExp (pt_cmpR
   g_is (pv 3) (pe_non) (nomark _)) (pe_joined (.cons (pe_str) (.cons (pe_fmt (pv 2)) .nil))) (pe_joined (.cons (pe_str) (.cons (pe_fmt (pv 2)) (.cons (pe_str) (.cons
   (pe_fmt (pv 3)) .nil)))))))) (pss_one (ps_ret (pe_joinG (pe_str) (pe_lc (own := [("line", 4)]) rfl nd (pi_gen (pv 1)) (blkOk_by (sc := defScope st_Forest_text) (own :=
   [("line", 4)]) (N := N_Forest_text) (by decide +kernel)) (fun _ _ _ _ _ => pg_name (i := 4) nd rfl (Or.inl rfl)) (fun _ _ _ _ _ => pts_nil) (fun _ _ _ _ _ => pe_op
   g_add (pv 4) (pe_str))))))
theorem ok_Forest_eq (B : Blt mg) (T : TxC Γ mg) (C : Kc Γ)  {a : Addr} {fd : FuncData} (F : Fun Γ.K "__eq__" "Forest.__eq__" st_Forest_eq a fd) : FnG P w Γ.K mg base CX0 1 a fd ps_Forest_eq (sp_Forest_eq Γ) := by
  refine fnG (k := 0) (t := t_Forest_eq Γ) F fs_Forest_eq (fun _ _ _ _ h => h.1) (pure_of (N := N_Forest_eq) (fun L => snd_Forest_eq C.kF C.kcF C.c_Forest C.f_parents) (by decide) fun _ _ _ h => h) fun cdv A outer s H E hr => ?_
  have nd := fs_Forest_eq.nd
  exact pss_one (ps_ret (L2.pe_and (pe_callB g_isi rfl B.n_isinstance (by decide +kernel) (pa_cons (pv 1) (pa_cons (pe_con rfl T.m_Forest) pa_nil))) (pe_one (pe_cmpR (g_eqD
   (Nat.lt_of_succ_lt hr.un)) (pe_fld (pv 0) rfl) (pe_fld (pv 1) rfl) (nomark _)))))
theorem ok_Forest_names (B : Blt mg) (T : TxC Γ mg) (C : Kc Γ)  {a : Addr} {fd : FuncData} (F : Fun Γ.K "names" "Forest.names" st_Forest_names a fd) : FnG P w Γ.K mg base CX0 1 a fd ps_Forest_names (sp_Forest_names Γ) := by
  refine fnG (k := 0) (t := t_Forest_names Γ) F fs_Forest_names (fun _ _ _ _ h => h.1) (pure_of (N := N_Forest_names) (fun L => snd_Forest_names C.f_parents) (by decide) fun _ _ _ h => h) fun cdv A outer s H E hr => ?_
  have nd := fs_Forest_names.nd
  exact pss_one (ps_ret (pe_callTy (g_tuple rfl) rfl B.n_tuple (by decide +kernel) (pa_cons (pe_fld (pv 0) rfl) (pa_nil))))
theorem ok_Forest_need_account (B : Blt mg) (T : TxC Γ mg) (C : Kc Γ)  {a : Addr} {fd : FuncData} (F : Fun Γ.K "need_account" "Forest.need_account" st_Forest_need_account a fd) : FnG P w Γ.K mg base CX0 1 a fd ps_Forest_need_account (sp_Forest_need_account Γ) := by
  refine fnG (k := 0) (t := t_Forest_need_account Γ) F fs_Forest_need_account (fun _ _ _ _ h => h.1) (pure_of (N := N_Forest_need_account) (fun L => snd_Forest_need_account C.f_parents) (by decide) fun _ _ _ h => h) fun cdv A outer s H E hr => ?_
  have nd := fs_Forest_need_account.nd
  exact pss_one (ps_if (PW.pt (pw_or (pt_not (pt_tru (pe_callB g_isi rfl B.n_isinstance (by decide +kernel) (pa_cons (pv 1) (pa_cons (pe_bltn rfl B.n_str (by decide +kernel) rfl)
   (pa_nil)))) (by intro _; rfl))) (pw_or1 (pt_cmpR (g_notIn hr.rm) (pv 1) (pe_fld (pv 0) rfl) rfl)))) (pss_one (ps_never)) (pss_nil))
theorem ok_Forest_ancestors (B : Blt mg) (T : TxC Γ mg) (C : Kc Γ) (c_Forest_need_account : CalM P w Γ.K mg base CX0 (Γ.adr "Forest") "need_account" 1 ps_Forest_need_account (sp_Forest_need_account Γ)) {a : Addr} {fd : FuncData} (F : Fun Γ.K "ancestors" "Forest.ancestors" st_Forest_ancestors a fd) : FnG P w Γ.K mg base CX0 2 a fd ps_Forest_ancestors (sp_Forest_ancestors Γ) := by
  refine fnG (k := 1) (t := t_Forest_ancestors Γ) F fs_Forest_ancestors (fun _ _ _ _ h => h.1) (pure_ofF (N := N_Forest_ancestors) (fun L => snd_Forest_ancestors C.c_Forest C.f_parents) (by decide) fun _ _ _ h => h) fun cdv A outer s H E hr => ?_
  have nd := fs_Forest_ancestors.nd
  exact pss_cons (ps_expr (pe_mt c_Forest_need_account hr (by decide) pass0 (pv 0) (pa_cons (pv 1) (pa_nil)))) (pss_cons (ps_set (i := 2) nd rfl (Or.inl rfl) (pe_lst (pa_cons (pv
   1) (pa_nil)))) (pss_cons (ps_while PassesOwn.never (pt_cmpR g_isNot (pe_ix (g_ix hr.rm) (pe_fld (pv 0) rfl) (pe_ix (g_ix hr.rm) (pv 2) (pe_un g_neg (pe_int)) (fun _ _
   => rfl)) (fun _ _ => rfl)) (pe_non) (nomark _)) (pss_one (ps_expr (pe_bm PySem.F.plainAttrs_list PySem.F.slot_list_append PySem.F.type_list_append mt_append (pv 2)
   (pa_cons (pe_ix (g_ix hr.rm) (pe_fld (pv 0) rfl) (pe_ix (g_ix hr.rm) (pv 2) (pe_un g_neg (pe_int)) (fun _ _ => rfl)) (fun _ _ => rfl)) pa_nil))))) (pss_one (ps_ret (pv
   2)))))
theorem ok_law (B : Blt mg) (T : TxC Γ mg) (C : Kc Γ) (c_law_begun : Cal P w Γ.K mg base CX0 "_law_begun" 1 ps_law_begun (sp_law_begun Γ)) (c_law_forest : Cal P w Γ.K mg base CX0 "_law_forest" 5 ps_law_forest (sp_law_forest Γ)) (c_Forest_init : CalC P w Γ.K mg base CX0 "Forest" (Γ.adr "Forest") 3 ps_Forest_init (sp_Forest_init Γ)) (c_law_written : Cal P w Γ.K mg base CX0 "_law_written" 1 ps_law_written (sp_law_written Γ)) (c_Forest_parse : CalS P w Γ.K mg base CX0 (Γ.adr "Forest") "parse" 5 ps_Forest_parse (sp_Forest_parse Γ)) (c_Forest_text : CalP P w Γ.K mg base CX0 (Γ.adr "Forest") "text" 1 ps_Forest_text (sp_Forest_text Γ)) (c_Forest_eq : CalE P w Γ.K mg base (Γ.adr "Forest") 1 ps_Forest_eq (sp_Forest_eq Γ)) (c_Forest_names : CalP P w Γ.K mg base CX0 (Γ.adr "Forest") "names" 1 ps_Forest_names (sp_Forest_names Γ)) (c_Forest_ancestors : CalM P w Γ.K mg base CX0 (Γ.adr "Forest") "ancestors" 2 ps_Forest_ancestors (sp_Forest_ancestors Γ)) (ck_Forest_parse_text : CalSK P w Γ.K mg base CX0 (Γ.adr "Forest") "parse" 5 ps_Forest_parse ["text"] [0] (sp_Forest_parse Γ)) {a : Addr} {fd : FuncData} (F : Fun Γ.K "law" "law" st_law a fd) : FnG P w Γ.K mg base CX0 6 a fd ps_law (sp_law Γ) := by
  refine fnG (k := 5) (t := t_law Γ) F fs_law (fun _ _ _ _ h => h.1) (pure_law (N := N_law) (by decide) (fun L => snd_law_rest C.c_Forest) (by decide) dd_law_rest) fun cdv A outer s H E hr => ?_
  have nd := fs_law.nd
  exact pss_cons (ps_set (i := 1) nd rfl (Or.inl rfl) (pe_fn c_law_begun hr (by decide) rfl pass0 (pa_cons (pv 0) (pa_nil)))) (pss_cons (ps_set (i := 2) nd rfl (Or.inl rfl)
   (pe_lst (pa_nil))) (pss_cons (ps_for PassesOwn.never rfl (pi_range1 rfl B.n_range (pa_cons (pe_int) (pa_nil))) (pg_name (i := 3) nd rfl (Or.inl rfl)) (pss_cons (ps_set
   (i := 4) nd rfl (Or.inr rfl) (pe_fn c_law_forest hr (by decide) rfl pass0 (pa_cons (pv 1) (pa_cons (pe_int) (pa_nil))))) (pss_cons (ps_par (i := 5) (j := 6) rfl nd rfl
   rfl (by decide) rfl rfl (pa_cons (pe_mk c_Forest_init hr (by decide) rfl pass0 (pa_cons (pv 4) (pa_nil))) (pa_cons (pe_fn c_law_written hr (by decide) rfl pass0
   (pa_cons (pv 4) (pa_nil))) (pa_nil))) (by rfl)) (pss_cons (ps_set (i := 7) nd rfl (Or.inl rfl) (pe_stat c_Forest_parse hr (by decide) pass0 (C.kcF.co ▸ pe_con rfl
   T.m_Forest) (pa_cons (pv 6) (pa_nil)))) (pss_cons (ps_if (PW.pt (pw_or (pt_cmpR (g_ne hr.rm) (pe_prG c_Forest_text hr (by decide) pass0 (pv 5)) (pv 6) (nomark _))
   (pw_or (pt_cmpR (g_neM c_Forest_eq hr (by decide)) (pv 7) (pv 5) (nomark _)) (pw_or (pt_cmpR (g_ne hr.rm) (pe_prG c_Forest_names hr (by decide) pass0 (pv 7)) (pe_prG
   c_Forest_names hr (by decide) pass0 (pv 5)) (nomark _)) (pw_or1 (pt_cmpR (g_ne hr.rm) (pe_prG c_Forest_text hr (by decide) pass0 (pv 7)) (pv 6) (nomark _)))))))
   (pss_one (ps_ret (pe_bl))) (pss_nil)) (pss_cons (ps_if (pt_cmpR (g_ne hr.rm) (pe_prG c_Forest_text hr (by decide) pass0 (pe_statK ck_Forest_parse_text hr (by decide)
   pass0 (C.kcF.co ▸ pe_con rfl T.m_Forest) (pk_cons (pe_prG c_Forest_text hr (by decide) pass0 (pv 5)) (pk_nil)))) (pv 6) (nomark _)) (pss_one (ps_ret (pe_bl)))
   (pss_nil)) (pss_cons (ps_set (i := 8) nd rfl (Or.inl rfl) (pe_callTy (g_dict rfl) rfl B.n_dict (by decide +kernel) (pa_cons (pv 4) (pa_nil)))) (pss_cons (ps_for
   PassesOwn.never rfl (pi_gen (pe_prG c_Forest_names hr (by decide) pass0 (pv 7))) (pg_name (i := 9) nd rfl (Or.inl rfl)) (pss_one (ps_if (pt_cmpR (g_ne hr.rm) (pe_slice
   g_sl (pe_mt c_Forest_ancestors hr (by decide) pass0 (pv 7) (pa_cons (pv 9) (pa_nil))) (po_some (pe_int)) (po_some (pe_int))) (pe_ifExp (pt_cmpR g_is (pe_ix (g_ix
   hr.rm) (pv 8) (pv 9) (fun _ _ => rfl)) (pe_non) (nomark _)) (pe_lst (pa_nil)) (pe_lst (pa_cons (pe_ix (g_ix hr.rm) (pv 8) (pv 9) (fun _ _ => rfl)) (pa_nil)))) (nomark
   _)) (pss_one (ps_ret (pe_bl))) (pss_nil)))) (pss_one (ps_expr (pe_bm PySem.F.plainAttrs_list PySem.F.slot_list_append PySem.F.type_list_append mt_append (pv 2)
   (pa_cons (pe_tup (pa_cons (pv 6) (pa_cons (pv 4) (pa_nil)))) pa_nil)))))))))))) (pss_cons (ps_for PassesOwn.never rfl (pi_gen (pv 2)) (pg_tup rfl (pgs_cons (pg_name (i
   := 10) nd rfl (Or.inr rfl)) (pgs_cons (pg_name (i := 4) nd rfl (Or.inr rfl)) (pgs_nil)))) (pss_one (ps_if (pt_cmpR (g_ne hr.rm) (pe_lc (own := [("_law_pair", 11)]) rfl
   nd (pi_gen (pv 2)) (blkOk_by (sc := defScope st_law) (own := [("_law_pair", 11)]) (N := N_law) (by decide +kernel)) (fun _ _ _ _ _ => pg_name (i := 11) nd rfl (Or.inl
   rfl)) (fun _ _ _ _ _ => pts_one (pt_cmpR (g_ne hr.rm) (pe_cmpR (g_eq hr.rm) (pe_ix (g_ix hr.rm) (pv 11) (pe_int) (fun _ _ => rfl)) (pv 10) (nomark _)) (pe_cmpR (g_eq
   hr.rm) (pe_ix (g_ix hr.rm) (pv 11) (pe_int) (fun _ _ => rfl)) (pv 4) (nomark _)) (nomark _))) (fun _ _ _ _ _ => pv 11)) (pe_lst (pa_nil)) (nomark _)) (pss_one (ps_ret
   (pe_bl))) (pss_nil)))) (pss_one (ps_ret (pe_bl))))))
end
def conT (v0 v1 v2 : V) : String → V := fun n => if n = "LETTERS" then v0 else if n = "LONGEST" then v1 else if n = "Forest" then v2 else .non
theorem conT_LETTERS (v0 v1 v2 : V) : conT v0 v1 v2 "LETTERS" = v0 := if_pos rfl
theorem conT_LONGEST (v0 v1 v2 : V) : conT v0 v1 v2 "LONGEST" = v1 := (if_neg (by decide)).trans (if_pos rfl)
theorem conT_Forest (v0 v1 v2 : V) : conT v0 v1 v2 "Forest" = v2 := (if_neg (by decide)).trans ((if_neg (by decide)).trans (if_pos rfl))
def clsT (v0 : Addr) : String → Option Addr := fun n => if n = "Forest" then some v0 else none
theorem clsT_Forest (v0 : Addr) : clsT v0 "Forest" = some v0 := if_pos rfl
theorem clsT_in (v0 : Addr) {c : String} {A : Addr} (h : clsT v0 c = some A) : A = v0 := by
  unfold clsT at h
  split at h
  · cases h; exact rfl
  · cases h
theorem all_mk {P : Program} {w : World} {K : PySem.W.Frag} {h : Heap} {mg : Str → Option Value} {fa : Addr} (X : K.In h) (G : h.Ns mainGlobals mg) (hfa : mg "law" = some (.ref fa))
   {C0 : Addr} {f0 : Addr} {od0 an0 : Option Addr} {sl0 : Array (Option Value)} {oc0 kV0 dc0 pm0 cd0 ct0 : Value} {f1 : Addr} {od1 an1 : Option Addr} {sl1 : Array (Option
   Value)} {oc1 kV1 dc1 pm1 cd1 ct1 : Value} {f2 : Addr} {od2 an2 : Option Addr} {sl2 : Array (Option Value)} {oc2 kV2 dc2 pm2 cd2 ct2 : Value} {f3 : Addr} {od3 an3 :
   Option Addr} {sl3 : Array (Option Value)} {oc3 kV3 dc3 pm3 cd3 ct3 : Value} {f4 : Addr} {od4 an4 : Option Addr} {sl4 : Array (Option Value)} {oc4 kV4 dc4 pm4 cd4 ct4 :
   Value} {f5 : Addr} {od5 an5 : Option Addr} {sl5 : Array (Option Value)} {oc5 kV5 dc5 pm5 cd5 ct5 : Value} {f6 : Addr} {od6 an6 : Option Addr} {sl6 : Array (Option
   Value)} {oc6 kV6 dc6 pm6 cd6 ct6 : Value} {f7 : Addr} {od7 an7 : Option Addr} {sl7 : Array (Option Value)} {oc7 kV7 dc7 pm7 cd7 ct7 : Value} {f8 : Addr} {od8 an8 :
   Option Addr} {sl8 : Array (Option Value)} {oc8 kV8 dc8 pm8 cd8 ct8 : Value} {f9 : Addr} {od9 an9 : Option Addr} {sl9 : Array (Option Value)} {oc9 kV9 dc9 pm9 cd9 ct9 :
   Value} {f10 : Addr} {od10 an10 : Option Addr} {sl10 : Array (Option Value)} {oc10 kV10 dc10 pm10 cd10 ct10 : Value} {f11 : Addr} {od11 an11 : Option Addr} {sl11 :
   Array (Option Value)} {oc11 kV11 dc11 pm11 cd11 ct11 : Value} {f12 : Addr} {od12 an12 : Option Addr} {sl12 : Array (Option Value)} {oc12 kV12 dc12 pm12 cd12 ct12 :
   Value} {p12 : Addr} {re12 : List Value} {f13 : Addr} {od13 an13 : Option Addr} {sl13 : Array (Option Value)} {oc13 kV13 dc13 pm13 cd13 ct13 : Value} {p13 : Addr} {re13
   : List Value} {f14 : Addr} {od14 an14 : Option Addr} {sl14 : Array (Option Value)} {oc14 kV14 dc14 pm14 cd14 ct14 : Value} {eN : Addr} {enm eqn : Str} {ebs : List
   Value} {esn : List Str} {esu : List Value} {eco : Option Bool} {edd : Option Addr} {ek0 ek1 ek2 ek3 ek5 : Option Value} {eNc : Value} {eNd : Option Addr} {eNs : Array
   DictEntry} {eNn : Nat} {eNl : Array (Option Value)} {f15 : Addr} {od15 an15 : Option Addr} {sl15 : Array (Option Value)} {oc15 kV15 dc15 pm15 cd15 ct15 : Value} {p15 :
   Addr} {re15 : List Value} {f16 : Addr} {od16 an16 : Option Addr} {sl16 : Array (Option Value)} {oc16 kV16 dc16 pm16 cd16 ct16 : Value} {f17 : Addr} {od17 an17 : Option
   Addr} {sl17 : Array (Option Value)} {oc17 kV17 dc17 pm17 cd17 ct17 : Value} {f18 : Addr} {od18 an18 : Option Addr} {sl18 : Array (Option Value)} {oc18 kV18 dc18 pm18
   cd18 ct18 : Value} {u0 : Tok} {u1 : Tok} {tmF : Tok}
   (ac0 : PySem.W.nsIn K mainGlobals "Forest" = some (some (.ref C0)))
    (pg0 : PySem.W.plainGet K C0 Str.empty = true) (hd0 : PySem.W.hasDictIn K C0 = true) (po0 : PySem.W.plainOver K C0 = true) (sa0 : PySem.W.findIn K (.ref C0) "__setattr__" = some (some (.builtin "object.__setattr__")))
    (nf0_parents : PySem.W.findIn K (.ref C0) "parents" = some none)
    (mk0 : PySem.W.makesIn K C0 = true) (kc0 : PySem.W.keepIn K (.ref C0) = true)
    (a0 : PySem.W.nsIn K mainGlobals "_law_begun" = some (some (.ref f0)))
    (l0 : K.lookup f0 = some ⟨oc0, od0, .func (PySem.W.fnOf "_law_begun" "_law_begun" (defArgs st_law_begun) (defBody st_law_begun) (defScope st_law_begun) .none kV0 dc0 pm0 an0 cd0 ct0), sl0⟩) (c0 : PySem.W.codeIn K cd0 "_law_begun" = true) (k0 : PySem.W.keepIn K (.ref f0) = true)
    (a1 : PySem.W.nsIn K mainGlobals "_law_mixed" = some (some (.ref f1)))
    (l1 : K.lookup f1 = some ⟨oc1, od1, .func (PySem.W.fnOf "_law_mixed" "_law_mixed" (defArgs st_law_mixed) (defBody st_law_mixed) (defScope st_law_mixed) .none kV1 dc1 pm1 an1 cd1 ct1), sl1⟩) (c1 : PySem.W.codeIn K cd1 "_law_mixed" = true) (k1 : PySem.W.keepIn K (.ref f1) = true)
    (a2 : PySem.W.nsIn K mainGlobals "_law_take" = some (some (.ref f2)))
    (l2 : K.lookup f2 = some ⟨oc2, od2, .func (PySem.W.fnOf "_law_take" "_law_take" (defArgs st_law_take) (defBody st_law_take) (defScope st_law_take) .none kV2 dc2 pm2 an2 cd2 ct2), sl2⟩) (c2 : PySem.W.codeIn K cd2 "_law_take" = true) (k2 : PySem.W.keepIn K (.ref f2) = true)
    (a3 : PySem.W.nsIn K mainGlobals "_law_pick" = some (some (.ref f3)))
    (l3 : K.lookup f3 = some ⟨oc3, od3, .func (PySem.W.fnOf "_law_pick" "_law_pick" (defArgs st_law_pick) (defBody st_law_pick) (defScope st_law_pick) .none kV3 dc3 pm3 an3 cd3 ct3), sl3⟩) (c3 : PySem.W.codeIn K cd3 "_law_pick" = true) (k3 : PySem.W.keepIn K (.ref f3) = true)
    (a4 : PySem.W.nsIn K mainGlobals "_law_words" = some (some (.ref f4)))
    (l4 : K.lookup f4 = some ⟨oc4, od4, .func (PySem.W.fnOf "_law_words" "_law_words" (defArgs st_law_words) (defBody st_law_words) (defScope st_law_words) .none kV4 dc4 pm4 an4 cd4 ct4), sl4⟩) (c4 : PySem.W.codeIn K cd4 "_law_words" = true) (k4 : PySem.W.keepIn K (.ref f4) = true)
    (a5 : PySem.W.nsIn K mainGlobals "_law_forest" = some (some (.ref f5)))
    (l5 : K.lookup f5 = some ⟨oc5, od5, .func (PySem.W.fnOf "_law_forest" "_law_forest" (defArgs st_law_forest) (defBody st_law_forest) (defScope st_law_forest) .none kV5 dc5 pm5 an5 cd5 ct5), sl5⟩) (c5 : PySem.W.codeIn K cd5 "_law_forest" = true) (k5 : PySem.W.keepIn K (.ref f5) = true)
    (a6 : PySem.W.nsIn K mainGlobals "is_list" = some (some (.ref f6)))
    (l6 : K.lookup f6 = some ⟨oc6, od6, .func (PySem.W.fnOf "is_list" "is_list" (defArgs st_is_list) (defBody st_is_list) (defScope st_is_list) .none kV6 dc6 pm6 an6 cd6 ct6), sl6⟩) (c6 : PySem.W.codeIn K cd6 "is_list" = true) (k6 : PySem.W.keepIn K (.ref f6) = true)
    (a7 : PySem.W.nsIn K mainGlobals "is_name" = some (some (.ref f7)))
    (l7 : K.lookup f7 = some ⟨oc7, od7, .func (PySem.W.fnOf "is_name" "is_name" (defArgs st_is_name) (defBody st_is_name) (defScope st_is_name) .none kV7 dc7 pm7 an7 cd7 ct7), sl7⟩) (c7 : PySem.W.codeIn K cd7 "is_name" = true) (k7 : PySem.W.keepIn K (.ref f7) = true)
    (a8 : PySem.W.nsIn K mainGlobals "is_row" = some (some (.ref f8)))
    (l8 : K.lookup f8 = some ⟨oc8, od8, .func (PySem.W.fnOf "is_row" "is_row" (defArgs st_is_row) (defBody st_is_row) (defScope st_is_row) .none kV8 dc8 pm8 an8 cd8 ct8), sl8⟩) (c8 : PySem.W.codeIn K cd8 "is_row" = true) (k8 : PySem.W.keepIn K (.ref f8) = true)
    (a9 : PySem.W.findIn K (.ref C0) "__init__" = some (some (.ref f9))) (i9 : PySem.W.isFn K (.ref f9) = true)
    (l9 : K.lookup f9 = some ⟨oc9, od9, .func (PySem.W.fnOf "__init__" "Forest.__init__" (defArgs st_Forest_init) (defBody st_Forest_init) (defScope st_Forest_init) .none kV9 dc9 pm9 an9 cd9 ct9), sl9⟩) (c9 : PySem.W.codeIn K cd9 "Forest.__init__" = true) (k9 : PySem.W.keepIn K (.ref f9) = true)
    (a10 : PySem.W.nsIn K mainGlobals "_law_written" = some (some (.ref f10)))
    (l10 : K.lookup f10 = some ⟨oc10, od10, .func (PySem.W.fnOf "_law_written" "_law_written" (defArgs st_law_written) (defBody st_law_written) (defScope st_law_written) .none kV10 dc10 pm10 an10 cd10 ct10), sl10⟩) (c10 : PySem.W.codeIn K cd10 "_law_written" = true) (k10 : PySem.W.keepIn K (.ref f10) = true)
    (a11 : PySem.W.nsIn K mainGlobals "row_of" = some (some (.ref f11)))
    (l11 : K.lookup f11 = some ⟨oc11, od11, .func (PySem.W.fnOf "row_of" "row_of" (defArgs st_row_of) (defBody st_row_of) (defScope st_row_of) .none kV11 dc11 pm11 an11 cd11 ct11), sl11⟩) (c11 : PySem.W.codeIn K cd11 "row_of" = true) (k11 : PySem.W.keepIn K (.ref f11) = true)
    (a12 : PySem.W.findCls K (.ref C0) (.type "type") "parse" = some (.get (.builtin "staticmethod.__get__") (.ref p12) .none (.ref C0))) (ra12 : PySem.W.recIn K p12 "staticmethod" = some (.ref f12 :: re12))
    (l12 : K.lookup f12 = some ⟨oc12, od12, .func (PySem.W.fnOf "parse" "Forest.parse" (defArgs st_Forest_parse) (defBody st_Forest_parse) (defScope st_Forest_parse) .none kV12 dc12 pm12 an12 cd12 ct12), sl12⟩) (c12 : PySem.W.codeIn K cd12 "Forest.parse" = true) (k12 : PySem.W.keepIn K (.ref f12) = true)
    (a13 : PySem.W.findIn K (.ref C0) "text" = some (some (.ref p13))) (ga13 : PySem.W.specialIn K (.ref p13) "__get__" = some (some (.builtin "property.__get__"))) (ta13 : PySem.W.takesIn K (.ref p13) = some true) (ra13 : PySem.W.recIn K p13 "property" = some (.ref f13 :: re13))
    (l13 : K.lookup f13 = some ⟨oc13, od13, .func (PySem.W.fnOf "text" "Forest.text" (defArgs st_Forest_text) (defBody st_Forest_text) (defScope st_Forest_text) .none kV13 dc13 pm13 an13 cd13 ct13), sl13⟩) (c13 : PySem.W.codeIn K cd13 "Forest.text" = true) (k13 : PySem.W.keepIn K (.ref f13) = true)
    (eo : K.lookup C0 = some (excClassObj enm eqn C0 eN ebs [.type "object"] true esn esu false eco edd ek0 ek1 ek2 ek3 ek5 "object.__new__")) (en0 : K.lookup eN = some ⟨eNc, eNd, .dict eNs eNn, eNl⟩) (en1 : (eNs.all fun e => match e.key with | .str _ _ => true | _ => false) = true) (a14 : PySem.W.nsIn K eN "__eq__" = some (some (.ref f14))) (ene : PySem.W.nsIn K eN "__ne__" = some none)
    (l14 : K.lookup f14 = some ⟨oc14, od14, .func (PySem.W.fnOf "__eq__" "Forest.__eq__" (defArgs st_Forest_eq) (defBody st_Forest_eq) (defScope st_Forest_eq) .none kV14 dc14 pm14 an14 cd14 ct14), sl14⟩) (c14 : PySem.W.codeIn K cd14 "Forest.__eq__" = true) (k14 : PySem.W.keepIn K (.ref f14) = true)
    (eqc : oc14 = .type "function")
    (a15 : PySem.W.findIn K (.ref C0) "names" = some (some (.ref p15))) (ga15 : PySem.W.specialIn K (.ref p15) "__get__" = some (some (.builtin "property.__get__"))) (ta15 : PySem.W.takesIn K (.ref p15) = some true) (ra15 : PySem.W.recIn K p15 "property" = some (.ref f15 :: re15))
    (l15 : K.lookup f15 = some ⟨oc15, od15, .func (PySem.W.fnOf "names" "Forest.names" (defArgs st_Forest_names) (defBody st_Forest_names) (defScope st_Forest_names) .none kV15 dc15 pm15 an15 cd15 ct15), sl15⟩) (c15 : PySem.W.codeIn K cd15 "Forest.names" = true) (k15 : PySem.W.keepIn K (.ref f15) = true)
    (a16 : PySem.W.findIn K (.ref C0) "need_account" = some (some (.ref f16))) (i16 : PySem.W.isFn K (.ref f16) = true)
    (l16 : K.lookup f16 = some ⟨oc16, od16, .func (PySem.W.fnOf "need_account" "Forest.need_account" (defArgs st_Forest_need_account) (defBody st_Forest_need_account) (defScope st_Forest_need_account) .none kV16 dc16 pm16 an16 cd16 ct16), sl16⟩) (c16 : PySem.W.codeIn K cd16 "Forest.need_account" = true) (k16 : PySem.W.keepIn K (.ref f16) = true)
    (a17 : PySem.W.findIn K (.ref C0) "ancestors" = some (some (.ref f17))) (i17 : PySem.W.isFn K (.ref f17) = true)
    (l17 : K.lookup f17 = some ⟨oc17, od17, .func (PySem.W.fnOf "ancestors" "Forest.ancestors" (defArgs st_Forest_ancestors) (defBody st_Forest_ancestors) (defScope st_Forest_ancestors) .none kV17 dc17 pm17 an17 cd17 ct17), sl17⟩) (c17 : PySem.W.codeIn K cd17 "Forest.ancestors" = true) (k17 : PySem.W.keepIn K (.ref f17) = true)
    (a18 : PySem.W.nsIn K mainGlobals "law" = some (some (.ref f18)))
    (l18 : K.lookup f18 = some ⟨oc18, od18, .func (PySem.W.fnOf "law" "law" (defArgs st_law) (defBody st_law) (defScope st_law) .none kV18 dc18 pm18 an18 cd18 ct18), sl18⟩) (c18 : PySem.W.codeIn K cd18 "law" = true) (k18 : PySem.W.keepIn K (.ref f18) = true)
    (kf1 : PySem.W.findIn K (.ref C0) "__class__" = some (some (.builtin "object.__class__"))) (kf2 : PySem.W.specialIn K (.builtin "object.__class__") "__get__" = some (some (.builtin "getset_descriptor.__get__"))) (kf3 : PySem.W.takesIn K (.builtin "object.__class__") = some true) (kf4 : PySem.W.mroIn K C0 (.type "object") = some true) (xq_kf : PySem.W.kitOne K (.ref C0) (.ref C0) = some true)
    (z_all : PySem.W.nsIn K mainGlobals "all" = some none)
    (z_dict : PySem.W.nsIn K mainGlobals "dict" = some none)
    (z_enumerate : PySem.W.nsIn K mainGlobals "enumerate" = some none)
    (z_isinstance : PySem.W.nsIn K mainGlobals "isinstance" = some none)
    (z_len : PySem.W.nsIn K mainGlobals "len" = some none)
    (z_list : PySem.W.nsIn K mainGlobals "list" = some none)
    (z_range : PySem.W.nsIn K mainGlobals "range" = some none)
    (z_str : PySem.W.nsIn K mainGlobals "str" = some none)
    (z_tuple : PySem.W.nsIn K mainGlobals "tuple" = some none)
    (x0 : PySem.W.nsIn K mainGlobals "LETTERS" = some (some (.str "abcdefghijklmnopqrstuvwxyz" u0)))
    (x1 : PySem.W.nsIn K mainGlobals "LONGEST" = some (some (.int 8 u1)))
    (rdF : PySem.W.readsIn K C0 (.type "type") = true)
    (gaF : PySem.W.specialIn K (.ref C0) "__getattribute__" = some (some (.builtin "type.__getattribute__")))
    (mvF : PySem.W.findCls K (.ref C0) (.type "type") "MOST" = some (.val (.int 8 tmF))) :
    ∃ (Γ : Cn) (fd : FuncData), Γ.K = K ∧ (∀ (s : Shared) (u : Value), BindsTo s fd ⟨[u], []⟩ [("_law_script", u)]) ∧ ∀ base : Heap, K.In base → base.Ns mainGlobals mg → FnG P w K mg base CX0 6 fa fd ["_law_script"] (sp_law Γ) := by
  have e := hfa.symm.trans (PySem.W.mg_of X G a18)
  cases e
  let Γ : Cn := ⟨K, clsT C0, conT (.str "abcdefghijklmnopqrstuvwxyz") (.int 8) (.ref C0)⟩
  have e0 : Γ.con "LETTERS" = .str "abcdefghijklmnopqrstuvwxyz" := conT_LETTERS (.str "abcdefghijklmnopqrstuvwxyz") (.int 8) (.ref C0)
  have e1 : Γ.con "LONGEST" = .int 8 := conT_LONGEST (.str "abcdefghijklmnopqrstuvwxyz") (.int 8) (.ref C0)
  have e2 : Γ.con "Forest" = .ref C0 := conT_Forest (.str "abcdefghijklmnopqrstuvwxyz") (.int 8) (.ref C0)
  have g0 : Γ.cls "Forest" = some C0 := clsT_Forest C0
  have r0 : Γ.adr "Forest" = C0 := by unfold Cn.adr; rw [g0]; rfl
  have T : TxC Γ mg := ⟨by rw [e0]; exact ⟨_, PySem.W.mg_of X G x0, ⟨_, rfl⟩⟩, by rw [e1]; exact ⟨_, PySem.W.mg_of X G x1, ⟨_, rfl⟩⟩, by rw [e2]; exact ⟨_, PySem.W.mg_of X G ac0, rfl⟩⟩
  have cl0 : Cls Γ.K C0 := ⟨pg0, hd0, po0, sa0⟩
  have C : Kc Γ := ⟨fun L G => by rw [e0]; exact .str (by decide +kernel),
    fun L G => by rw [e1]; exact .int _,
    fun c A h => by
      have z := clsT_in C0 h
      subst z
      exact ⟨cl0, nf0_parents⟩,
    by rw [r0]; exact g0,
    ⟨by rw [r0]; exact g0, by rw [r0]; exact cl0, by rw [r0]; exact nf0_parents, by rw [r0]; exact e2, by rw [r0]; exact ⟨_, _, ⟨rdF, gaF⟩, ⟨mvF, ⟨_, rfl⟩⟩⟩⟩,
    by rw [r0]; exact ⟨cl0, kf1, kf2, kf3, kf4, xq_kf⟩⟩
  have B : Blt mg := ⟨PySem.W.mg_none_of X G z_all, PySem.W.mg_none_of X G z_dict, PySem.W.mg_none_of X G z_enumerate, PySem.W.mg_none_of X G z_isinstance, PySem.W.mg_none_of X G z_len, PySem.W.mg_none_of X G z_list, PySem.W.mg_none_of X G z_range, PySem.W.mg_none_of X G z_str, PySem.W.mg_none_of X G z_tuple⟩
  have F0 : Fun Γ.K "_law_begun" "_law_begun" st_law_begun _ _ := fun_mk (st := st_law_begun) l0 c0 k0
  have F1 : Fun Γ.K "_law_mixed" "_law_mixed" st_law_mixed _ _ := fun_mk (st := st_law_mixed) l1 c1 k1
  have F2 : Fun Γ.K "_law_take" "_law_take" st_law_take _ _ := fun_mk (st := st_law_take) l2 c2 k2
  have F3 : Fun Γ.K "_law_pick" "_law_pick" st_law_pick _ _ := fun_mk (st := st_law_pick) l3 c3 k3
  have F4 : Fun Γ.K "_law_words" "_law_words" st_law_words _ _ := fun_mk (st := st_law_words) l4 c4 k4
  have F5 : Fun Γ.K "_law_forest" "_law_forest" st_law_forest _ _ := fun_mk (st := st_law_forest) l5 c5 k5
  have F6 : Fun Γ.K "is_list" "is_list" st_is_list _ _ := fun_mk (st := st_is_list) l6 c6 k6
  have F7 : Fun Γ.K "is_name" "is_name" st_is_name _ _ := fun_mk (st := st_is_name) l7 c7 k7
  have F8 : Fun Γ.K "is_row" "is_row" st_is_row _ _ := fun_mk (st := st_is_row) l8 c8 k8
  have F9 : Fun Γ.K "__init__" "Forest.__init__" st_Forest_init _ _ := fun_mk (st := st_Forest_init) l9 c9 k9
  have F10 : Fun Γ.K "_law_written" "_law_written" st_law_written _ _ := fun_mk (st := st_law_written) l10 c10 k10
  have F11 : Fun Γ.K "row_of" "row_of" st_row_of _ _ := fun_mk (st := st_row_of) l11 c11 k11
  have F12 : Fun Γ.K "parse" "Forest.parse" st_Forest_parse _ _ := fun_mk (st := st_Forest_parse) l12 c12 k12
  have F13 : Fun Γ.K "text" "Forest.text" st_Forest_text _ _ := fun_mk (st := st_Forest_text) l13 c13 k13
  have F14 : Fun Γ.K "__eq__" "Forest.__eq__" st_Forest_eq _ _ := fun_mk (st := st_Forest_eq) l14 c14 k14
  have F15 : Fun Γ.K "names" "Forest.names" st_Forest_names _ _ := fun_mk (st := st_Forest_names) l15 c15 k15
  have F16 : Fun Γ.K "need_account" "Forest.need_account" st_Forest_need_account _ _ := fun_mk (st := st_Forest_need_account) l16 c16 k16
  have F17 : Fun Γ.K "ancestors" "Forest.ancestors" st_Forest_ancestors _ _ := fun_mk (st := st_Forest_ancestors) l17 c17 k17
  have F18 : Fun Γ.K "law" "law" st_law _ _ := fun_mk (st := st_law) l18 c18 k18
  refine ⟨Γ, PySem.W.fnOf "law" "law" (defArgs st_law) (defBody st_law) (defScope st_law) .none kV18 dc18 pm18 an18 cd18 ct18, rfl, fun s u => .of_eq rfl, fun base kb nb => ?_⟩
  have o_law_begun := ok_law_begun (P := P) (w := w) (base := base) B T C      F0
  have c_law_begun := cal_mk F0 (PySem.W.mg_of X G a0) (F0.binds fun _ _ _ _ _ _ us hl => match us, hl with | [_], _ => rfl) o_law_begun
  have o_law_mixed := ok_law_mixed (P := P) (w := w) (base := base) B T C      F1
  have c_law_mixed := cal_mk F1 (PySem.W.mg_of X G a1) (F1.binds fun _ _ _ _ _ _ us hl => match us, hl with | [_], _ => rfl) o_law_mixed
  have o_law_take := ok_law_take (P := P) (w := w) (base := base) B T C  c_law_mixed    F2
  have c_law_take := cal_mk F2 (PySem.W.mg_of X G a2) (F2.binds fun _ _ _ _ _ _ us hl => match us, hl with | [_, _], _ => rfl) o_law_take
  have o_law_pick := ok_law_pick (P := P) (w := w) (base := base) B T C  c_law_take    F3
  have c_law_pick := cal_mk F3 (PySem.W.mg_of X G a3) (F3.binds fun _ _ _ _ _ _ us hl => match us, hl with | [_, _], _ => rfl) o_law_pick
  have o_law_words := ok_law_words (P := P) (w := w) (base := base) B T C  c_law_pick c_law_take    F4
  have c_law_words := cal_mk F4 (PySem.W.mg_of X G a4) (F4.binds fun _ _ _ _ _ _ us hl => match us, hl with | [_, _], _ => rfl) o_law_words
  have o_law_forest := ok_law_forest (P := P) (w := w) (base := base) B T C  c_law_words c_law_take c_law_pick    F5
  have c_law_forest := cal_mk F5 (PySem.W.mg_of X G a5) (F5.binds fun _ _ _ _ _ _ us hl => match us, hl with | [_, _], _ => rfl) o_law_forest
  have o_is_list := ok_is_list (P := P) (w := w) (base := base) B T C      F6
  have c_is_list := cal_mk F6 (PySem.W.mg_of X G a6) (F6.binds fun _ _ _ _ _ _ us hl => match us, hl with | [_], _ => rfl) o_is_list
  have o_is_name := ok_is_name (P := P) (w := w) (base := base) B T C      F7
  have c_is_name := cal_mk F7 (PySem.W.mg_of X G a7) (F7.binds fun _ _ _ _ _ _ us hl => match us, hl with | [_], _ => rfl) o_is_name
  have o_is_row := ok_is_row (P := P) (w := w) (base := base) B T C  c_is_name    F8
  have c_is_row := cal_mk F8 (PySem.W.mg_of X G a8) (F8.binds fun _ _ _ _ _ _ us hl => match us, hl with | [_, _], _ => rfl) o_is_row
  have o_Forest_init := ok_Forest_init (P := P) (w := w) (base := base) B T C  c_is_list c_is_row    F9
  have c_Forest_init : CalC P w Γ.K mg base CX0 "Forest" (Γ.adr "Forest") 3 ps_Forest_init (sp_Forest_init Γ) := by
    rw [r0]
    exact ⟨f9, _, o_Forest_init, PySem.W.mg_of X G ac0, ⟨mk0, a9, i9, kc0⟩, (F9.binds fun _ _ _ _ _ _ us hl => match us, hl with | [_, _], _ => rfl)⟩
  have o_law_written := ok_law_written (P := P) (w := w) (base := base) B T C      F10
  have c_law_written := cal_mk F10 (PySem.W.mg_of X G a10) (F10.binds fun _ _ _ _ _ _ us hl => match us, hl with | [_], _ => rfl) o_law_written
  have o_row_of := ok_row_of (P := P) (w := w) (base := base) B T C  c_is_row    F11
  have c_row_of := cal_mk F11 (PySem.W.mg_of X G a11) (F11.binds fun _ _ _ _ _ _ us hl => match us, hl with | [_, _], _ => rfl) o_row_of
  have o_Forest_parse := ok_Forest_parse (P := P) (w := w) (base := base) B T C  c_row_of c_Forest_init    F12
  have c_Forest_parse : CalS P w Γ.K mg base CX0 (Γ.adr "Forest") "parse" 5 ps_Forest_parse (sp_Forest_parse Γ) := by
    rw [r0]
    exact ⟨f12, _, o_Forest_parse, ⟨rdF, gaF, ⟨_, _, a12, ra12⟩, k12⟩, (F12.binds fun _ _ _ _ _ _ us hl => match us, hl with | [_], _ => rfl)⟩
  have ck_Forest_parse_text : CalSK P w Γ.K mg base CX0 (Γ.adr "Forest") "parse" 5 ps_Forest_parse ["text"] [0] (sp_Forest_parse Γ) := by
    rw [r0]
    exact ⟨f12, _, o_Forest_parse, ⟨rdF, gaF, ⟨_, _, a12, ra12⟩, k12⟩, by decide, fun s ws hin hl => match ws, hl with | [_], _ => .of_eq rfl⟩
  have o_Forest_text := ok_Forest_text (P := P) (w := w) (base := base) B T C      F13
  have c_Forest_text : CalP P w Γ.K mg base CX0 (Γ.adr "Forest") "text" 1 ps_Forest_text (sp_Forest_text Γ) := by
    rw [r0]
    exact ⟨p13, f13, _, o_Forest_text, cl0, ⟨a13, ga13, ta13, re13, ra13⟩, (F13.binds fun _ _ _ _ _ _ us hl => match us, hl with | [_], _ => rfl)⟩
  have o_Forest_eq := ok_Forest_eq (P := P) (w := w) (base := base) B T C      F14
  have c_Forest_eq : CalE P w Γ.K mg base (Γ.adr "Forest") 1 ps_Forest_eq (sp_Forest_eq Γ) := by
    rw [r0]
    exact ⟨f14, _, o_Forest_eq, ⟨⟨_, _, _, _, _, _, _, _, _, _, _, _, _, _, eo, (by unfold PySem.W.nsOkIn; rw [en0]; exact en1), a14, ene, l14, eqc⟩⟩, (F14.binds fun _ _ _ _ _ _ us hl => match us, hl with | [_, _], _ => rfl)⟩
  have o_Forest_names := ok_Forest_names (P := P) (w := w) (base := base) B T C      F15
  have c_Forest_names : CalP P w Γ.K mg base CX0 (Γ.adr "Forest") "names" 1 ps_Forest_names (sp_Forest_names Γ) := by
    rw [r0]
    exact ⟨p15, f15, _, o_Forest_names, cl0, ⟨a15, ga15, ta15, re15, ra15⟩, (F15.binds fun _ _ _ _ _ _ us hl => match us, hl with | [_], _ => rfl)⟩
  have o_Forest_need_account := ok_Forest_need_account (P := P) (w := w) (base := base) B T C      F16
  have c_Forest_need_account : CalM P w Γ.K mg base CX0 (Γ.adr "Forest") "need_account" 1 ps_Forest_need_account (sp_Forest_need_account Γ) := by
    rw [r0]
    exact ⟨f16, _, o_Forest_need_account, cl0, ⟨a16, i16, k16⟩, (F16.binds fun _ _ _ _ _ _ us hl => match us, hl with | [_, _], _ => rfl)⟩
  have o_Forest_ancestors := ok_Forest_ancestors (P := P) (w := w) (base := base) B T C  c_Forest_need_account    F17
  have c_Forest_ancestors : CalM P w Γ.K mg base CX0 (Γ.adr "Forest") "ancestors" 2 ps_Forest_ancestors (sp_Forest_ancestors Γ) := by
    rw [r0]
    exact ⟨f17, _, o_Forest_ancestors, cl0, ⟨a17, i17, k17⟩, (F17.binds fun _ _ _ _ _ _ us hl => match us, hl with | [_, _], _ => rfl)⟩
  exact ok_law (P := P) (w := w) (base := base) B T C  c_law_begun c_law_forest c_Forest_init c_law_written c_Forest_parse c_Forest_text c_Forest_eq c_Forest_names c_Forest_ancestors ck_Forest_parse_text F18
end GP
open PySem PySem.W PyProof.Rows
set_option maxRecDepth 100000 in
set_option maxHeartbeats 0 in
theorem PySem.Challenge.cw_hearpurse_k03_whole_texts_of_forests_holds : PySem.Challenge.rw_hearpurse_k03_whole_texts_of_forests.Holds := by
  w_on; o_law; k_head; (case hw => w_witness2)
  k_fill
  refine GP.walkG (l := PySem.Challenge.rw_hearpurse_k03_whole_texts_of_forests) (k := 6) (x := "_law_script") rfl rfl ⟨rfl, by decide, by decide⟩ (fun w h Y => PySem.W.kIn_of Y) ?F
  case F =>
    intro w mg fa h KX G hmg
    refine' GP.all_mk KX G hmg ?ac0 ?pg0 ?hd0 ?po0 ?sa0 ?nf0_parents ?mk0 ?kc0 ?a0 ?l0 ?c0 ?k0 ?a1 ?l1 ?c1 ?k1 ?a2 ?l2 ?c2 ?k2 ?a3 ?l3 ?c3 ?k3 ?a4 ?l4 ?c4 ?k4 ?a5 ?l5 ?c5 ?k5 ?a6 ?l6 ?c6 ?k6 ?a7 ?l7 ?c7 ?k7 ?a8 ?l8 ?c8 ?k8 ?a9 ?i9 ?l9 ?c9 ?k9 ?a10 ?l10 ?c10 ?k10 ?a11 ?l11 ?c11 ?k11 ?a12 ?ra12 ?l12 ?c12 ?k12 ?a13 ?ga13 ?ta13 ?ra13 ?l13 ?c13 ?k13 ?eo ?en0 ?en1 ?a14 ?ene ?l14 ?c14 ?k14 ?eqc ?a15 ?ga15 ?ta15 ?ra15 ?l15 ?c15 ?k15 ?a16 ?i16 ?l16 ?c16 ?k16 ?a17 ?i17 ?l17 ?c17 ?k17 ?a18 ?l18 ?c18 ?k18 ?kf1 ?kf2 ?kf3 ?kf4 ?xq_kf ?z_all ?z_dict ?z_enumerate ?z_isinstance ?z_len ?z_list ?z_range ?z_str ?z_tuple ?x0 ?x1 ?rdF ?gaF ?mvF
    (case ac0 => k_is); (case pg0 => k_is); (case hd0 => k_is); (case po0 => k_is); (case sa0 => k_is); (case nf0_parents => k_is)
    (case mk0 => k_is); (case kc0 => k_is); (case a0 => k_is); (case l0 => k_is); (case c0 => k_is); (case k0 => k_is)
    (case a1 => k_is); (case l1 => k_is); (case c1 => k_is); (case k1 => k_is); (case a2 => k_is); (case l2 => k_is)
    (case c2 => k_is); (case k2 => k_is); (case a3 => k_is); (case l3 => k_is); (case c3 => k_is); (case k3 => k_is)
    (case a4 => k_is); (case l4 => k_is); (case c4 => k_is); (case k4 => k_is); (case a5 => k_is); (case l5 => k_is)
    (case c5 => k_is); (case k5 => k_is); (case a6 => k_is); (case l6 => k_is); (case c6 => k_is); (case k6 => k_is)
    (case a7 => k_is); (case l7 => k_is); (case c7 => k_is); (case k7 => k_is); (case a8 => k_is); (case l8 => k_is)
    (case c8 => k_is); (case k8 => k_is); (case a9 => k_is); (case i9 => k_is); (case l9 => k_is); (case c9 => k_is)
    (case k9 => k_is); (case a10 => k_is); (case l10 => k_is); (case c10 => k_is); (case k10 => k_is); (case a11 => k_is)
    (case l11 => k_is); (case c11 => k_is); (case k11 => k_is); (case a12 => k_is); (case ra12 => k_is); (case l12 => k_is)
    (case c12 => k_is); (case k12 => k_is); (case a13 => k_is); (case ga13 => k_is); (case ta13 => k_is); (case ra13 => k_is)
    (case l13 => k_is); (case c13 => k_is); (case k13 => k_is); (case eo => k_is); (case en0 => k_is); (case en1 => first | rfl | (rw [← Array.all_toList]; rfl))
    (case a14 => k_is); (case ene => k_is); (case l14 => k_is); (case c14 => k_is); (case k14 => k_is); (case eqc => first | rfl | (rw [← Array.all_toList]; rfl))
    (case a15 => k_is); (case ga15 => k_is); (case ta15 => k_is); (case ra15 => k_is); (case l15 => k_is); (case c15 => k_is)
    (case k15 => k_is); (case a16 => k_is); (case i16 => k_is); (case l16 => k_is); (case c16 => k_is); (case k16 => k_is)
    (case a17 => k_is); (case i17 => k_is); (case l17 => k_is); (case c17 => k_is); (case k17 => k_is); (case a18 => k_is)
    (case l18 => k_is); (case c18 => k_is); (case k18 => k_is); (case kf1 => k_is); (case kf2 => k_is); (case kf3 => k_is)
    (case kf4 => k_is); (case xq_kf => kit_is); (case z_all => k_is); (case z_dict => k_is); (case z_enumerate => k_is); (case z_isinstance => k_is)
    (case z_len => k_is); (case z_list => k_is); (case z_range => k_is); (case z_str => k_is); (case z_tuple => k_is); (case x0 => k_is)
    (case x1 => k_is); (case rdF => k_is); (case gaF => k_is); (case mvF => k_is)
#print axioms PySem.Challenge.cw_hearpurse_k03_whole_texts_of_forests_holds

