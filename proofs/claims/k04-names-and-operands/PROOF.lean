import PyProof.Rows.All
import Wide.All
import OpenK.AllK
import Wide.FinOn
import HandS.ForMost
import HandS.ForExc
import HandS.IsInst
import HandS.ExcInit
import HandS.ExcField
import HandS.Wide
import HandS.Flow
import HandS.Style
import HandS.Walk
import HandS.Ends
import PySem.Challenge.RW_falsedefaults_k04_names_and_operands
set_option Elab.async false
set_option linter.all false
set_option maxRecDepth 100000
set_option maxHeartbeats 4000000
namespace Z
open PySem PySem.Spec PyProof.Rows L2
abbrev St := L2.St

/-! ### operators, whatever the kinds -/
def zAdd : R2 := fun x y H Q => match x, y with
  | .int i, .int j => Q (.int (i + j)) H
  | .str i, .str j => i.length + j.length ≤ sizeLine ∧ Q (.str (i ++ j)) H
  | .ref l, .ref b => ∃ xs zs, H l = some (.lst xs) ∧ H b = some (.lst zs) ∧ xs.length + zs.length ≤ sizeLine ∧ ∀ p, H p = none → Q (.ref p) (upd H p (.lst (xs ++ zs)))
  | _, _ => False
def zSub : R2 := fun x y H Q => match x, y with
  | .int i, .int j => Q (.int (i - j)) H
  | _, _ => False
def zMul : R2 := fun x y H Q => match x, y with
  | .int i, .int j => CMul i j ∧ Q (.int (i * j)) H
  | .str x, .int n => MulOk x n ∧ Q (.str (Txt.mul x n)) H
  | .ref l, .int k => ∃ xs, H l = some (.lst xs) ∧ -(2 ^ 63) ≤ k ∧ k < 2 ^ 63 ∧ xs.length * k.toNat ≤ sizeLine ∧ ∀ p, H p = none → Q (.ref p) (upd H p (.lst (List.replicate k.toNat xs).flatten))
  | _, _ => False
def zMod : R2 := fun x y H Q => match x, y with
  | .int i, .int j => 0 < j ∧ Q (.int (i % j)) H
  | _, _ => False
def zFdiv : R2 := fun x y H Q => match x, y with
  | .int i, .int j => CDivW i j ∧ Q (.int (i / j)) H
  | _, _ => False
def zPow : R2 := fun x y H Q => match x, y with
  | .int i, .int j => CPow i j ∧ Q (.int (i ^ j.toNat)) H
  | _, _ => False
def zLt : R2 := fun x y H Q => match x, y with
  | .int i, .int j => Q (.bl (decide (i < j))) H
  | _, _ => False
def zLe : R2 := fun x y H Q => match x, y with
  | .int i, .int j => Q (.bl (decide (i ≤ j))) H
  | _, _ => False
def zGt : R2 := fun x y H Q => match x, y with
  | .int i, .int j => Q (.bl (decide (j < i))) H
  | _, _ => False
def zGe : R2 := fun x y H Q => match x, y with
  | .int i, .int j => Q (.bl (decide (j ≤ i))) H
  | _, _ => False
def zIs : R2 := fun x y H Q => y = .non ∧ Q (.bl (decide (x = .non))) H
def zIsnt : R2 := fun x y H Q => y = .non ∧ Q (.bl (!decide (x = .non))) H
/-- == of scalars of any kinds; else of data -/
def zEq (K : PySem.W.Frag) : R2 := fun x y H Q => (scal x y = true ∧ Q (.bl (decide (x = y))) H) ∨ rEqD K x y H Q
def zNe (K : PySem.W.Frag) : R2 := fun x y H Q => (scal x y = true ∧ Q (.bl (!decide (x = y))) H) ∨ rNeD K x y H Q
/-- in: one sign in a text; a flat thing in a list or a tuple -/
def zIn (K : PySem.W.Frag) : R2 := fun x y H Q => (∃ (c : Nat) (z : Str), x = .str ⟨#[c]⟩ ∧ y = .str z ∧ Q (.bl (decide (c ∈ z.cps.toList))) H) ∨ rIn K false x y H Q
def zNin (K : PySem.W.Frag) : R2 := fun x y H Q => (∃ (c : Nat) (z : Str), x = .str ⟨#[c]⟩ ∧ y = .str z ∧ Q (.bl (!decide (c ∈ z.cps.toList))) H) ∨ rIn K true x y H Q
def zIx (K : PySem.W.Frag) : R2 := fun x y H Q => match x, y with
  | .ref p, .int i => ∃ xs v, (SqL K H p xs ∨ SqT K H p xs) ∧ atI xs i = some v ∧ Q v H
  | .str z, .int i => z.length ≤ sizeLine ∧ ∃ c, atI z.cps.toList i = some c ∧ Q (.str ⟨#[c]⟩) H
  | _, _ => False
section
variable {X : Cx}
theorem op_zAdd : OpR X (binaryOp .Add) zAdd := by
  intro pins s σ H x y v u Q I rx ry h
  unfold zAdd at h
  split at h
  · exact op_add pins s σ H _ _ v u Q I rx ry ⟨_, _, rfl, rfl, h⟩
  · exact op_add_str pins s σ H _ _ v u Q I rx ry ⟨_, _, rfl, rfl, h⟩
  · obtain ⟨xs, zs, h1, h2, h3, h4⟩ := h
    exact op_cat pins s σ H _ _ v u Q I rx ry ⟨_, _, _, _, rfl, rfl, h1, h2, h3, h4⟩
  · exact h.elim
theorem op_zSub : OpR X (binaryOp .Sub) zSub := by
  intro pins s σ H x y v u Q I rx ry h
  unfold zSub at h
  split at h
  · exact op_sub pins s σ H _ _ v u Q I rx ry ⟨_, _, rfl, rfl, h⟩
  · exact h.elim
theorem op_zMul : OpR X (binaryOp .Mult) zMul := by
  intro pins s σ H x y v u Q I rx ry h
  unfold zMul at h
  split at h
  · exact op_mul pins s σ H _ _ v u Q I rx ry ⟨_, _, rfl, rfl, h.1, h.2⟩
  · obtain ⟨t, rfl⟩ := rx
    obtain ⟨t', rfl⟩ := ry
    exact SB.mul h.1 fun t2 k => ⟨.str _, H, I.tok _, ⟨_, rfl⟩, h.2⟩
  · obtain ⟨xs, h1, h2, h3, h4, h5⟩ := h
    exact op_rep pins s σ H _ _ v u Q I rx ry ⟨_, _, _, rfl, rfl, h1, h2, h3, h4, h5⟩
  · exact h.elim
theorem op_zMod : OpR X (binaryOp .Mod) zMod := by
  intro pins s σ H x y v u Q I rx ry h
  unfold zMod at h
  split at h
  · exact op_mod pins s σ H _ _ v u Q I rx ry ⟨_, _, rfl, rfl, h.1, h.2⟩
  · exact h.elim
theorem op_zFdiv : OpR X (binaryOp .FloorDiv) zFdiv := by
  intro pins s σ H x y v u Q I rx ry h
  unfold zFdiv at h
  split at h
  · exact op_fdivW pins s σ H _ _ v u Q I rx ry ⟨_, _, rfl, rfl, h.1, h.2⟩
  · exact h.elim
theorem op_zPow : OpR X (binaryOp .Pow) zPow := by
  intro pins s σ H x y v u Q I rx ry h
  unfold zPow at h
  split at h
  · exact op_pow pins s σ H _ _ v u Q I rx ry ⟨_, _, rfl, rfl, h.1, h.2⟩
  · exact h.elim
theorem op_zLt : OpR X (compareOp .Lt) zLt := by
  intro pins s σ H x y v u Q I rx ry h
  unfold zLt at h
  split at h
  · exact op_lt pins s σ H _ _ v u Q I rx ry ⟨_, _, rfl, rfl, h⟩
  · exact h.elim
theorem op_zLe : OpR X (compareOp .LtE) zLe := by
  intro pins s σ H x y v u Q I rx ry h
  unfold zLe at h
  split at h
  · exact op_le pins s σ H _ _ v u Q I rx ry ⟨_, _, rfl, rfl, h⟩
  · exact h.elim
theorem op_zGt : OpR X (compareOp .Gt) zGt := by
  intro pins s σ H x y v u Q I rx ry h
  unfold zGt at h
  split at h
  · exact op_gt pins s σ H _ _ v u Q I rx ry ⟨_, _, rfl, rfl, h⟩
  · exact h.elim
theorem op_zGe : OpR X (compareOp .GtE) zGe := by
  intro pins s σ H x y v u Q I rx ry h
  unfold zGe at h
  split at h
  · exact op_ge pins s σ H _ _ v u Q I rx ry ⟨_, _, rfl, rfl, h⟩
  · exact h.elim
theorem op_zIs : OpR X (compareOp .Is) zIs := op_isN
theorem op_zIsnt : OpR X (compareOp .IsNot) zIsnt := op_notN
theorem op_zEq (hu : X.A.units + 64 < cLine) : OpR X (compareOp .Eq) (zEq X.K) := OpR.or op_eq (op_eqD hu)
theorem op_zNe (hu : X.A.units + 64 < cLine) : OpR X (compareOp .NotEq) (zNe X.K) := OpR.or op_ne (op_neD hu)
theorem op_zIn : OpR X (compareOp .In) (zIn X.K) := OpR.or op_in_sign op_in_seq
theorem op_zNin : OpR X (compareOp .NotIn) (zNin X.K) := OpR.or op_notIn_sign op_notIn_seq
theorem ix_z : IxR X (zIx X.K) := by
  intro e1 e2 pins s σ H x y v u Q I rx ry h hs
  unfold zIx at h
  split at h
  · obtain ⟨xs, w, hq, ha, q⟩ := h
    rcases hq with hq | hq
    · exact ix_seq e1 e2 pins s σ H _ _ v u Q I rx ry (.inl ⟨_, _, _, _, rfl, rfl, hq, ha, q⟩) hs
    · exact ix_seq e1 e2 pins s σ H _ _ v u Q I rx ry (.inr (.inl ⟨_, _, _, _, rfl, rfl, hq, ha, q⟩)) hs
  · obtain ⟨hz, c, ha, q⟩ := h
    exact ix_seq e1 e2 pins s σ H _ _ v u Q I rx ry (.inr (.inr ⟨_, _, _, rfl, rfl, hz, ha, q⟩)) hs
  · exact h.elim
end
end Z
namespace Z
open PySem PySem.Spec PyProof.Rows L2

/-! ### a def's promise where no repr is running around it; anything may be raised -/
structure FnZ (P : Program) (w : World) (K : PySem.W.Frag) (mg : Str → Option Value) (base : Heap)
    (k : Nat) (f : Addr) (fd : FuncData) (ps : List Str) (sp : Sp) : Prop where
  len : ∀ vs H Q E, sp vs H Q E → vs.length = ps.length
  run : ∀ (A : Around) (outer : List Env) (s : Shared) (H : Hp) (args : Args) (us : List Value)
    (vs : List V) (Q : VK) (E : XK), Room k A → A.guards = some [] →
    Env0 P w K mg base A outer s H → BindsTo s fd args (ps.zip us) → Vals vs us → sp vs H Q E →
    codeAny (model P w) A (.call (.ref f) args) (CR (L2.CX P w) outer P w H s Q E) s
section
variable {P : Program} {w : World} {K : PySem.W.Frag} {mg : Str → Option Value} {base : Heap} {f : Addr} {fd : FuncData} {ps : List Str} {sp sp' : Sp}
theorem FnZ.mono {j k : Nat} (F : FnZ P w K mg base j f fd ps sp) (h : j ≤ k) : FnZ P w K mg base k f fd ps sp :=
  ⟨F.len, fun A outer s H args us vs Q E hr => F.run A outer s H args us vs Q E (hr.mono h)⟩
theorem FnZ.imp {k : Nat} (F : FnZ P w K mg base k f fd ps sp) (h : ∀ vs H Q E, sp' vs H Q E → sp vs H Q E) : FnZ P w K mg base k f fd ps sp' :=
  ⟨fun vs H Q E q => F.len vs H Q E (h _ _ _ _ q), fun A outer s H args us vs Q E hr hg he hb hv hs =>
    F.run A outer s H args us vs Q E hr hg he hb hv (h _ _ _ _ hs)⟩
end
theorem guards_make {A : Around} {C : Addr} {us : List Value} {kw : List (Str × Value)} (h : A.guards = some []) :
    (A.under (.builtin "type.__call__" ⟨.ref C :: us, kw⟩)).guards = some [] := by
  simp [Around.under, Code.guards, Code.isGuard, guardIds, pushGuards, h]

section
variable {P : Program} {w : World} {K : PySem.W.Frag} {mg : Str → Option Value} {base : Heap}
/-- a def by its body -/
theorem okZ {x qual : Str} {st : Stmt} {f : Addr} {fd : FuncData} {N ps : List Str} {k : Nat} {sp : Sp} (F : Fun K x qual st f fd)
    (S : FnScope N ps (defScope st)) (len : ∀ vs H Q E, sp vs H Q E → vs.length = ps.length)
    (hbody : ∀ (cdv : Value) (A : Around) (outer : List Env) (s : Shared) (H : Hp) (vs : List V) (Q : VK) (E : XK),
      Room k (A.deeper (envOfC qual (defScope st) s.heap.objs.size f cdv)) →
      (A.deeper (envOfC qual (defScope st) s.heap.objs.size f cdv)).guards = some [] → sp vs H Q E →
      ∃ t, PSs (cxOf (L2.CX P w) P w K mg base N qual (defScope st) f cdv A outer s H E) (defBody st) t ∧
        t { nx := fun _ H' => Q .non H', rt := Q } (start N vs) H) :
    FnZ P w K mg base (k + 1) f fd ps sp := by
  obtain ⟨oc, od, kV, doc, pm, an, cdv, ct, osl, rfl, lk, hcd⟩ := F.ex
  refine ⟨len, fun A outer s H args us vs Q E hr hgu e0 hb r hsp => ?_⟩
  have hl := len _ _ _ _ hsp
  have KX : K.In s.heap := e0.mod.kin.keeps fun b o z => (e0.bs b o z).1
  have lim : s.heap.NoLimit := e0.mod.nolimit.keeps fun b o z => (e0.bs b o z).1
  have hkind : ∀ y ∈ ps.zip us, (defScope st).names.lookup y.1 = some .local ∨
      ((defScope st).names.lookup y.1 = some .cell ∧ ((cellsFrom (s.heap.objs.size + 1) (defScope st).names []).lookup y.1).isSome = true) := by
    intro y hy
    obtain ⟨n, v⟩ := y
    rcases S.par n (List.of_mem_zip hy).1 with q | q
    · exact .inl q
    · exact .inr ⟨q, PySem.W.cellsFrom_some _ _ _ (.inl q)⟩
  refine codeAny_call_function hr.depth (KX _ _ lk) rfl S.co S.gen rfl (PySem.W.codeRec_of KX hcd) (hb _ _ _ _ ?_)
  refine wpAny_newFunctionEnv_cells S.kind hkind fun env he s1 x => ?_
  subst he
  refine ⟨lim.keeps x.toInCall.keep, codeAny_func ?_⟩
  obtain ⟨t, ht, hq⟩ := hbody cdv A outer s H vs Q E (hr.deeper _) hgu hsp
  have I := inv_start (CX := L2.CX P w) (E := E) S hr.hd e0 hl r x
  refine wpAny_mono (ht.run [] s1 (start N vs) H _ I hq) (fun fl s' hs => ?_) fun e s' hs => hs
  cases fl with
  | ret u =>
    obtain ⟨v, σ', H', J, rv, q⟩ := hs
    exact ⟨v, H', J.os, J.bare, J.base, J.hok, rv, q⟩
  | next =>
    obtain ⟨σ', H', J, q⟩ := hs
    exact ⟨V.non, H', J.os, J.bare, J.base, J.hok, rfl, q⟩
  | brk => exact False.elim hs.choose_spec.choose_spec.2
  | cont => exact False.elim hs.choose_spec.choose_spec.2
end

/-! ### calls of such defs -/
theorem passE0 {X : Cx} (σ : St) : PassesAt (L2.CX X.prog X.w) X σ E0 := fun pins H s e s' I h => passL pins σ H s e s' I h
def zCall (sp : Sp) (dvs : List V) (E : St → XK) (t : TA) : TE := fun σ H Q => t σ H fun vs H1 => sp (vs ++ dvs) H1 Q (E σ)
def zMeth (C : Addr) (m : Str) (sp : Sp) (dvs : List V) (E : St → XK) (ta : TE) (t : TA) : TE := fun σ H Q =>
  ta σ H fun x H1 => ∃ a dx fs, x = .ref a ∧ H1 a = some (.ins C dx fs) ∧ fs.lookup m = none ∧
    t σ H1 fun vs H2 => sp (x :: (vs ++ dvs)) H2 Q (E σ)
def zMake (C : Addr) (sp : Sp) (dvs : List V) (E : St → XK) (t : TA) : TE := fun σ H Q =>
  t σ H fun vs H1 => ∀ x dx, H1 x = none → H1 dx = none → dx ≠ x →
    sp (.ref x :: (vs ++ dvs)) (upd (upd H1 dx (.own x)) x (.ins C dx [])) (fun v H2 => v = .non ∧ Q (.ref x) H2) (E σ)
section
variable {X : Cx} {k : Nat} {f C : Addr} {fd : FuncData} {ps : List Str} {sp : Sp} {dvs : List V} {ds : List Value} {E : St → XK} {x m : Str}
  {p pos apos : Pos} {e o : Expr} {es : List Expr} {ta : TE} {t : TA}
theorem run_fnZ {pins : List (Addr × Obj)} {σ : St} {H : Hp} {s : Shared} {Q : VK} {us : List Value} {vs : List V}
    (F : FnZ X.prog X.w X.K X.mg X.base k f fd ps sp) (hr : Room k X.A) (hgu : X.A.guards = some []) (hb : Binds X.K fd ps ds) (hd : Vals dvs ds)
    (hx : PassesAt (L2.CX X.prog X.w) X σ (E σ)) (I : Inv X pins σ H s) (r : Vals vs us) (h : sp (vs ++ dvs) H Q (E σ)) :
    wpAny (model X.prog X.w) X.A (call (.ref f) us) (EP X pins σ Q) X.xe s := by
  have r2 : Vals (vs ++ dvs) (us ++ ds) := r.append hd
  have hl : (us ++ ds).length = ps.length := r2.length.symm.trans (F.len _ _ _ _ h)
  refine wpAny_call (codeAny_mono (F.run X.A X.stack s H ⟨us, []⟩ (us ++ ds) (vs ++ dvs) Q (E σ) hr hgu I.env0 (hb s us I.kIn hl) r2 h) fun r s' hq => ?_)
  rcases r with er | fl
  · exact hx pins H s er s' I hq
  · cases fl with
    | ret u => exact I.after hq
    | next => exact hq.elim
    | brk => exact hq.elim
    | cont => exact hq.elim
/-- f(e, ..) -/
theorem pe_callZ (F : FnZ X.prog X.w X.K X.mg X.base k f fd ps sp) (hr : Room k X.A) (hgu : X.A.guards = some []) (hg : Gl X x) (hm : X.mg x = some (.ref f))
    (hk : PySem.W.keepIn X.K (.ref f) = true) (hb : Binds X.K fd ps ds) (hd : Vals dvs ds) (hx : ∀ σ, PassesAt (L2.CX X.prog X.w) X σ (E σ))
    (ha : PA X (e :: es) t) (hdb : (x == ("__debug__" : Str)) = false := by decide)
    (he : starEach (e :: es) X.env = (false, eval e X.env) :: starEach es X.env := by rfl) (hpl : (backTo pos (starEach es X.env)).any (·.1) = false := by rfl) :
    PE X (.Call (.Name x p) (e :: es) [] pos) (zCall sp dvs E t) := by
  constructor
  intro pins s σ H Q I h
  refine wpAny_Call_Name_kw (ld_glob I hg hm ?_ hdb)
  refine PySem.W.callWith_K (h₀ := X.base) I.ok.mod.kin hk (thn (ha.run pos pins s σ H _ I h) ?_) he hpl
  rintro us s1 ⟨vs, H1, I1, r, q⟩
  exact ⟨I1.kIn, run_fnZ F hr hgu hb hd (hx σ) I1 r q⟩
theorem pe_callZ0 (F : FnZ X.prog X.w X.K X.mg X.base k f fd ps sp) (hr : Room k X.A) (hgu : X.A.guards = some []) (hg : Gl X x) (hm : X.mg x = some (.ref f))
    (hk : PySem.W.keepIn X.K (.ref f) = true) (hb : Binds X.K fd ps ds) (hd : Vals dvs ds) (hx : ∀ σ, PassesAt (L2.CX X.prog X.w) X σ (E σ))
    (hdb : (x == ("__debug__" : Str)) = false := by decide) : PE X (.Call (.Name x p) [] [] pos) (zCall sp dvs E tNil) := by
  constructor
  intro pins s σ H Q I h
  refine wpAny_Call_Name_kw (ld_glob I hg hm ?_ hdb)
  exact PySem.W.callWith_K0 I.kIn hk (run_fnZ (us := []) F hr hgu hb hd (hx σ) I .nil h)
theorem run_makeZ {pins : List (Addr × Obj)} {σ : St} {H : Hp} {s : Shared} {Q : VK} {us : List Value} {vs : List V} (M : Mk X.K C f)
    (F : FnZ X.prog X.w X.K X.mg X.base k f fd ps sp) (hr : Room (k + 1) X.A) (hgu : X.A.guards = some []) (hb : Binds X.K fd ps ds) (hd : Vals dvs ds)
    (hx : PassesAt (L2.CX X.prog X.w) X σ (E σ)) (I : Inv X pins σ H s) (r : Vals vs us)
    (h : ∀ x dx, H x = none → H dx = none → dx ≠ x → sp (.ref x :: (vs ++ dvs)) (upd (upd H dx (.own x)) x (.ins C dx [])) (fun v H2 => v = .non ∧ Q (.ref x) H2) (E σ)) :
    wpAny (model X.prog X.w) X.A (call (.ref C) us) (EP X pins σ Q) X.xe s := by
  have n0 := I.hok.fresh (Nat.le_refl s.heap.objs.size)
  have n1 := I.hok.fresh (Nat.le_succ s.heap.objs.size)
  have hq := h _ _ n1 n0 (Nat.ne_of_lt (Nat.lt_succ_self _))
  have I2 := Inv.made (C := C) I
  have r2 : Vals (V.ref (s.heap.objs.size + 1) :: (vs ++ dvs)) (Value.ref (s.heap.objs.size + 1) :: (us ++ ds)) := .cons rfl (r.append hd)
  have hl : (Value.ref (s.heap.objs.size + 1) :: us ++ ds).length = ps.length := (r2.length.symm.trans (F.len _ _ _ _ hq))
  refine wpAny_call (make_map (f := f) I.kIn M.makes M.init (beq_iff_eq.mp M.fn) (codeAny_mono (F.run _ X.stack _ _ ⟨Value.ref (s.heap.objs.size + 1) :: us, []⟩ _ _ _ (E σ) (hr.make C us [])
    (guards_make hgu) (I2.env0.make C us []) (hb _ (Value.ref (s.heap.objs.size + 1) :: us) I2.kIn hl) r2 hq) fun r s' hq' => ?_))
  rcases r with er | fl
  · exact hx pins _ _ er s' I2 hq'
  · cases fl with
    | ret u =>
      obtain ⟨v, H', I3, rv, ev, q3⟩ := I2.after hq'
      subst ev
      exact ⟨rv, ⟨V.ref (s.heap.objs.size + 1), H', I3, rfl, q3⟩⟩
    | next => exact hq'.elim
    | brk => exact hq'.elim
    | cont => exact hq'.elim
/-- C(e, ..) -/
theorem pe_makeZ (M : Mk X.K C f) (F : FnZ X.prog X.w X.K X.mg X.base k f fd ps sp) (hr : Room (k + 1) X.A) (hgu : X.A.guards = some []) (hg : Gl X x)
    (hm : X.mg x = some (.ref C)) (hb : Binds X.K fd ps ds) (hd : Vals dvs ds) (hx : ∀ σ, PassesAt (L2.CX X.prog X.w) X σ (E σ)) (ha : PA X (e :: es) t)
    (hdb : (x == ("__debug__" : Str)) = false := by decide)
    (he : starEach (e :: es) X.env = (false, eval e X.env) :: starEach es X.env := by rfl) (hpl : (backTo pos (starEach es X.env)).any (·.1) = false := by rfl) :
    PE X (.Call (.Name x p) (e :: es) [] pos) (zMake C sp dvs E t) := by
  constructor
  intro pins s σ H Q I h
  refine wpAny_Call_Name_kw (ld_glob I hg hm ?_ hdb)
  refine PySem.W.callWith_K (h₀ := X.base) I.ok.mod.kin M.kp (thn (ha.run pos pins s σ H _ I h) ?_) he hpl
  rintro us s1 ⟨vs, H1, I1, r, q⟩
  exact ⟨I1.kIn, run_makeZ M F hr hgu hb hd (hx σ) I1 r q⟩
theorem pe_makeZ0 (M : Mk X.K C f) (F : FnZ X.prog X.w X.K X.mg X.base k f fd ps sp) (hr : Room (k + 1) X.A) (hgu : X.A.guards = some []) (hg : Gl X x)
    (hm : X.mg x = some (.ref C)) (hb : Binds X.K fd ps ds) (hd : Vals dvs ds) (hx : ∀ σ, PassesAt (L2.CX X.prog X.w) X σ (E σ))
    (hdb : (x == ("__debug__" : Str)) = false := by decide) :
    PE X (.Call (.Name x p) [] [] pos) (zMake C sp dvs E tNil) := by
  constructor
  intro pins s σ H Q I h
  refine wpAny_Call_Name_kw (ld_glob I hg hm ?_ hdb)
  exact PySem.W.callWith_K0 I.kIn M.kp (run_makeZ (us := []) M F hr hgu hb hd (hx σ) I .nil h)
/-- o.m(e, ..) -/
theorem pe_methZ {pl : Sem Bool} (he : PE X o ta) (c : Cls X.K C) (hm : Meth X.K C m f) (F : FnZ X.prog X.w X.K X.mg X.base k f fd ps sp)
    (hr : Room k X.A) (hgu : X.A.guards = some []) (hb : Binds X.K fd ps ds) (hd : Vals dvs ds) (hx : ∀ σ, PassesAt (L2.CX X.prog X.w) X σ (E σ)) (ha : PA X (e :: es) t)
    (hst : starEach (e :: es) X.env = (false, eval e X.env) :: starEach es X.env := by rfl) (hpl : (backTo pos (starEach es X.env)).any (·.1) = false := by rfl)
    (ht : eval (.Call (.Attribute o m apos) (e :: es) [] pos) X.env = (do
      let ow ← eval o X.env
      standAt apos.atName
      let (g, first) ← holding [ow] (getMethod ow m pl)
      callWith pos g first (backTo pos (starEach (e :: es) X.env)) (backToKw pos (keywordEach [] X.env))) := by rfl) :
    PE X (.Call (.Attribute o m apos) (e :: es) [] pos) (zMeth C m sp dvs E ta t) := by
  constructor
  intro pins s σ H Q I h
  refine PySem.W.methodCall_KW (pl := pl) (thn (he.run pins s σ H _ I h) ?_) ht
  rintro u s1 ⟨x, H1, I1, rx, a, dx, fs, rfl, ea, l, q⟩
  obtain rfl : u = Value.ref a := rx
  refine getmeth_ok I1 ea c hm l ?_
  refine PySem.W.callWith_K (first := [.ref a]) (h₀ := X.base) I.ok.mod.kin hm.kp (thn (ha.run pos pins s1 σ H1 _ I1 q) ?_) hst hpl
  rintro us s2 ⟨vs, H2, I2, r, q2⟩
  exact ⟨I2.kIn, run_fnZ (us := .ref a :: us) (vs := .ref a :: vs) F hr hgu hb hd (hx σ) I2 (.cons rfl r) q2⟩
theorem pe_methZ0 {pl : Sem Bool} (he : PE X o ta) (c : Cls X.K C) (hm : Meth X.K C m f) (F : FnZ X.prog X.w X.K X.mg X.base k f fd ps sp)
    (hr : Room k X.A) (hgu : X.A.guards = some []) (hb : Binds X.K fd ps ds) (hd : Vals dvs ds) (hx : ∀ σ, PassesAt (L2.CX X.prog X.w) X σ (E σ))
    (ht : eval (.Call (.Attribute o m apos) [] [] pos) X.env = (do
      let ow ← eval o X.env
      standAt apos.atName
      let (g, first) ← holding [ow] (getMethod ow m pl)
      callWith pos g first (backTo pos (starEach [] X.env)) (backToKw pos (keywordEach [] X.env))) := by rfl) :
    PE X (.Call (.Attribute o m apos) [] [] pos) (zMeth C m sp dvs E ta tNil) := by
  constructor
  intro pins s σ H Q I h
  refine PySem.W.methodCall_KW (pl := pl) (thn (he.run pins s σ H _ I h) ?_) ht
  rintro u s1 ⟨x, H1, I1, rx, a, dx, fs, rfl, ea, l, q⟩
  obtain rfl : u = Value.ref a := rx
  refine getmeth_ok I1 ea c hm l ?_
  exact PySem.W.callWith_K0 (first := [.ref a]) I1.kIn hm.kp (run_fnZ (us := [.ref a]) (vs := [.ref a]) F hr hgu hb hd (hx σ) I1 (.cons rfl .nil) q)

/-! ### an own exception over ValueError, its __init__ a def -/
/-- C(e, ..) that is raised -/
def zMkO (C : Addr) (sp : Sp) (ta : TA) : St → Hp → XK → Prop := fun σ H Q =>
  ta σ H fun vs H1 => vs.length ≤ 1000 ∧ ∀ a, H1 a = none → sp (.ref a :: vs) (upd H1 a (exo a C none))
    (fun v H2 => v = .non ∧ ∃ (d : Addr) (fs : List (Str × V)), H2 a = some (exo a C (some d)) ∧ H2 d = some (exd d fs) ∧ H1 d = none ∧ Q (.ref C) (some d) (upd (del H2 a) d (.xd fs))) E0
theorem pmk_Z {fI : Addr} (T : OexC X.K C) (iC : PySem.W.findIn X.K (.ref C) "__init__" = some (some (.ref fI))) (tI : PySem.W.typeIn X.K (.ref fI) = some (.type "function"))
    (F : FnZ X.prog X.w X.K X.mg X.base k fI fd ps sp) (hr : Room (k + 1) X.A) (hgu : X.A.guards = some []) (hb : Binds X.K fd ps []) (hg : Gl X x)
    (hm : X.mg x = some (.ref C)) (ha : PA X (e :: es) t) (hdb : (x == ("__debug__" : Str)) = false := by decide)
    (he : starEach (e :: es) X.env = (false, eval e X.env) :: starEach es X.env := by rfl) (hpl : (backTo pos (starEach es X.env)).any (·.1) = false := by rfl) :
    PMk X (.Call (.Name x p) (e :: es) [] pos) (zMkO C sp t) := by
  intro pins s σ H Q I h
  obtain ⟨nm, q, N, bs, bm, sn, sub, ab, col, dd, k0, k1, k2, k3, k5, hC, hbm⟩ := T.cls
  refine wpAny_Call_Name_kw (ld_glob I hg hm ?_ hdb)
  refine PySem.W.callWith_K (h₀ := X.base) I.ok.mod.kin T.kC (thn (ha.run pos pins s σ H _ I h) ?_) he hpl
  rintro us s1 ⟨vs, H1, I1, r1, hz, q1⟩
  refine ⟨I1.kIn, ?_⟩
  show wpAny _ _ (call (.ref C) us) _ _ _
  obtain ⟨hp, g, dr, tk, os⟩ := s1
  have hsz : hp.objs.size ≤ hp.objs.size + 1 := Nat.le_succ _
  have hq := q1 (hp.objs.size + 1) (I1.hok.fresh hsz)
  have kk : ∀ b o, hp.get? b = some o → ((hp.push (PySem.W.kdv_tup us)).push (PySem.HandSPX.excO C hp.objs.size)).get? b = some o :=
    fun b o z => Heap.get?_push_of_some _ (Heap.get?_push_of_some _ z)
  have hget : ((hp.push (PySem.W.kdv_tup us)).push (PySem.HandSPX.excO C hp.objs.size)).get? (hp.objs.size + 1) =
      some (PySem.HandSPX.excO C hp.objs.size) := by heap_get
  have I2 := I1.laid (t' := tk) (a := hp.objs.size + 1) (o := exo (hp.objs.size + 1) C none)
    (h' := (hp.push (PySem.W.kdv_tup us)).push (PySem.HandSPX.excO C hp.objs.size)) kk hsz (exo_ok hget)
  have r2 : Vals (V.ref (hp.objs.size + 1) :: vs) (Value.ref (hp.objs.size + 1) :: us) := .cons rfl r1
  have hl : (Value.ref (hp.objs.size + 1) :: us).length = ps.length := r2.length.symm.trans (F.len _ _ _ _ hq)
  have hus : us.length ≤ sizeLine := by
    rw [← Paired.length r1, sizeLine_eq]
    omega
  have bb := hb ⟨(hp.push (PySem.W.kdv_tup us)).push (PySem.HandSPX.excO C hp.objs.size), g, dr, tk, os⟩ (Value.ref (hp.objs.size + 1) :: us) I2.kIn (by rw [List.append_nil]; exact hl)
  rw [List.append_nil] at bb
  refine wpAny_call (PySem.HandSPX.call_own PySem.F.excBase_ValueError (fun Y => PySem.HandSPX.refsVE_contains Y bm hbm) (I1.kIn _ _ hC)
    (PySem.W.looks_findIn I1.kIn iC) (fun self => PySem.W.bind_fn I1.kIn self tI) hus
    (codeAny_mono (F.run _ X.stack _ _ ⟨Value.ref (hp.objs.size + 1) :: us, []⟩ _ _ _ E0 (hr.make C us []) (guards_make hgu) (I2.env0.make C us []) bb r2 hq) fun r s' hq' => ?_))
  rcases r with er | fl
  · exact (show False by
      obtain ⟨_, _, _, _, _, _, _, _, _, _, _, _, z⟩ := hq'
      exact z).elim
  · cases fl with
    | ret u =>
      obtain ⟨v, H2, os2, bare2, un2, hok2, rv, ev, d, fs, ea, ed, hd1, q2⟩ := hq'
      subst ev
      obtain ⟨h2, g2, d2, t2, os'⟩ := s'
      exact ⟨rv, mk_end (raises_own T.exC T.tyC) I1 hsz kk un2 hok2 os2 bare2 ea ed hd1 q2⟩
    | next => exact hq'.elim
    | brk => exact hq'.elim
    | cont => exact hq'.elim
end
end Z
namespace Z
open PySem PySem.Spec PyProof.Rows L2

/-! ### isinstance by a built-in class -/
def knC (c : String) : Bool := c == "int" || c == "str" || c == "bool" || c == "list" || c == "tuple" || c == "dict"
/-- the kind of an object -/
def TyR (K : PySem.W.Frag) (H : Hp) (a : Addr) (t : String) : Prop :=
  (t = "list" ∧ ∃ xs, SqL K H a xs) ∨ (t = "tuple" ∧ ∃ xs, SqT K H a xs) ∨ (t = "dict" ∧ ((∃ kvs, H a = some (.dK kvs)) ∨ ∃ kvs, H a = some (.dT kvs)))
def zIsi (K : PySem.W.Frag) : List V → Hp → VK → Prop := fun xs H Q => match xs with
  | [.non, .ty c] => knC c = true ∧ Q (.bl false) H
  | [.bl _, .ty c] => knC c = true ∧ Q (.bl (c == "bool" || c == "int")) H
  | [.int _, .ty c] => knC c = true ∧ Q (.bl (c == "int")) H
  | [.str _, .ty c] => knC c = true ∧ Q (.bl (c == "str")) H
  | [.ref a, .ty c] => knC c = true ∧ ∃ t, TyR K H a t ∧ Q (.bl (c == t)) H
  | _ => False
theorem knC_cases {c : String} (h : knC c = true) : c = "int" ∨ c = "str" ∨ c = "bool" ∨ c = "list" ∨ c = "tuple" ∨ c = "dict" := by
  simpa [knC, or_assoc] using h
theorem TyR.ty {K : PySem.W.Frag} {H : Hp} {a : Addr} {t : String} (h : TyR K H a t) : TyX K H (.ref a) (.type t) ∧ (t = "list" ∨ t = "tuple" ∨ t = "dict") := by
  rcases h with ⟨rfl, xs, (h | ⟨o, h⟩) | ⟨o, its, n, h, h2, _⟩⟩ | ⟨rfl, xs, (h | ⟨o, h⟩) | ⟨o, its, n, h, h2, _⟩⟩ | ⟨rfl, ⟨kvs, h⟩ | ⟨kvs, h⟩⟩
  · exact ⟨.base (.lst h), .inl rfl⟩
  · exact ⟨.base (.frz h), .inl rfl⟩
  · exact ⟨.kList h h2, .inl rfl⟩
  · exact ⟨.base (.tup h), .inr (.inl rfl)⟩
  · exact ⟨.fTuple h, .inr (.inl rfl)⟩
  · exact ⟨.kTuple h h2, .inr (.inl rfl)⟩
  · exact ⟨.base (.dK h), .inr (.inr rfl)⟩
  · exact ⟨.base (.dT h), .inr (.inr rfl)⟩
theorem kit_tab (t c : String) (ht : t = "NoneType" ∨ t = "bool" ∨ t = "int" ∨ t = "str" ∨ t = "list" ∨ t = "tuple" ∨ t = "dict") (hc : knC c = true) :
    kitB t c = some (c == t || (c == "int" && t == "bool")) := by
  rcases ht with rfl | rfl | rfl | rfl | rfl | rfl | rfl <;> rcases knC_cases hc with rfl | rfl | rfl | rfl | rfl | rfl <;> decide +kernel
section
variable {X : Cx}
theorem call_isiZ : CallR X (.builtin "isinstance") (zIsi X.K) := by
  intro pins s σ H xs us Q I r h
  have go : ∀ (x : V) (c t : String), xs = [x, .ty c] → knC c = true → TyX X.K H x (.type t) →
      (t = "NoneType" ∨ t = "bool" ∨ t = "int" ∨ t = "str" ∨ t = "list" ∨ t = "tuple" ∨ t = "dict") →
      Q (.bl (c == t || (c == "int" && t == "bool"))) H → wpAny (model X.prog X.w) X.A (PySem.call (.builtin "isinstance") us) (EP X pins σ Q) X.xe s :=
    fun x c t e hc ty ht q => call_isi pins s σ H xs us Q I r ⟨x, .ty c, .type t, .type c, _, e, .ty c, ty, kit_ty (kit_tab t c ht hc), q⟩
  unfold zIsi at h
  split at h
  · rename_i c
    refine go _ c "NoneType" rfl h.1 (.base .non) (by simp) ?_
    have e : (c == "NoneType" || (c == "int" && "NoneType" == "bool")) = false := by rcases knC_cases h.1 with rfl | rfl | rfl | rfl | rfl | rfl <;> decide
    rw [e]; exact h.2
  · rename_i b c
    refine go _ c "bool" rfl h.1 (.base (.bl b)) (by simp) ?_
    have e : (c == "bool" || (c == "int" && "bool" == "bool")) = (c == "bool" || c == "int") := by rcases knC_cases h.1 with rfl | rfl | rfl | rfl | rfl | rfl <;> decide
    rw [e]; exact h.2
  · rename_i i c
    refine go _ c "int" rfl h.1 (.base (.int i)) (by simp) ?_
    have e : (c == "int" || (c == "int" && "int" == "bool")) = (c == "int") := by rcases knC_cases h.1 with rfl | rfl | rfl | rfl | rfl | rfl <;> decide
    rw [e]; exact h.2
  · rename_i z c
    refine go _ c "str" rfl h.1 (.base (.str z)) (by simp) ?_
    have e : (c == "str" || (c == "int" && "str" == "bool")) = (c == "str") := by rcases knC_cases h.1 with rfl | rfl | rfl | rfl | rfl | rfl <;> decide
    rw [e]; exact h.2
  · rename_i a c
    obtain ⟨hc, t, ty, q⟩ := h
    obtain ⟨ty, ht⟩ := ty.ty
    refine go _ c t rfl hc ty (by rcases ht with rfl | rfl | rfl <;> simp) ?_
    have e : (c == t || (c == "int" && t == "bool")) = (c == t) := by
      rcases ht with rfl | rfl | rfl <;> rcases knC_cases hc with rfl | rfl | rfl | rfl | rfl | rfl <;> decide
    rw [e]; exact q
  · exact h.elim
end

/-! ### repr of data -/
/-- a flat thing as data -/
def flatD : V → Option PyData
  | .non => some .none | .bl b => some (.bool b) | .int i => some (.int i) | .str x => some (.str x) | _ => none
theorem flatD_reads {h : Heap} {v : V} {u : Value} {d : PyData} (e : flatD v = some d) (r : RelV v u) : Reads h u d [] := by
  cases v <;> simp [flatD] at e <;> subst e
  · cases r; exact .none
  · cases r; exact .bool _
  · obtain ⟨t, rfl⟩ := r; exact .int _ _
  · obtain ⟨t, rfl⟩ := r; exact .str _ _
def keyD : Key → PyData
  | .inl i => .int i
  | .inr x => .str x
/-- data without dicts, or a dict of flat things -/
def DpR (K : PySem.W.Frag) (H : Hp) (x : V) (d : PyData) : Prop :=
  (Dp K H x d ∧ d.hasDict = false) ∨ ∃ a kvs kds, x = .ref a ∧ H a = some (.dK kvs) ∧ d = .dict kds ∧
    Paired (fun (p : Key × V) (q : PyData × PyData) => keyD p.1 = q.1 ∧ flatD p.2 = some q.2) kvs kds
theorem dict_reads {P : Program} {w : World} {h : Heap} {es : List DictEntry} {vs : List (Key × Value)} (hp : Pairs (mixKind P w) es vs) :
    ∀ {kvs : List (Key × V)} {kds : List (PyData × PyData)}, KV kvs vs → Paired (fun (p : Key × V) (q : PyData × PyData) => keyD p.1 = q.1 ∧ flatD p.2 = some q.2) kvs kds →
      ReadsAll h (es.map (·.key)) (kds.map (·.1)) [] ∧ ReadsAll h (es.map (·.val)) (kds.map (·.2)) [] := by
  induction hp with
  | nil =>
    intro kvs kds r q
    cases r
    cases q
    exact ⟨.nil, .nil⟩
  | cons h1 hv _ ih =>
    intro kvs kds r q
    cases r with
    | cons r1 r2 =>
      cases q with
      | cons q1 q2 =>
        obtain ⟨i1, i2⟩ := ih r2 q2
        obtain ⟨e1, rv⟩ := r1
        obtain ⟨e2, e3⟩ := q1
        rename_i en kv es' kvs' hpp p ps q qs
        have k1 : Reads h en.key q.1 [] := by
          rw [← e2, e1]
          rcases keyIs_shape h1 with ⟨i, t, ek, ev⟩ | ⟨x, t, ek, ev⟩
          · rw [ek, ev]
            exact .int _ _
          · rw [ek, ev]
            exact .str _ _
        have k2 : Reads h en.val q.2 [] := by
          rw [hv]
          exact flatD_reads e3 rv
        exact ⟨ReadsAll.cons (as := []) (bs := []) k1 i1, ReadsAll.cons (as := []) (bs := []) k2 i2⟩
section
variable {X : Cx} {pins : List (Addr × Obj)} {σ : St} {H : Hp} {s : Shared}
theorem DpR.reads (I : Inv X pins σ H s) {d : PyData} {v : V} {u : Value} (h : DpR X.K H v d) (r : RelV v u) : ∃ as, Reads s.heap u d as ∧ (d.hasDict = true → sysModules ∉ as) := by
  rcases h with ⟨h, hd⟩ | ⟨a, kvs, kds, rfl, ha, rfl, hp⟩
  · obtain ⟨as, q⟩ := Dp.reads I d v u h r
    exact ⟨as, q, fun z => by rw [hd] at z; exact absurd z Bool.false_ne_true⟩
  · cases r
    obtain ⟨_, hy, vs, rv, o, es, ep, e1, e2, e3, _, e5, _⟩ := (show ObjOk X.prog X.w H s.heap a (.dK kvs) from I.hok a _ ha)
    obtain ⟨r1, r2⟩ := dict_reads (h := s.heap) e5 rv hp
    refine ⟨_, Reads.dict e1 e2.1 e3 r1 r2, fun _ z => ?_⟩
    have z' : sysModules = a := by simpa using z
    rw [z'] at hy
    simp at hy
def zRepr (K : PySem.W.Frag) : List V → Hp → VK → Prop := fun xs H Q => ∃ x d, xs = [x] ∧ DpR K H x d ∧ d.showable = true ∧ d.depth ≤ 32 ∧ d.shown.length ≤ sizeLine ∧ Q (.str d.shown) H
theorem call_reprZ (hg : X.A.guards = some []) (hu : X.A.units + 64 < cLine) : CallR X (.builtin "repr") (zRepr X.K) := by
  intro pins s σ H xs us Q I r h
  obtain ⟨x, d, rfl, hd, hs, hdp, hz, q⟩ := h
  obtain ⟨u, rfl, ru⟩ := vals1 r
  obtain ⟨as, hr, hsm⟩ := hd.reads I ru
  cases hr with
  | none => exact PySem.P.repr_of_none ⟨.str _, H, I.tok _, ⟨_, rfl⟩, q⟩
  | bool b => exact PySem.P.repr_of_bool ⟨.str _, H, I.tok _, ⟨_, rfl⟩, q⟩
  | int i t => exact PySem.P.repr_of_int (by simpa [PyData.showable] using hs) ⟨.str _, H, I.tok _, ⟨_, rfl⟩, q⟩
  | str y t => exact PySem.P.repr_of_str ⟨.str _, H, I.tok _, ⟨_, rfl⟩, q⟩ (by simpa only [PyData.shown] using hz)
  | list h1 h2 h3 h4 =>
    exact PySem.repr_of_reads' (.list h1 h2 h3 h4) hs hsm hg (by omega) (fun _ _ z => z) (fun h' u tk hk => ⟨.str _, H, I.kept (t' := tk) hk, ⟨_, rfl⟩, q⟩) hz
  | tuple h1 h2 h3 h4 =>
    exact PySem.repr_of_reads' (.tuple h1 h2 h3 h4) hs hsm hg (by omega) (fun _ _ z => z) (fun h' u tk hk => ⟨.str _, H, I.kept (t' := tk) hk, ⟨_, rfl⟩, q⟩) hz
  | dict h1 h2 h3 h4 h5 =>
    exact PySem.repr_of_reads' (.dict h1 h2 h3 h4 h5) hs hsm hg (by omega) (fun _ _ z => z) (fun h' u tk hk => ⟨.str _, H, I.kept (t' := tk) hk, ⟨_, rfl⟩, q⟩) hz
end
end Z
namespace Z
open PySem PySem.Spec PyProof.Rows L2

/-! ### readings that reckon by themselves -/
theorem PE.to {X : Cx} {e : Expr} {t t' : TE} (h : PE X e t) (k : ∀ σ H Q, t' σ H Q → t σ H Q) : PE X e t' := ⟨fun pins s σ H Q I q => h.run pins s σ H Q I (k σ H Q q)⟩
theorem PT.to {X : Cx} {e : Expr} {t t' : TT} (h : PT X e t) (k : ∀ σ H Q, t' σ H Q → t σ H Q) : PT X e t' := ⟨fun pins s σ H Q I q => h.run pins s σ H Q I (k σ H Q q)⟩
theorem PS.to {X : Cx} {e : Stmt} {t t' : TS} (h : PS X e t) (k : ∀ D σ H, t' D σ H → t D σ H) : PS X e t' := ⟨fun pins s σ H D I q => h.run pins s σ H D I (k D σ H q)⟩
theorem CallR.to {X : Cx} {f : Value} {r r' : List V → Hp → VK → Prop} (h : CallR X f r) (k : ∀ xs H Q, r' xs H Q → r xs H Q) : CallR X f r' :=
  fun pins s σ H xs us Q I rv q => h pins s σ H xs us Q I rv (k xs H Q q)
def zVar (i : Nat) : TE := fun σ H Q => match σ[i]? with
  | some (some v) => Q v H
  | _ => False
def zTest (t : TE) : TT := fun σ H Q => t σ H fun x H' => match x with
  | .bl k => Q k H'
  | _ => False
def zTru (K : PySem.W.Frag) (t : TE) : TT := fun σ H Q => t σ H fun x H' => match x with
  | .non => Q false H'
  | .bl k => Q k H'
  | .int i => Q (i != 0) H'
  | x => ∃ k, TruV K x H' k ∧ Q k H'
def zAndV (ta tb : TE) : TE := fun σ H Q => ta σ H fun x H1 => match x with
  | .bl c => if c = true then tb σ H1 Q else Q (.bl false) H1
  | _ => False
def zOrV (ta tb : TE) : TE := fun σ H Q => ta σ H fun x H1 => match x with
  | .bl c => if c = true then Q (.bl true) H1 else tb σ H1 Q
  | _ => False
def zNotV (ta : TE) : TE := fun σ H Q => ta σ H fun x H1 => match x with
  | .bl c => Q (.bl (!c)) H1
  | _ => False
def zChain (r r' : R2) (ta tb tc : TE) : TE := fun σ H Q => ta σ H fun x H1 => tb σ H1 fun y H2 => r x y H2 fun z H3 => match z with
  | .bl k => if k = true then tc σ H3 fun w' H4 => r' y w' H4 Q else Q (.bl false) H3
  | _ => False
def zNeg (ta : TE) : TE := fun σ H Q => ta σ H fun x H1 => match x with
  | .int i => Q (.int (-i)) H1
  | _ => False
def zLen (K : PySem.W.Frag) : List V → Hp → VK → Prop := fun xs H Q => match xs with
  | [.str z] => z.length ≤ sizeLine ∧ Q (.int z.length) H
  | [.ref p] => ∃ ys, (SqL K H p ys ∨ SqT K H p ys) ∧ Q (.int ys.length) H
  | _ => False
def rAbs : List V → Hp → VK → Prop := fun xs H Q => match xs with
  | [.int i] => Q (.int (if i < 0 then -i else i)) H
  | _ => False
def rMx2 : List V → Hp → VK → Prop := fun xs H Q => match xs with
  | [.int i, .int j] => Q (.int (if j > i then j else i)) H
  | _ => False
def rMn2 : List V → Hp → VK → Prop := fun xs H Q => match xs with
  | [.int i, .int j] => Q (.int (if j < i then j else i)) H
  | _ => False
def rInt1 : List V → Hp → VK → Prop := fun xs H Q => match xs with
  | [.int i] => Q (.int i) H
  | [.bl k] => Q (.int (if k then 1 else 0)) H
  | _ => False
def rListOf (K : PySem.W.Frag) : List V → Hp → VK → Prop := fun xs H Q => match xs with
  | [.ref p] => ∃ ys, (SqL K H p ys ∨ SqT K H p ys) ∧ ∀ l, H l = none → Q (.ref l) (upd H l (.lst ys))
  | _ => False
def zRaise (W : WX) (C : Addr) (sp : Sp) (ta : TA) : TS := fun _ σ H => zMkO C sp ta σ H fun cls d H' => W cls d σ H'

/-! ### isinstance by a built-in class, the class known -/
inductive Kd where
  | int | str | bool | list | tuple | dict
  deriving DecidableEq
def Kd.nm : Kd → String
  | .int => "int" | .str => "str" | .bool => "bool" | .list => "list" | .tuple => "tuple" | .dict => "dict"
def Kd.isB : Kd → Bool
  | .bool => true | .int => true | _ => false
def Kd.isI : Kd → Bool
  | .int => true | _ => false
def Kd.isS : Kd → Bool
  | .str => true | _ => false
def KndR (K : PySem.W.Frag) (H : Hp) (a : Addr) : Kd → Prop
  | .list => ∃ xs, SqL K H a xs
  | .tuple => ∃ xs, SqT K H a xs
  | .dict => (∃ kvs, H a = some (.dK kvs)) ∨ ∃ kvs, H a = some (.dT kvs)
  | _ => False
def zIsiV (K : PySem.W.Frag) (k : Kd) (x : V) (H : Hp) (Q : VK) : Prop := match x with
  | .non => Q (.bl false) H
  | .bl _ => Q (.bl k.isB) H
  | .int _ => Q (.bl k.isI) H
  | .str _ => Q (.bl k.isS) H
  | .ref a => ∃ t, KndR K H a t ∧ Q (.bl (decide (t = k))) H
  | _ => False
def zIsiT (K : PySem.W.Frag) (k : Kd) (te : TE) : TE := fun σ H Q => te σ H fun x H1 => zIsiV K k x H1 Q
theorem KndR.ty {K : PySem.W.Frag} {H : Hp} {a : Addr} {t : Kd} (h : KndR K H a t) : TyR K H a t.nm := by
  cases t <;> first | exact h.elim | exact .inl ⟨rfl, h⟩ | exact .inr (.inl ⟨rfl, h⟩) | exact .inr (.inr ⟨rfl, h⟩)
theorem nm_kn (k : Kd) : knC k.nm = true := by cases k <;> decide +kernel
theorem nm_eq (k t : Kd) : (k.nm == t.nm) = decide (t = k) := by cases k <;> cases t <;> decide +kernel
theorem zIsiV_to {K : PySem.W.Frag} {k : Kd} {x : V} {H : Hp} {Q : VK} (h : zIsiV K k x H Q) : zIsi K [x, .ty k.nm] H Q := by
  cases x with
  | non => exact ⟨nm_kn k, h⟩
  | bl b =>
    refine ⟨nm_kn k, ?_⟩
    have e : (k.nm == "bool" || k.nm == "int") = k.isB := by cases k <;> decide +kernel
    rw [e]
    exact h
  | int i =>
    refine ⟨nm_kn k, ?_⟩
    have e : (k.nm == "int") = k.isI := by cases k <;> decide +kernel
    rw [e]
    exact h
  | str z =>
    refine ⟨nm_kn k, ?_⟩
    have e : (k.nm == "str") = k.isS := by cases k <;> decide +kernel
    rw [e]
    exact h
  | ref a =>
    obtain ⟨t, ht, q⟩ := h
    refine ⟨nm_kn k, t.nm, ht.ty, ?_⟩
    rw [nm_eq]
    exact q
  | byt _ => exact h.elim
  | flt _ => exact h.elim
  | ty _ => exact h.elim
section
variable {X : Cx} {x y : Str} {pos p p1 p2 : Pos} {e a b c : Expr} {rest : List Expr} {te ta tb tc : TE}
theorem zv (i : Nat) (hN : X.N[i]? = some x := by rfl) (hv : Vis X.env.scope x := by first | exact Or.inl rfl | exact Or.inr (Or.inl rfl) | exact Or.inr (Or.inr rfl))
    (hd : (x == ("__debug__" : Str)) = false := by decide) (hcd : (x == ("__classdict__" : Str)) = false := by decide) : PE X (.Name x pos) (zVar i) :=
  PE.to (pe_var hN hv hd hcd) fun σ H Q h => by
    unfold zVar at h
    split at h
    · rename_i v e
      exact ⟨v, e, h⟩
    · exact h.elim
theorem bl_eq {x : V} {R : Bool → Prop} : (match x with | .bl k => R k | _ => False) = ∃ k, x = .bl k ∧ R k := by
  apply propext
  constructor
  · intro h
    split at h
    · exact ⟨_, rfl, h⟩
    · exact h.elim
  · rintro ⟨k, rfl, h⟩
    exact h
theorem zTest_eq (t : TE) : zTest t = tTest t := by
  funext σ H Q
  exact congrArg (t σ H) (funext fun x => funext fun H' => bl_eq)
theorem zAndV_eq : zAndV ta tb = tAndV ta tb := by
  funext σ H Q
  exact congrArg (ta σ H) (funext fun x => funext fun H' => bl_eq)
theorem zOrV_eq : zOrV ta tb = tOrV ta tb := by
  funext σ H Q
  exact congrArg (ta σ H) (funext fun x => funext fun H' => bl_eq)
theorem zNotV_eq : zNotV ta = tNotV ta := by
  funext σ H Q
  exact congrArg (ta σ H) (funext fun x => funext fun H' => bl_eq)
theorem zChain_eq {r r' : R2} : zChain r r' ta tb tc = tChain r r' ta tb tc := by
  funext σ H Q
  refine congrArg (ta σ H) (funext fun x => funext fun H1 => congrArg (tb σ H1) (funext fun y => funext fun H2 => congrArg (r x y H2) (funext fun z => funext fun H3 => ?_)))
  exact bl_eq
theorem zTru_eq {K : PySem.W.Frag} : zTru K te = fun σ H Q => te σ H fun x H' => ∃ k, TruV K x H' k ∧ Q k H' := by
  funext σ H Q
  refine congrArg (te σ H) (funext fun x => funext fun H' => propext ?_)
  cases x with
  | non => exact ⟨fun h => ⟨_, rfl, h⟩, fun ⟨k, e, h⟩ => by cases e; exact h⟩
  | bl b => exact ⟨fun h => ⟨_, rfl, h⟩, fun ⟨k, e, h⟩ => by cases e; exact h⟩
  | int i => exact ⟨fun h => ⟨_, rfl, h⟩, fun ⟨k, e, h⟩ => by cases e; exact h⟩
  | str _ => exact Iff.rfl
  | byt _ => exact Iff.rfl
  | flt _ => exact Iff.rfl
  | ref _ => exact Iff.rfl
  | ty _ => exact Iff.rfl
theorem ptz_cmp {op : CmpOp} {r : R2} (ho : OpR X (compareOp op) r) (ha : PE X a ta) (hb : PE X b tb) (hm : behindInMarks op b = false) : PT X (.Compare a [op] [b] pos) (zTest (tOp r ta tb)) := by
  rw [zTest_eq]
  exact pt_cmpR ho ha hb hm
theorem pez_chain {op op' : CmpOp} {r r' : R2} (ho : OpR X (compareOp op) r) (ho' : OpR X (compareOp op') r') (ha : PE X a ta) (hb : PE X b tb) (hc : PE X c tc)
    (hm : lastMarks [op, op'] [b, c] = false := by with_unfolding_all rfl) : PE X (.Compare a [op, op'] [b, c] pos) (zChain r r' ta tb tc) := by
  rw [zChain_eq]
  exact pe_chain ho ho' ha hb hc hm
theorem ptz_chain {op op' : CmpOp} {r r' : R2} (ho : OpR X (compareOp op) r) (ho' : OpR X (compareOp op') r') (ha : PE X a ta) (hb : PE X b tb) (hc : PE X c tc)
    (hm : lastMarks [op, op'] [b, c] = false := by with_unfolding_all rfl) : PT X (.Compare a [op, op'] [b, c] pos) (zTest (zChain r r' ta tb tc)) := by
  rw [zTest_eq, zChain_eq]
  exact pt_chain ho ho' ha hb hc hm
theorem ptz_truth (ha : PE X a ta) (he : ∀ whole, isTrue a X.env whole = (do let v ← whole; standAt a.pos; holding [v] (truthy v))) : PT X a (zTru X.K ta) := by
  rw [zTru_eq]
  exact pt_truth ha he
theorem pez_and (ha : PE X a ta) (hb : PE X (.BoolOp .And (b :: rest) pos) tb) : PE X (.BoolOp .And (a :: b :: rest) pos) (zAndV ta tb) := by
  rw [zAndV_eq]
  exact pe_and ha hb
theorem pez_or (ha : PE X a ta) (hb : PE X (.BoolOp .Or (b :: rest) pos) tb) : PE X (.BoolOp .Or (a :: b :: rest) pos) (zOrV ta tb) := by
  rw [zOrV_eq]
  exact pe_or ha hb
theorem pez_not (ha : PE X a ta) : PE X (.UnaryOp .Not a pos) (zNotV ta) := by
  rw [zNotV_eq]
  exact pe_not ha
theorem pez_neg (ha : PE X a ta) : PE X (.UnaryOp .USub a pos) (zNeg ta) := by
  have e : zNeg ta = tUn (rU fun i => .int (-i)) ta := by
    funext σ H Q
    refine congrArg (ta σ H) (funext fun x => funext fun H1 => propext ⟨fun h => ?_, fun ⟨i, ei, h⟩ => by cases ei; exact h⟩)
    cases x with
    | int i => exact ⟨i, rfl, h⟩
    | _ => exact h.elim
  rw [e]
  exact pe_un un_neg ha
theorem pe_isi {kd : Kd} {fx cx : Str} (he : PE X e te) (hg : Gl X fx) (hm : X.mg fx = none) (hv : bootBuiltins fx = some (.builtin "isinstance"))
    (hc : Gl X cx) (hcm : X.mg cx = none) (hcv : bootBuiltins cx = some (.type kd.nm)) (h1 : fx ≠ "__name__" := by decide) (h2 : (fx == ("__debug__" : Str)) = false := by decide)
    (h3 : cx ≠ "__name__" := by decide) (h4 : (cx == ("__debug__" : Str)) = false := by decide)
    (h5 : starEach [e, .Name cx p2] X.env = (false, eval e X.env) :: starEach [.Name cx p2] X.env := by rfl) (h6 : (backTo pos (starEach [.Name cx p2] X.env)).any (·.1) = false := by rfl)
    (h7 : starEach [.Name cx p2] X.env = (false, eval (.Name cx p2) X.env) :: starEach [] X.env := by rfl) :
    PE X (.Call (.Name fx p1) [e, .Name cx p2] [] pos) (zIsiT X.K kd te) :=
  PE.to (pe_callB call_isiZ hg hm hv (pa_cons he (pa_cons (pe_bltn (v := .ty kd.nm) hc hcm hcv rfl h3 h4) pa_nil h7) h5) h1 h2 h5 h6) fun σ H Q h => by
    have e1 : (fun x H1 => zIsiV X.K kd x H1 Q) = fun x H1 => zIsi X.K [x, .ty kd.nm] H1 Q := by
      funext x H1
      refine propext ⟨zIsiV_to, fun h => ?_⟩
      cases x with
      | non => exact h.2
      | bl b =>
        have e : (kd.nm == "bool" || kd.nm == "int") = kd.isB := by cases kd <;> decide +kernel
        have q := h.2
        rw [e] at q
        exact q
      | int i =>
        have e : (kd.nm == "int") = kd.isI := by cases kd <;> decide +kernel
        have q := h.2
        rw [e] at q
        exact q
      | str i =>
        have e : (kd.nm == "str") = kd.isS := by cases kd <;> decide +kernel
        have q := h.2
        rw [e] at q
        exact q
      | ref i =>
        obtain ⟨_, t, ty, q⟩ := h
        rcases ty with ⟨rfl, z⟩ | ⟨rfl, z⟩ | ⟨rfl, z⟩
        · refine ⟨.list, z, ?_⟩
          rw [← nm_eq]
          exact q
        · refine ⟨.tuple, z, ?_⟩
          rw [← nm_eq]
          exact q
        · refine ⟨.dict, z, ?_⟩
          rw [← nm_eq]
          exact q
      | byt _ => exact h.elim
      | flt _ => exact h.elim
      | ty _ => exact h.elim
    show te σ H fun x H1 => zIsi X.K [x, .ty kd.nm] H1 Q
    rw [← e1]
    exact h
theorem pe_cint {i : Int} (hg : Gl X x) (h : ∃ t, X.mg x = some (.int i t)) (hd : (x == ("__debug__" : Str)) = false := by decide) : PE X (.Name x pos) (tC (.int i)) := by
  obtain ⟨t, h⟩ := h
  exact pe_glob hg h ⟨t, rfl⟩ hd
theorem pe_cstr {z : Str} (hg : Gl X x) (h : ∃ t, X.mg x = some (.str z t)) (hd : (x == ("__debug__" : Str)) = false := by decide) : PE X (.Name x pos) (tC (.str z)) := by
  obtain ⟨t, h⟩ := h
  exact pe_glob hg h ⟨t, rfl⟩ hd
theorem call_lenZ : CallR X (.builtin "len") (zLen X.K) := by
  intro pins s σ H xs us Q I r h
  unfold zLen at h
  split at h
  · exact call_len_str pins s σ H _ us Q I r ⟨_, rfl, h.1, h.2⟩
  · obtain ⟨ys, hq, q⟩ := h
    exact call_len_seq pins s σ H _ us Q I r ⟨_, ys, rfl, hq, q⟩
  · exact h.elim
theorem call_absZ : CallR X (.builtin "abs") rAbs := by
  intro pins s σ H xs us Q I r h
  unfold rAbs at h
  split at h
  · exact call_abs pins s σ H _ us Q I r ⟨_, rfl, h⟩
  · exact h.elim
theorem call_mx2 (hc : X.calm = true) : CallR X (.builtin "max") rMx2 := by
  intro pins s σ H xs us Q I r h
  unfold rMx2 at h
  split at h
  · exact call_max2 hc pins s σ H _ us Q I r ⟨_, _, rfl, h⟩
  · exact h.elim
theorem call_mn2 (hc : X.calm = true) : CallR X (.builtin "min") rMn2 := by
  intro pins s σ H xs us Q I r h
  unfold rMn2 at h
  split at h
  · exact call_min2 hc pins s σ H _ us Q I r ⟨_, _, rfl, h⟩
  · exact h.elim
theorem call_intZ : CallR X (.type "int") rInt1 := by
  intro pins s σ H xs us Q I r h
  unfold rInt1 at h
  split at h
  · exact call_int1 pins s σ H _ us Q I r (.inl ⟨_, rfl, h⟩)
  · exact call_int1 pins s σ H _ us Q I r (.inr ⟨_, rfl, h⟩)
  · exact h.elim
theorem call_listZ : CallR X (.type "list") (rListOf X.K) := by
  intro pins s σ H xs us Q I r h
  unfold rListOf at h
  split at h
  · obtain ⟨ys, hq, q⟩ := h
    exact call_list_of pins s σ H _ us Q I r ⟨_, ys, rfl, hq, q⟩
  · exact h.elim
end
end Z
namespace Z
open PySem PySem.Spec PyProof.Rows L2

/-! ### heaps -/
theorem Same.put {H : Hp} {p : Addr} {o : HO} (n : H p = none) : Same H (upd H p o) := fun b u e => by
  rw [upd_ne (ne_of_none e n)]
  exact e
/-- all stands but what is at p -/
def But (p : Addr) (H H' : Hp) : Prop := ∀ b o, H b = some o → b ≠ p → H' b = some o
theorem But.refl (p : Addr) (H : Hp) : But p H H := fun _ _ e _ => e
theorem But.same {p : Addr} {H H' : Hp} (s : Same H H') : But p H H' := fun b o e _ => s b o e
theorem But.trans {p : Addr} {H H1 H2 : Hp} (a : But p H H1) (b : But p H1 H2) : But p H H2 := fun c o e n => b c o (a c o e n) n
theorem But.put {p : Addr} {H : Hp} {o : HO} : But p H (upd H p o) := fun b u e n => by
  rw [upd_ne n]
  exact e
/-- behind a change of p alone, p being new since H0 -/
theorem But.old {p : Addr} {H0 H H' : Hp} (b : But p H H') (s : Same H0 H) (n : H0 p = none) : Same H0 H' := fun c o e => b c o (s c o e) (ne_of_none e n)

/-! ### tests -/
theorem zite {b : Bool} {A B : Prop} (h1 : b = true → A) (h2 : b = false → B) : if b = true then A else B := by
  cases b
  · exact h2 rfl
  · exact h1 rfl

/-! ### loops and comprehensions, what is walked once reckoned -/
def forGo (J : It) (g : TG) (tb : TS) (D : Ends) (σ : St) (H1 : Hp) : Prop := ∃ W : Nat → Nat → St → Hp → Prop, (∃ m, W 0 m σ H1) ∧ ∀ i m σ H, W i m σ H →
  (J.stop i H ∧ D.nx σ H) ∨ (J.go i H ∧ ∃ N : St → Hp → Prop, (∀ σ' H', N σ' H' → ∃ m', m' < m ∧ W (i + 1) m' σ' H') ∧
    ∀ x H', J.yld i H x H' → g x σ H' fun σ2 H2 => tb { D with nx := N, ct := N, bk := D.nx } σ2 H2)
def zFor (wi : TI) (g : TG) (tb : TS) : TS := fun D σ H => wi σ H fun J H1 => forGo J g tb D σ H1
def lcGo (J : It) (g : TG) (tt : TT) (te : TE) (vs : List Nat) (σ : St) (H1 : Hp) (Q : VK) : Prop := ∀ D, H1 D = none →
  ∃ W : Nat → Nat → Hp → Prop, (∃ m, W 0 m (upd H1 D (.lst []))) ∧ ∀ i m H, W i m H →
    (J.stop i H ∧ Q (.ref D) H) ∨ (J.go i H ∧ ∃ Nx : Hp → Prop, (∀ H', Nx H' → ∃ m', m' < m ∧ W (i + 1) m' H') ∧
      ∀ x H', J.yld i H x H' → g x (wipe σ vs) H' fun σ2 H2 => wipe σ2 vs = wipe σ vs ∧ tt σ2 H2 fun b H3 =>
        if b = true then te σ2 H3 fun y H4 => ∃ acc, H4 D = some (.lst acc) ∧ acc.length < sizeLine ∧ Nx (upd H4 D (.lst (acc ++ [y]))) else Nx H3)
def zLc (wi : TI) (g : TG) (tt : TT) (te : TE) (vs : List Nat) : TE := fun σ H Q => wi σ H fun J H1 => lcGo J g tt te vs σ H1 Q
section
variable {X : Cx}
theorem psz_for {tg iter : Expr} {body : List Stmt} {wi : TI} {g : TG} {tb : TS} {pos : Pos} (hp : PassesOwn (model X.prog X.w) X.A X.env X.xe) (hc : X.calm = true) (hi : PI X tg iter wi) (hg : PG X tg g)
    (hb : PSs X body tb) (hs : ∀ x, foldedSetIterable iter X.env x = pure x := by intro _; rfl) : PS X (.For tg iter body [] pos) (zFor wi g tb) :=
  ps_for hp hc hi hg hb hs
theorem pez_lc {elt tg iter : Expr} {ifs : List Expr} {scope : Scope} {own : List (Str × Nat)} {pos : Pos} {wi : TI} {g : TG} {tt : TT} {te : TE} (hc : X.calm = true) (hN : X.N.Nodup) (hi : PI X tg iter wi)
    (ok : BlkOk X.N X.env.scope scope own)
    (hg : ∀ (s : Shared) (H : Hp) (C : Addr) (cl : List (Str × Addr)) (fp : List Addr), PG (X.blk s H scope (compEnvC scope cl C X.env) fp) tg g)
    (ht : ∀ (s : Shared) (H : Hp) (C : Addr) (cl : List (Str × Addr)) (fp : List Addr), PTs (X.blk s H scope (compEnvC scope cl C X.env) fp) ifs tt)
    (he : ∀ (s : Shared) (H : Hp) (C : Addr) (cl : List (Str × Addr)) (fp : List Addr), PE (X.blk s H scope (compEnvC scope cl C X.env) fp) elt te)
    (hs : ∀ x, foldedSetIterable iter X.env x = pure x := by intro _; rfl) :
    PE X (.ListComp elt [⟨tg, iter, ifs, 0⟩] scope pos) (zLc wi g tt te (own.map (·.2))) := pe_lc hc hN hi ok hg ht he hs
theorem psz_setLc {i : Nat} {y : Str} {py : Pos} {elt tg iter : Expr} {ifs : List Expr} {scope : Scope} {own : List (Str × Nat)} {pos spos : Pos} {wi : TI} {g : TG} {tt : TT} {te : TE}
    (hc : X.calm = true) (hN : X.N.Nodup) (hy : X.N[i]? = some y) (hyl : X.env.scope.names.lookup y = some .local)
    (hsw : swapsWith (.ListComp elt [⟨tg, iter, ifs, 0⟩] scope pos) (some (.Name y py)) spos.line X.env = pure true) (hi : PI X tg iter wi) (ok : BlkOk X.N X.env.scope scope own)
    (hg : ∀ (s : Shared) (H : Hp) (C : Addr) (cl : List (Str × Addr)) (fp : List Addr), PG (X.blk s H scope (compEnvC scope cl C X.env) fp) tg g)
    (ht : ∀ (s : Shared) (H : Hp) (C : Addr) (cl : List (Str × Addr)) (fp : List Addr), PTs (X.blk s H scope (compEnvC scope cl C X.env) fp) ifs tt)
    (he : ∀ (s : Shared) (H : Hp) (C : Addr) (cl : List (Str × Addr)) (fp : List Addr), PE (X.blk s H scope (compEnvC scope cl C X.env) fp) elt te)
    (hs : ∀ x, foldedSetIterable iter X.env x = pure x := by intro _; rfl) :
    PS X (.Assign [.Name y py] (.ListComp elt [⟨tg, iter, ifs, 0⟩] scope pos) spos) (tAsg (zLc wi g tt te (own.map (·.2))) (gName i)) :=
  ps_setLc hc hN hy hyl hsw hi ok hg ht he hs
end
section
variable {J : It} {n : Nat} {G : Hp → Prop} {Y : Nat → Hp → V → Hp → Prop}
/-- a for by its invariant -/
theorem for_z (w : Walk J n G Y) {g : TG} {tb : TS} {D : Ends} {σ : St} {H : Hp} (Pv : Nat → St → Hp → Prop) (h0 : Pv 0 σ H) (hG : ∀ i σ H, i ≤ n → Pv i σ H → G H)
    (hs : ∀ i x σ H H', i < n → Pv i σ H → Y i H x H' → g x σ H' fun σ2 H2 => tb { D with nx := Pv (i + 1), ct := Pv (i + 1), bk := D.nx } σ2 H2) (hd : ∀ σ H, Pv n σ H → D.nx σ H) :
    forGo J g tb D σ H := for_it w Pv h0 hG hs hd
/-- a comprehension by an invariant of the heap -/
theorem lc_z (w : Walk J n G Y) {g : TG} {tt : TT} {te : TE} {vs : List Nat} {σ : St} {H1 : Hp} {Q : VK} (Pv : Addr → Nat → Hp → Prop) (h0 : ∀ D, H1 D = none → Pv D 0 (upd H1 D (.lst [])))
    (hG : ∀ D i H, H1 D = none → i ≤ n → Pv D i H → G H)
    (hs : ∀ D i x H H', H1 D = none → i < n → Pv D i H → Y i H x H' → g x (wipe σ vs) H' fun σ2 H2 => wipe σ2 vs = wipe σ vs ∧ tt σ2 H2 fun b H3 =>
      if b = true then te σ2 H3 fun y H4 => ∃ acc, H4 D = some (.lst acc) ∧ acc.length < sizeLine ∧ Pv D (i + 1) (upd H4 D (.lst (acc ++ [y]))) else Pv D (i + 1) H3)
    (hd : ∀ D H, H1 D = none → Pv D n H → Q (.ref D) H) : lcGo J g tt te vs σ H1 Q :=
  fun D hD => lc_it w (Qd := fun H => Q (.ref D) H) (Pv D) (h0 D hD) (fun i H => hG D i H hD) (fun i x H H' => hs D i x H H' hD) fun H => hd D H hD
/-- a comprehension whose elements change nothing -/
theorem lc_map (w : Walk J n G Y) {g : TG} {tt : TT} {te : TE} {vs : List Nat} {σ : St} {H1 : Hp} {Q : VK} (f : Nat → V) (hn : n ≤ sizeLine) (hG : ∀ H', Same H1 H' → G H')
    (hs : ∀ i x H H', i < n → Same H1 H → Y i H x H' → H' = H ∧ ∃ σ2, (∀ R : St → Hp → Prop, R σ2 H → g x (wipe σ vs) H R) ∧ wipe σ2 vs = wipe σ vs ∧
      (∀ R : Bool → Hp → Prop, R true H → tt σ2 H R) ∧ (∀ R : VK, R (f i) H → te σ2 H R))
    (hd : ∀ D, H1 D = none → Q (.ref D) (upd H1 D (.lst ((List.range n).map f)))) : lcGo J g tt te vs σ H1 Q := by
  refine lc_z w (fun D i H => H = upd H1 D (.lst ((List.range i).map f))) (fun D hD => rfl) (fun D i H hD _ e => ?_) (fun D i x H H' hD hi e y => ?_) (fun D H hD e => ?_)
  · subst e
    exact hG _ (Same.put hD)
  · subst e
    obtain ⟨e2, σ2, h1, h2, h3, h4⟩ := hs i x _ H' hi (Same.put hD) y
    subst e2
    refine h1 _ ⟨h2, h3 _ ?_⟩
    show te σ2 _ _
    refine h4 _ ⟨_, upd_same, by simp; omega, ?_⟩
    rw [upd_upd, List.range_succ, List.map_append]
    rfl
  · subst e
    exact hd D hD
end
end Z
namespace Z
open PySem PySem.Spec PyProof.Rows L2

/-! ### the law's end, for defs of this layer -/
theorem law_callZ {P : Program} {w : World} {K : PySem.W.Frag} {mg mb : Str → Option Value} {k : Nat} {fa a : Addr} {fd : FuncData} {x : Str} {sp : Sp} {s₁ : Shared} {vs : List Value} {ns : List Int}
    (KX : K.In s₁.heap) (hns : s₁.heap.Ns mainGlobals mg) (hb : s₁.heap.Ns builtinsNs mb) (hbb : ∀ x : Str, x ≠ "__name__" → mb x = bootBuiltins x) (hlim : s₁.heap.NoLimit) (hg : s₁.gens = #[])
    (ha : s₁.heap.get? a = some { cls := .type "list", data := .seq vs.toArray }) (hi : IntsAre vs ns) (hl : ns.length ≤ sizeLine) (hr : Room k callerA)
    (F : ∀ base : Heap, K.In base → base.Ns mainGlobals mg → FnZ P w K mg base k fa fd [x] sp) (hbind : ∀ (s : Shared) (u : Value), BindsTo s fd ⟨[u], []⟩ [(x, u)])
    (hsp : ∀ H : Hp, Only H → SqL K H a (ns.map V.int) → sp [.ref a] H (fun v _ => v = .bl true) fun _ _ _ => False) :
    codeAny (model P w) callerA (.call (.ref fa) ⟨[.ref a], []⟩) (fun r s' => r = .ok (.ret (.bool true)) ∧ OldK s₁.heap s'.heap ∧ s'.os = s₁.os ∧ AllBare s'.gens) s₁ := by
  have rv := vals_ints hi
  have lenV := hi.length
  have core : ∀ H : Hp, Only H → SqL K H a (ns.map V.int) → HOk P w H s₁.heap → (∀ b, H b ≠ none → b = a) → (H a ≠ none → K.lookup a = none) →
      codeAny (model P w) callerA (.call (.ref fa) ⟨[.ref a], []⟩) (fun r s' => r = .ok (.ret (.bool true)) ∧ OldK s₁.heap s'.heap ∧ s'.os = s₁.os ∧ AllBare s'.gens) s₁ := by
    intro H hO hS hok hA hK
    have base_of : ∀ {b : Addr} {o : Obj}, s₁.heap.get? b = some o → H b = none → (hidT s₁.heap H).get? b = some o := fun e n => hidT_get e n
    have noA : ∀ {b : Addr} {o : Obj} {es : Array DictEntry} {ep : Nat}, s₁.heap.get? b = some o → o.data = .dict es ep → H b = none := fun {b o es ep} e d => by
      cases q : H b with
      | none => rfl
      | some u =>
        have e' : b = a := hA b (by rw [q]; simp)
        subst e'
        rw [ha] at e; cases e
        have d' : Data.seq vs.toArray _ = Data.dict es ep := d
        cases d'
    have nsK : ∀ {b : Addr} {m : Str → Option Value}, s₁.heap.Ns b m → (hidT s₁.heap H).Ns b m := fun {b m} ⟨o, es, ep, e, d, r⟩ => ⟨o, es, ep, base_of e (noA e d), d, r⟩
    have hKb : K.In (hidT s₁.heap H) := fun b o e => base_of (KX b o e) (by
      cases q : H b with
      | none => rfl
      | some u =>
        have e' : b = a := hA b (by rw [q]; simp)
        subst e'
        rw [hK (by rw [q]; simp)] at e; cases e)
    have hM : Mod K mg (hidT s₁.heap H) := ⟨hKb, nsK hns, ⟨mb, nsK hb, hbb⟩, let ⟨mc, h1, h2⟩ := hlim; ⟨mc, nsK h1, h2⟩⟩
    have e0 : Env0 P w K mg (hidT s₁.heap H) callerA [] s₁ H := ⟨rfl, hM, fun b o e => of_hidT e, Nat.le_of_eq (hidT_size _ _), trivial, fun b hb => absurd (show b ∈ ([] : List Addr) from hb) (by simp), hok, .of_eq hg⟩
    refine codeAny_mono ((F _ hKb (nsK hns)).run callerA [] s₁ H ⟨[.ref a], []⟩ [.ref a] [.ref a] _ _ hr rfl e0 (hbind s₁ (.ref a)) (.cons rfl .nil) (hsp H hO hS)) fun r s' h => ?_
    cases r with
    | error e =>
      obtain ⟨_, _, _, _, _, _, _, _, _, _, _, _, z⟩ := h
      exact False.elim z
    | ok fl =>
      cases fl with
      | next => exact False.elim h
      | brk => exact False.elim h
      | cont => exact False.elim h
      | ret u =>
        obtain ⟨v, H', os, bare, un, hok', r', q⟩ := h
        have q' : v = .bl true := q
        subst q'
        obtain rfl : u = Value.bool true := r'
        refine ⟨rfl, OldK.of_keep fun b o e => ?_, os, bare⟩
        cases q : H b with
        | none => exact un.keep b o e q (by intro z; exact absurd (show b ∈ ([] : List Addr) from z) (by simp)) (by simp)
        | some u =>
          rcases hO b with z | ⟨ob, xs, z⟩
          · rw [q] at z; cases z
          · have z2 := un.frzs b ob _ z
            obtain ⟨e1, _⟩ := hok b _ z
            obtain ⟨e2, _⟩ := hok' b _ z2
            rw [e] at e1; cases e1
            exact e2
  cases hk : K.lookup a with
  | some o =>
    have e := KX a o hk
    rw [ha] at e
    cases e
    refine core (fun _ => none) (fun _ => .inl rfl) (.inr ⟨_, vs.toArray, _, hk, rfl, rfl, rfl, by rw [List.size_toArray, lenV]; exact hl, by simpa using rv⟩) (fun b u z => by have z' : (none : Option HO) = some u := z; cases z') (fun b z => absurd rfl z) fun z => absurd rfl z
  | none =>
    refine core (fun b => if b = a then some (.frz { cls := .type "list", data := .seq vs.toArray } (.lst (ns.map V.int))) else none) (fun b => ?_) (.inl (.inr ⟨{ cls := .type "list", data := .seq vs.toArray }, if_pos rfl⟩)) (fun b u z => ?_) (fun b z => ?_) fun _ => hk
    · by_cases hb : b = a
      · exact .inr ⟨_, _, if_pos hb⟩
      · exact .inl (if_neg hb)
    · by_cases hb : b = a
      · have z' := (if_pos hb).symm.trans z
        cases z'
        subst hb
        exact ⟨ha, by rw [List.length_map]; exact hl, vs, _, rv, ha⟩
      · have z' := (if_neg hb).symm.trans z
        cases z'
    · by_cases hb : b = a
      · exact hb
      · exact absurd (if_neg hb) z
theorem walk_ofZ {l : PySem.W.OpenLaw} {n k : Nat} {q : Program} {loose : List Str} {XP : (Str → Option Value) → Heap → Prop} {YP : World → Heap → Prop} {d : DefRec} {K : Params → PySem.W.Frag} {sp : PySem.W.Frag → Sp} {x : Str}
    (hn : l.most = some n) (hn2 : n ≤ sizeLine) (hdf : d.params.defaults = []) (hr : Room k callerA)
    (hY : ∀ (w : World) (h : Heap), YP w h → (K w.params).In h)
    (F : ∀ (w : World) (mg : Str → Option Value) (fa : Addr) (h : Heap), (K w.params).In h → h.Ns mainGlobals mg → mg d.name = some (.ref fa) →
      ∃ fd : FuncData, (∀ (s : Shared) (u : Value), BindsTo s fd ⟨[u], []⟩ [(x, u)]) ∧
        ∀ base : Heap, (K w.params).In base → base.Ns mainGlobals mg → FnZ l.prog w (K w.params) mg base k fa fd [x] (sp (K w.params)))
    (hsp : ∀ (K : PySem.W.Frag) (H : Hp) (a : Addr) (ns : List Int), ns.length ≤ n → Only H → SqL K H a (ns.map V.int) → sp K [.ref a] H (fun v _ => v = .bl true) fun _ _ _ => False) :
    PySem.W.WalkO q loose XP YP l.row.toRowW d [] (fun f vs => PySem.call f vs) := by
  refine Att.attach_call hn hdf fun w s₀ s₁ mg mb fa o pm cd doc a vs ns G Y ho hd hcd hmg hobj hints hlen hg => ?_
  have KX := hY w _ Y
  obtain ⟨fd, hb, hF⟩ := F w mg fa _ KX G.T.g hmg
  exact law_callZ KX G.T.g G.T.b G.T.builtins G.T.nolimit hg hobj hints (Nat.le_trans hlen hn2) hr hF hb (fun H hO hS => hsp (K w.params) H a ns hlen hO hS)
/-- the promise of a law: whatever the script, True -/
def spLaw (K : PySem.W.Frag) : Sp := fun vs H Q E => ∃ (a : Addr) (ns : List Int), vs = [.ref a] ∧ SqL K H a (ns.map V.int) ∧ ns.length ≤ 63 ∧ ∀ H', Q (.bl true) H'
theorem law_walk {l : PySem.W.OpenLaw} {k : Nat} {q : Program} {loose : List Str} {XP : (Str → Option Value) → Heap → Prop} {YP : World → Heap → Prop} {d : DefRec} {K : Params → PySem.W.Frag} (hn : l.most = some 63) (hdf : d.params.defaults = []) (hr : Room k callerA)
    (hY : ∀ (w : World) (h : Heap), YP w h → (K w.params).In h)
    (F : ∀ (w : World) (mg : Str → Option Value) (fa : Addr) (h : Heap), (K w.params).In h → h.Ns mainGlobals mg → mg d.name = some (.ref fa) →
      ∃ fd : FuncData, (∀ (s : Shared) (u : Value), BindsTo s fd ⟨[u], []⟩ [("script", u)]) ∧
        ∀ base : Heap, (K w.params).In base → base.Ns mainGlobals mg → FnZ l.prog w (K w.params) mg base k fa fd ["script"] (spLaw (K w.params))) :
    PySem.W.WalkO q loose XP YP l.row.toRowW d [] (fun f vs => PySem.call f vs) :=
  walk_ofZ (n := 63) (k := k) (x := "script") (sp := spLaw) hn (by decide) hdf hr hY F fun _ _ a ns hl _ hS => ⟨a, ns, rfl, hS, hl, fun _ => rfl⟩
/-- «except C» names an error of the class at C itself -/
theorem exm_own {K : PySem.W.Frag} {C : Addr} (b : PySem.W.subIn K (.ref C) (.type "BaseException") = some true) (c : PySem.W.isClsIn K C = true) (t : PySem.W.typeIn K (.ref C) = some (.type "type")) (u : PySem.W.subIn K (.ref C) (.ref C) = some true) :
    PySem.W.exmOne K (.ref C) (.ref C) = some true := by
  have c' : (PySem.W.clsIn K C).isSome = true := c
  simp [PySem.W.exmOne, PySem.W.kitCls, b, c', t, u]
end Z
namespace Z
open PySem PySem.Spec PyProof.Rows L2
def top (i : Nat) : Stmt := PySem.Challenge.pw_falsedefaults_k04_names_and_operands.main.body.getD i (.Pass ⟨0, 0, 0, 0⟩)
abbrev s_BadName_init : Stmt := inClass (top 1) 0
abbrev s_BadValue_init : Stmt := inClass (top 2) 0
abbrev s_is_name : Stmt := top 7
abbrev s_is_int : Stmt := top 8
abbrev s_check_name : Stmt := top 9
abbrev s_check_operand : Stmt := top 10
abbrev s_law_deck : Stmt := top 12
abbrev s_law_draw : Stmt := top 13
abbrev s_law_of : Stmt := top 14
abbrev s_law_number : Stmt := top 15
abbrev s_law_names : Stmt := top 16
abbrev s_law_word : Stmt := top 17
abbrev s_law_is_name : Stmt := top 18
abbrev s_law_is_operand : Stmt := top 19
abbrev s_law_is_right : Stmt := top 20
abbrev s_law : Stmt := top 21
structure Ads where
  f_BadName_init : Addr
  d_BadName_init : FuncData
  f_BadValue_init : Addr
  d_BadValue_init : FuncData
  f_is_name : Addr
  d_is_name : FuncData
  f_is_int : Addr
  d_is_int : FuncData
  f_check_name : Addr
  d_check_name : FuncData
  f_check_operand : Addr
  d_check_operand : FuncData
  f_law_deck : Addr
  d_law_deck : FuncData
  f_law_draw : Addr
  d_law_draw : FuncData
  f_law_of : Addr
  d_law_of : FuncData
  f_law_number : Addr
  d_law_number : FuncData
  f_law_names : Addr
  d_law_names : FuncData
  f_law_word : Addr
  d_law_word : FuncData
  f_law_is_name : Addr
  d_law_is_name : FuncData
  f_law_is_operand : Addr
  d_law_is_operand : FuncData
  f_law_is_right : Addr
  d_law_is_right : FuncData
  f_law : Addr
  d_law : FuncData
  c_BadName : Addr
  c_BadValue : Addr
structure Txt (K : PySem.W.Frag) (mg : Str → Option Value) (g : Ads) : Prop where
  f_BadName_init : Fun K "__init__" "BadName.__init__" s_BadName_init g.f_BadName_init g.d_BadName_init
  e_BadName_init : Binds K g.d_BadName_init ["self", "name"] []
  f_BadValue_init : Fun K "__init__" "BadValue.__init__" s_BadValue_init g.f_BadValue_init g.d_BadValue_init
  e_BadValue_init : Binds K g.d_BadValue_init ["self", "value"] []
  f_is_name : Fun K "is_name" "is_name" s_is_name g.f_is_name g.d_is_name
  e_is_name : Binds K g.d_is_name ["thing"] []
  g_is_name : mg "is_name" = some (.ref g.f_is_name)
  k_is_name : PySem.W.keepIn K (.ref g.f_is_name) = true
  f_is_int : Fun K "is_int" "is_int" s_is_int g.f_is_int g.d_is_int
  e_is_int : Binds K g.d_is_int ["thing"] []
  g_is_int : mg "is_int" = some (.ref g.f_is_int)
  k_is_int : PySem.W.keepIn K (.ref g.f_is_int) = true
  f_check_name : Fun K "check_name" "check_name" s_check_name g.f_check_name g.d_check_name
  e_check_name : Binds K g.d_check_name ["thing"] []
  g_check_name : mg "check_name" = some (.ref g.f_check_name)
  k_check_name : PySem.W.keepIn K (.ref g.f_check_name) = true
  f_check_operand : Fun K "check_operand" "check_operand" s_check_operand g.f_check_operand g.d_check_operand
  e_check_operand : Binds K g.d_check_operand ["thing"] []
  g_check_operand : mg "check_operand" = some (.ref g.f_check_operand)
  k_check_operand : PySem.W.keepIn K (.ref g.f_check_operand) = true
  f_law_deck : Fun K "_law_deck" "_law_deck" s_law_deck g.f_law_deck g.d_law_deck
  e_law_deck : Binds K g.d_law_deck ["script", "turn"] []
  g_law_deck : mg "_law_deck" = some (.ref g.f_law_deck)
  k_law_deck : PySem.W.keepIn K (.ref g.f_law_deck) = true
  f_law_draw : Fun K "_law_draw" "_law_draw" s_law_draw g.f_law_draw g.d_law_draw
  e_law_draw : Binds K g.d_law_draw ["deck", "many"] []
  g_law_draw : mg "_law_draw" = some (.ref g.f_law_draw)
  k_law_draw : PySem.W.keepIn K (.ref g.f_law_draw) = true
  f_law_of : Fun K "_law_of" "_law_of" s_law_of g.f_law_of g.d_law_of
  e_law_of : Binds K g.d_law_of ["deck", "some"] []
  g_law_of : mg "_law_of" = some (.ref g.f_law_of)
  k_law_of : PySem.W.keepIn K (.ref g.f_law_of) = true
  f_law_number : Fun K "_law_number" "_law_number" s_law_number g.f_law_number g.d_law_number
  e_law_number : Binds K g.d_law_number ["deck"] []
  g_law_number : mg "_law_number" = some (.ref g.f_law_number)
  k_law_number : PySem.W.keepIn K (.ref g.f_law_number) = true
  f_law_names : Fun K "_law_names" "_law_names" s_law_names g.f_law_names g.d_law_names
  e_law_names : Binds K g.d_law_names ["deck", "many"] []
  g_law_names : mg "_law_names" = some (.ref g.f_law_names)
  k_law_names : PySem.W.keepIn K (.ref g.f_law_names) = true
  f_law_word : Fun K "_law_word" "_law_word" s_law_word g.f_law_word g.d_law_word
  e_law_word : Binds K g.d_law_word ["deck"] []
  g_law_word : mg "_law_word" = some (.ref g.f_law_word)
  k_law_word : PySem.W.keepIn K (.ref g.f_law_word) = true
  f_law_is_name : Fun K "_law_is_name" "_law_is_name" s_law_is_name g.f_law_is_name g.d_law_is_name
  e_law_is_name : Binds K g.d_law_is_name ["thing"] []
  g_law_is_name : mg "_law_is_name" = some (.ref g.f_law_is_name)
  k_law_is_name : PySem.W.keepIn K (.ref g.f_law_is_name) = true
  f_law_is_operand : Fun K "_law_is_operand" "_law_is_operand" s_law_is_operand g.f_law_is_operand g.d_law_is_operand
  e_law_is_operand : Binds K g.d_law_is_operand ["thing"] []
  g_law_is_operand : mg "_law_is_operand" = some (.ref g.f_law_is_operand)
  k_law_is_operand : PySem.W.keepIn K (.ref g.f_law_is_operand) = true
  f_law_is_right : Fun K "_law_is_right" "_law_is_right" s_law_is_right g.f_law_is_right g.d_law_is_right
  e_law_is_right : Binds K g.d_law_is_right ["thing"] []
  g_law_is_right : mg "_law_is_right" = some (.ref g.f_law_is_right)
  k_law_is_right : PySem.W.keepIn K (.ref g.f_law_is_right) = true
  f_law : Fun K "law" "law" s_law g.f_law g.d_law
  e_law : Binds K g.d_law ["script"] []
  g_law : mg "law" = some (.ref g.f_law)
  k_law : PySem.W.keepIn K (.ref g.f_law) = true
  g_BadName : mg "BadName" = some (.ref g.c_BadName)
  o_BadName : OexC K g.c_BadName
  x_BadName : XfC K g.c_BadName
  h_BadName : PySem.W.exmOne K (.ref g.c_BadName) (.ref g.c_BadName) = some true
  i_BadName : PySem.W.findIn K (.ref g.c_BadName) "__init__" = some (some (.ref g.f_BadName_init))
  t_BadName : PySem.W.typeIn K (.ref g.f_BadName_init) = some (.type "function")
  a_BadName_name : PySem.W.findIn K (.ref g.c_BadName) "name" = some none
  g_BadValue : mg "BadValue" = some (.ref g.c_BadValue)
  o_BadValue : OexC K g.c_BadValue
  x_BadValue : XfC K g.c_BadValue
  h_BadValue : PySem.W.exmOne K (.ref g.c_BadValue) (.ref g.c_BadValue) = some true
  i_BadValue : PySem.W.findIn K (.ref g.c_BadValue) "__init__" = some (some (.ref g.f_BadValue_init))
  t_BadValue : PySem.W.typeIn K (.ref g.f_BadValue_init) = some (.type "function")
  a_BadValue_value : PySem.W.findIn K (.ref g.c_BadValue) "value" = some none
  n_LETTERS : ∃ t, mg "LETTERS" = some (.str "abcdefghijklmnopqrstuvwxyz" t)
  n_MOST_SIGNS : ∃ t, mg "MOST_SIGNS" = some (.int 8 t)
  n_BEYOND : ∃ t, mg "BEYOND" = some (.int 100000000000000000000 t)
  b_abs : mg "abs" = none
  b_all : mg "all" = none
  b_bool : mg "bool" = none
  b_enumerate : mg "enumerate" = none
  b_int : mg "int" = none
  b_isinstance : mg "isinstance" = none
  b_len : mg "len" = none
  b_max : mg "max" = none
  b_min : mg "min" = none
  b_range : mg "range" = none
  b_repr : mg "repr" = none
  b_str : mg "str" = none
theorem sc_is_int : FnScope ["thing"] ["thing"] (defScope s_is_int) := ⟨rfl, rfl, rfl, by decide +kernel, rfl, by decide +kernel, by decide +kernel⟩
def R_is_int (K : PySem.W.Frag) (g : Ads) (E : XK) : TS :=
  (tRet (zAndV (zIsiT K .int (zVar 0)) (zAndV (zNotV (zIsiT K .bool (zVar 0))) (zChain zLt zLt (zNeg (tC (.int 100000000000000000000))) (zVar 0) (tC (.int 100000000000000000000))))))
def rw_is_int (K : PySem.W.Frag) (g : Ads) : Sp := fun vs H Q E => vs.length = 1 ∧ R_is_int K g E { nx := fun _ H' => Q .non H', rt := Q } (start ["thing"] vs) H
theorem raw_is_int {P : Program} {w : World} {K : PySem.W.Frag} {mg : Str → Option Value} {base : Heap} {g : Ads} (T : Txt K mg g) : FnZ P w K mg base 1 g.f_is_int g.d_is_int ["thing"] (rw_is_int K g) := by
  refine okZ T.f_is_int sc_is_int (fun vs H Q E h => h.1) (fun cdv A outer s H vs Q E hr hgu h => ⟨R_is_int K g E, ?_, h.2⟩)
  exact (pss_one (ps_ret (pez_and (pe_isi (kd := .int) (zv 0) (by rfl) T.b_isinstance (by decide +kernel) (by rfl) T.b_int (by decide +kernel)) (pez_and (pez_not (pe_isi (kd := .bool) (zv 0) (by rfl) T.b_isinstance (by decide +kernel) (by rfl) T.b_bool (by decide +kernel))) (pe_one (pez_chain op_zLt op_zLt (pez_neg (pe_cint rfl T.n_BEYOND)) (zv 0) (pe_cint rfl T.n_BEYOND)))))))
theorem sc_is_name : FnScope ["thing", "sign"] ["thing"] (defScope s_is_name) := ⟨rfl, rfl, rfl, by decide +kernel, rfl, by decide +kernel, by decide +kernel⟩
def R_is_name_3 (K : PySem.W.Frag) (g : Ads) (E : XK) : TS :=
  (tRet (tCB (rAll K) (tCons (zLc (iStr (zVar 0)) (gName 1) tYes (tOp (zIn K) (zVar 1) (tC (.str "abcdefghijklmnopqrstuvwxyz"))) [1]) tNil)))
def R_is_name (K : PySem.W.Frag) (g : Ads) (E : XK) : TS :=
  (tSeq (tIfS (tOr (tNot (zTru K (zIsiT K .str (zVar 0)))) (tOr (tNot (zTest (zChain zLe zLe (tC (.int 1)) (tCB (zLen K) (tCons (zVar 0) tNil)) (tC (.int 8))))) (zTest (tOp (zEq K) (zVar 0) (tC (.str "none"))))))
  (tRet (tC (.bl false)))
  tNext)
  (R_is_name_3 K g E))
def rw_is_name (K : PySem.W.Frag) (g : Ads) : Sp := fun vs H Q E => vs.length = 1 ∧ R_is_name K g E { nx := fun _ H' => Q .non H', rt := Q } (start ["thing", "sign"] vs) H
theorem raw_is_name {P : Program} {w : World} {K : PySem.W.Frag} {mg : Str → Option Value} {base : Heap} {g : Ads} (T : Txt K mg g) : FnZ P w K mg base 1 g.f_is_name g.d_is_name ["thing"] (rw_is_name K g) := by
  refine okZ T.f_is_name sc_is_name (fun vs H Q E h => h.1) (fun cdv A outer s H vs Q E hr hgu h => ⟨R_is_name K g E, ?_, h.2⟩)
  exact (pss_cons (ps_if (PW.pt (pw_or (pt_not (ptz_truth (pe_isi (kd := .str) (zv 0) (by rfl) T.b_isinstance (by decide +kernel) (by rfl) T.b_str (by decide +kernel)) (by intro _; rfl))) (pw_or (pt_not (ptz_chain op_zLe op_zLe pe_int (pe_callB call_lenZ (by rfl) T.b_len (by decide +kernel) (pa_cons (zv 0) pa_nil)) (pe_cint rfl T.n_MOST_SIGNS))) (pw_or1 (ptz_cmp (op_zEq hr.units) (zv 0) pe_str (nomark _))))))
  (pss_one (ps_ret pe_bl))
  pss_nil)
  (pss_one (ps_ret (pe_callB (cr_all rfl) (by rfl) T.b_all (by decide +kernel) (pa_cons (pez_lc (own := [("sign", 1)]) rfl sc_is_name.nd (pi_str (zv 0)) (blkOk_by (own := [("sign", 1)]) (N := ["thing", "sign"]) (sc := defScope s_is_name) (by decide +kernel)) (fun _ _ _ _ _ => pg_name (i := 1) sc_is_name.nd rfl (Or.inl rfl)) (fun _ _ _ _ _ => pts_nil) (fun _ _ _ _ _ => (pe_cmpR op_zIn (zv 1) (pe_cstr rfl T.n_LETTERS) (by rfl)))) pa_nil)))))
end Z
namespace Z
open PySem PySem.Spec PyProof.Rows L2
/-- a value of which isinstance knows the kind -/
def Knd (K : PySem.W.Frag) (H : Hp) (v : V) : Prop := match v with
  | .non => True | .bl _ => True | .int _ => True | .str z => z.length ≤ 1000
  | .ref a => ∃ t, KndR K H a t
  | _ => False
def isIntV (v : V) : Bool := match v with
  | .int i => decide (-100000000000000000000 < i) && decide (i < 100000000000000000000)
  | _ => false
def sp_is_int (K : PySem.W.Frag) (g : Ads) : Sp := fun vs H Q E => ∃ v, vs = [v] ∧ Knd K H v ∧ Q (.bl (isIntV v)) H
theorem pf_is_int {K : PySem.W.Frag} {g : Ads} (vs : List V) (H : Hp) (Q : VK) (E : XK) (h : sp_is_int K g vs H Q E) : rw_is_int K g vs H Q E := by
  obtain ⟨v, rfl, hk, q⟩ := h
  refine ⟨rfl, ?_⟩
  cases v with
  | non => exact q
  | bl b => exact q
  | str b => exact q
  | int i =>
    show if decide (-100000000000000000000 < i) = true then Q (.bl (decide (i < 100000000000000000000))) H else Q (.bl false) H
    refine zite (fun h => ?_) (fun h => ?_)
    · simpa [isIntV, h] using q
    · simpa [isIntV, h] using q
  | ref a =>
    obtain ⟨t, ht⟩ := hk
    cases t <;> first | exact ht.elim | exact ⟨_, ht, q⟩
  | _ => exact hk.elim
/-- the signs of a name -/
def lettB (z : Str) : Bool := ((List.range z.cps.size).map fun i => decide (z.cps.getD i 0 ∈ ("abcdefghijklmnopqrstuvwxyz" : Str).cps.toList)).all id
def nameB (z : Str) : Bool := decide ((1 : Int) ≤ z.length) && decide ((z.length : Int) ≤ 8) && !decide (z = "none") && lettB z
def isNameV (v : V) : Bool := match v with
  | .str z => nameB z
  | _ => false
def sp_is_name (K : PySem.W.Frag) (g : Ads) : Sp := fun vs H Q E => ∃ v, vs = [v] ∧ Knd K H v ∧ ∀ H', Same H H' → Q (.bl (isNameV v)) H'
theorem pf_is_name {K : PySem.W.Frag} {g : Ads} (vs : List V) (H : Hp) (Q : VK) (E : XK) (h : sp_is_name K g vs H Q E) : rw_is_name K g vs H Q E := by
  obtain ⟨v, rfl, hk, q⟩ := h
  refine ⟨rfl, ?_⟩
  cases v with
  | non => exact q H (Same.refl H)
  | bl b => exact q H (Same.refl H)
  | int b => exact q H (Same.refl H)
  | ref a =>
    obtain ⟨t, ht⟩ := hk
    cases t <;> first | exact ht.elim | exact ⟨_, ht, q H (Same.refl H)⟩
  | str z =>
    have hz : z.length ≤ 1000 := hk
    refine ⟨Nat.le_trans hz (by decide), zite (fun h1 => ?_) (fun h1 => ?_)⟩
    · refine zite (fun h2 => ?_) (fun h2 => ?_)
      · have e : isNameV (.str z) = false := by simp [isNameV, nameB] at h2 ⊢; omega
        rw [e] at q
        exact q H (Same.refl H)
      · refine .inl ⟨rfl, zite (fun h3 => ?_) (fun h3 => ?_)⟩
        · have e : isNameV (.str z) = false := by simp [isNameV, nameB] at h3 ⊢; simp [h3]
          rw [e] at q
          exact q H (Same.refl H)
        · refine ⟨z, rfl, lc_map walk_str (fun i => .bl (decide (z.cps.getD i 0 ∈ ("abcdefghijklmnopqrstuvwxyz" : Str).cps.toList))) ?_ (fun _ _ => trivial) (fun i x H0 H' hi s y => ?_) (fun D hD => ?_)⟩
          · exact Nat.le_trans hz (by decide)
          · obtain ⟨rfl, c, hc, rfl⟩ := y
            refine ⟨rfl, _, fun R r => r, rfl, fun R r => r, fun R r => .inl ⟨c, _, rfl, rfl, ?_⟩⟩
            have e : z.cps.getD i 0 = c := by simp [Array.getD_eq_getD_getElem?, hc]
            rw [← e]
            exact r
          · refine ⟨D, (List.range z.cps.size).map fun i => decide (z.cps.getD i 0 ∈ ("abcdefghijklmnopqrstuvwxyz" : Str).cps.toList), rfl, SqL.of ?_, ?_⟩
            · rw [upd_same, List.map_map]
              rfl
            · have e : isNameV (.str z) = lettB z := by
                have a1 : ¬ z = "none" := by simpa using h3
                have a2 : (1 : Int) ≤ z.length := by simpa using h1
                have a3 : (z.length : Int) ≤ 8 := by simpa using h2
                simp [isNameV, nameB, a1, a2, a3]
              have q' := q _ (Same.put (o := .lst ((List.range z.cps.size).map fun i => V.bl (decide (z.cps.getD i 0 ∈ ("abcdefghijklmnopqrstuvwxyz" : Str).cps.toList)))) hD)
              rw [e] at q'
              exact q'
    · have e : isNameV (.str z) = false := by
        have a1 : ¬ (1 : Int) ≤ z.length := by simpa using h1
        simp [isNameV, nameB, a1]
      rw [e] at q
      exact q H (Same.refl H)
  | _ => exact hk.elim
end Z
namespace Z
open PySem PySem.Spec PyProof.Rows L2
theorem ok_is_int {P : Program} {w : World} {K : PySem.W.Frag} {mg : Str → Option Value} {base : Heap} {g : Ads} (T : Txt K mg g) : FnZ P w K mg base 1 g.f_is_int g.d_is_int ["thing"] (sp_is_int K g) := (raw_is_int T).imp pf_is_int
theorem ok_is_name {P : Program} {w : World} {K : PySem.W.Frag} {mg : Str → Option Value} {base : Heap} {g : Ads} (T : Txt K mg g) : FnZ P w K mg base 1 g.f_is_name g.d_is_name ["thing"] (sp_is_name K g) := (raw_is_name T).imp pf_is_name
/-! ### an error with one field -/
def sp_x1 (C : Addr) (f : Str) : Sp := fun vs H Q E => ∃ a v, vs = [.ref a, v] ∧ H a = some (exo a C none) ∧
  ∀ dx, H dx = none → dx ≠ a → Q .non (upd (upd H dx (exd dx [(f, v)])) a (exo a C (some dx)))
theorem raise_at {C : Addr} {f : Str} {v : V} {H : Hp} {R : XK} (k : ∀ d, H d = none → R (.ref C) (some d) (upd H d (.xd [(f, v)]))) :
    [v].length ≤ 1000 ∧ ∀ a, H a = none → sp_x1 C f (.ref a :: [v]) (upd H a (exo a C none))
      (fun v' H2 => v' = .non ∧ ∃ (d : Addr) (fs : List (Str × V)), H2 a = some (exo a C (some d)) ∧ H2 d = some (exd d fs) ∧ H d = none ∧ R (.ref C) (some d) (upd (del H2 a) d (.xd fs))) E0 := by
  refine ⟨by simp, fun a ha => ⟨a, v, rfl, upd_same, fun dx hdx ne => ⟨rfl, dx, [(f, v)], upd_same, by rw [upd_ne ne, upd_same], ?_, ?_⟩⟩⟩
  · rw [upd_ne ne] at hdx
    exact hdx
  · have hd : H dx = none := by
      rw [upd_ne ne] at hdx
      exact hdx
    have e : upd (del (upd (upd (upd H a (exo a C none)) dx (exd dx [(f, v)])) a (exo a C (some dx))) a) dx (.xd [(f, v)]) = upd H dx (.xd [(f, v)]) := by
      funext b
      by_cases h1 : b = dx
      · rw [h1, upd_same, upd_same]
      · rw [upd_ne h1, upd_ne h1]
        by_cases h2 : b = a
        · rw [h2, del_same, ha]
        · rw [del_ne h2, upd_ne h2, upd_ne h1, upd_ne h2]
    rw [e]
    exact k dx hd
def sp_BadName_init (K : PySem.W.Frag) (g : Ads) : Sp := sp_x1 g.c_BadName "name"
def sp_BadValue_init (K : PySem.W.Frag) (g : Ads) : Sp := sp_x1 g.c_BadValue "value"
theorem sc_BadName_init : FnScope ["self", "name"] ["self", "name"] (defScope s_BadName_init) := ⟨rfl, rfl, rfl, by decide +kernel, rfl, by decide +kernel, by decide +kernel⟩
def R_BadName_init (K : PySem.W.Frag) (g : Ads) (E : XK) : TS :=
  (tOst K "name" (zVar 0) (zVar 1))
def rw_BadName_init (K : PySem.W.Frag) (g : Ads) : Sp := fun vs H Q E => vs.length = 2 ∧ R_BadName_init K g E { nx := fun _ H' => Q .non H', rt := Q } (start ["self", "name"] vs) H
theorem raw_BadName_init {P : Program} {w : World} {K : PySem.W.Frag} {mg : Str → Option Value} {base : Heap} {g : Ads} (T : Txt K mg g) : FnZ P w K mg base 1 g.f_BadName_init g.d_BadName_init ["self", "name"] (rw_BadName_init K g) := by
  refine okZ T.f_BadName_init sc_BadName_init (fun vs H Q E h => h.1) (fun cdv A outer s H vs Q E hr hgu h => ⟨R_BadName_init K g E, ?_, h.2⟩)
  exact (pss_one (ps_ost (zv 0) (zv 1)))
theorem sc_BadValue_init : FnScope ["self", "value"] ["self", "value"] (defScope s_BadValue_init) := ⟨rfl, rfl, rfl, by decide +kernel, rfl, by decide +kernel, by decide +kernel⟩
def R_BadValue_init (K : PySem.W.Frag) (g : Ads) (E : XK) : TS :=
  (tOst K "value" (zVar 0) (zVar 1))
def rw_BadValue_init (K : PySem.W.Frag) (g : Ads) : Sp := fun vs H Q E => vs.length = 2 ∧ R_BadValue_init K g E { nx := fun _ H' => Q .non H', rt := Q } (start ["self", "value"] vs) H
theorem raw_BadValue_init {P : Program} {w : World} {K : PySem.W.Frag} {mg : Str → Option Value} {base : Heap} {g : Ads} (T : Txt K mg g) : FnZ P w K mg base 1 g.f_BadValue_init g.d_BadValue_init ["self", "value"] (rw_BadValue_init K g) := by
  refine okZ T.f_BadValue_init sc_BadValue_init (fun vs H Q E h => h.1) (fun cdv A outer s H vs Q E hr hgu h => ⟨R_BadValue_init K g E, ?_, h.2⟩)
  exact (pss_one (ps_ost (zv 0) (zv 1)))
section
variable {P : Program} {w : World} {K : PySem.W.Frag} {mg : Str → Option Value} {base : Heap} {g : Ads}
theorem ok_BadName_init (T : Txt K mg g) : FnZ P w K mg base 1 g.f_BadName_init g.d_BadName_init ["self", "name"] (sp_BadName_init K g) :=
  (raw_BadName_init T).imp fun vs H Q E ⟨a, v, e, ha, k⟩ => by
    subst e
    exact ⟨rfl, a, g.c_BadName, rfl, T.o_BadName, T.a_BadName_name, .inl ⟨ha, k⟩⟩
theorem ok_BadValue_init (T : Txt K mg g) : FnZ P w K mg base 1 g.f_BadValue_init g.d_BadValue_init ["self", "value"] (sp_BadValue_init K g) :=
  (raw_BadValue_init T).imp fun vs H Q E ⟨a, v, e, ha, k⟩ => by
    subst e
    exact ⟨rfl, a, g.c_BadValue, rfl, T.o_BadValue, T.a_BadValue_value, .inl ⟨ha, k⟩⟩
end
theorem sc_check_name : FnScope ["thing"] ["thing"] (defScope s_check_name) := ⟨rfl, rfl, rfl, by decide +kernel, rfl, by decide +kernel, by decide +kernel⟩
def R_check_name_2 (K : PySem.W.Frag) (g : Ads) (E : XK) : TS :=
  (zRaise (fun cls d _ H => E cls d H) g.c_BadName (sp_BadName_init K g) (tCons (zVar 0) tNil))
def R_check_name (K : PySem.W.Frag) (g : Ads) (E : XK) : TS :=
  (tSeq (tIfS (tNot (zTru K (zCall (sp_is_name K g) [] (WE (fun cls d _ H => E cls d H)) (tCons (zVar 0) tNil))))
  (R_check_name_2 K g E)
  tNext)
  (tRet (zVar 0)))
def rw_check_name (K : PySem.W.Frag) (g : Ads) : Sp := fun vs H Q E => vs.length = 1 ∧ R_check_name K g E { nx := fun _ H' => Q .non H', rt := Q } (start ["thing"] vs) H
theorem raw_check_name {P : Program} {w : World} {K : PySem.W.Frag} {mg : Str → Option Value} {base : Heap} {g : Ads} (T : Txt K mg g) : FnZ P w K mg base 3 g.f_check_name g.d_check_name ["thing"] (rw_check_name K g) := by
  refine okZ T.f_check_name sc_check_name (fun vs H Q E h => h.1) (fun cdv A outer s H vs Q E hr hgu h => ⟨R_check_name K g E, ?_, h.2⟩)
  exact (pss_cons (ps_if (pt_not (ptz_truth (pe_callZ (ok_is_name T) (hr.mono (by decide)) hgu rfl T.g_is_name T.k_is_name T.e_is_name .nil (fun σ => passAt (takes_of rfl rfl rfl rfl) σ) (pa_cons (zv 0) pa_nil)) (by intro _; rfl)))
  (pss_one (ps_raise rfl (takes_of rfl rfl rfl rfl) (pmk_Z T.o_BadName T.i_BadName T.t_BadName (ok_BadName_init T) (hr.mono (by decide)) hgu T.e_BadName_init rfl T.g_BadName (by exact (pa_cons (zv 0) pa_nil)))))
  pss_nil)
  (pss_one (ps_ret (zv 0))))
theorem sc_check_operand : FnScope ["thing"] ["thing"] (defScope s_check_operand) := ⟨rfl, rfl, rfl, by decide +kernel, rfl, by decide +kernel, by decide +kernel⟩
def R_check_operand_2 (K : PySem.W.Frag) (g : Ads) (E : XK) : TS :=
  (zRaise (fun cls d _ H => E cls d H) g.c_BadValue (sp_BadValue_init K g) (tCons (zVar 0) tNil))
def R_check_operand (K : PySem.W.Frag) (g : Ads) (E : XK) : TS :=
  (tSeq (tIfS (tAnd (zTest (tOp zIsnt (zVar 0) (tC .non))) (tAnd (tNot (zTru K (zCall (sp_is_int K g) [] (WE (fun cls d _ H => E cls d H)) (tCons (zVar 0) tNil)))) (tNot (zTru K (zCall (sp_is_name K g) [] (WE (fun cls d _ H => E cls d H)) (tCons (zVar 0) tNil))))))
  (R_check_operand_2 K g E)
  tNext)
  (tRet (zVar 0)))
def rw_check_operand (K : PySem.W.Frag) (g : Ads) : Sp := fun vs H Q E => vs.length = 1 ∧ R_check_operand K g E { nx := fun _ H' => Q .non H', rt := Q } (start ["thing"] vs) H
theorem raw_check_operand {P : Program} {w : World} {K : PySem.W.Frag} {mg : Str → Option Value} {base : Heap} {g : Ads} (T : Txt K mg g) : FnZ P w K mg base 3 g.f_check_operand g.d_check_operand ["thing"] (rw_check_operand K g) := by
  refine okZ T.f_check_operand sc_check_operand (fun vs H Q E h => h.1) (fun cdv A outer s H vs Q E hr hgu h => ⟨R_check_operand K g E, ?_, h.2⟩)
  exact (pss_cons (ps_if (PW.pt (pw_and (ptz_cmp op_zIsnt (zv 0) pe_non (nomark _)) (pw_and (pt_not (ptz_truth (pe_callZ (ok_is_int T) (hr.mono (by decide)) hgu rfl T.g_is_int T.k_is_int T.e_is_int .nil (fun σ => passAt (takes_of rfl rfl rfl rfl) σ) (pa_cons (zv 0) pa_nil)) (by intro _; rfl))) (pw_and1 (pt_not (ptz_truth (pe_callZ (ok_is_name T) (hr.mono (by decide)) hgu rfl T.g_is_name T.k_is_name T.e_is_name .nil (fun σ => passAt (takes_of rfl rfl rfl rfl) σ) (pa_cons (zv 0) pa_nil)) (by intro _; rfl)))))))
  (pss_one (ps_raise rfl (takes_of rfl rfl rfl rfl) (pmk_Z T.o_BadValue T.i_BadValue T.t_BadValue (ok_BadValue_init T) (hr.mono (by decide)) hgu T.e_BadValue_init rfl T.g_BadValue (by exact (pa_cons (zv 0) pa_nil)))))
  pss_nil)
  (pss_one (ps_ret (zv 0))))
theorem Knd.same {K : PySem.W.Frag} {H H' : Hp} {v : V} (k : Knd K H v) (s : Same H H') : Knd K H' v := by
  cases v with
  | ref a =>
    obtain ⟨t, ht⟩ := k
    refine ⟨t, ?_⟩
    cases t with
    | list => exact ht.imp fun xs q => s.seq q
    | tuple =>
      obtain ⟨xs, q⟩ := ht
      refine ⟨xs, ?_⟩
      rcases q with (h | ⟨o, h⟩) | h
      · exact .inl (.inl (s _ _ h))
      · exact .inl (.inr ⟨o, s _ _ h⟩)
      · exact .inr h
    | dict =>
      rcases ht with ⟨x, h⟩ | ⟨x, h⟩
      · exact .inl ⟨x, s _ _ h⟩
      · exact .inr ⟨x, s _ _ h⟩
    | _ => exact ht.elim
  | non => trivial
  | bl _ => trivial
  | int _ => trivial
  | str _ => exact k
  | _ => exact k.elim
def sp_check_name (K : PySem.W.Frag) (g : Ads) : Sp := fun vs H Q E => ∃ v, vs = [v] ∧ Knd K H v ∧ (isNameV v = true → ∀ H', Same H H' → Q v H') ∧
  (isNameV v = false → ∀ H' d, Same H H' → H d = none → H' d = some (.xd [("name", v)]) → E (.ref g.c_BadName) (some d) H')
theorem pf_check_name {K : PySem.W.Frag} {g : Ads} (vs : List V) (H : Hp) (Q : VK) (E : XK) (h : sp_check_name K g vs H Q E) : rw_check_name K g vs H Q E := by
  obtain ⟨v, rfl, hk, q1, q2⟩ := h
  refine ⟨rfl, ⟨v, rfl, hk, fun H' s => ?_⟩⟩
  cases e : isNameV v with
  | true => exact q1 e H' s
  | false => exact raise_at fun d hd => q2 e _ d (s.trans (Same.put hd)) (s.free hd) upd_same
def isOperV (v : V) : Bool := decide (v = .non) || isIntV v || isNameV v
def sp_check_operand (K : PySem.W.Frag) (g : Ads) : Sp := fun vs H Q E => ∃ v, vs = [v] ∧ Knd K H v ∧ (isOperV v = true → ∀ H', Same H H' → Q v H') ∧
  (isOperV v = false → ∀ H' d, Same H H' → H d = none → H' d = some (.xd [("value", v)]) → E (.ref g.c_BadValue) (some d) H')
theorem pf_check_operand {K : PySem.W.Frag} {g : Ads} (vs : List V) (H : Hp) (Q : VK) (E : XK) (h : sp_check_operand K g vs H Q E) : rw_check_operand K g vs H Q E := by
  obtain ⟨v, rfl, hk, q1, q2⟩ := h
  refine ⟨rfl, rfl, zite (fun h1 => ?_) (fun h1 => ?_)⟩
  · have n1 : ¬ v = .non := by simpa using h1
    refine ⟨v, rfl, hk, zite (fun h2 => ?_) (fun h2 => ?_)⟩
    · have e2 : isIntV v = false := by simpa using h2
      refine ⟨v, rfl, hk, fun H' s => zite (fun h3 => ?_) (fun h3 => ?_)⟩
      · have e3 : isNameV v = false := by simpa using h3
        exact raise_at fun d hd => q2 (by simp [isOperV, n1, e2, e3]) _ d (s.trans (Same.put hd)) (s.free hd) upd_same
      · exact q1 (by simp [isOperV] at h3 ⊢; simp [h3]) H' s
    · exact q1 (by simp [isOperV] at h2 ⊢; simp [h2]) H (Same.refl H)
  · exact q1 (by simp [isOperV] at h1 ⊢; simp [h1]) H (Same.refl H)
end Z
namespace Z
open PySem PySem.Spec PyProof.Rows L2
theorem sc_law_deck : FnScope ["script", "turn", "cell", "words", "mix", "k", "word", "one"] ["script", "turn"] (defScope s_law_deck) := ⟨rfl, rfl, rfl, by decide +kernel, rfl, by decide +kernel, by decide +kernel⟩
def R_law_deck_5 (K : PySem.W.Frag) (g : Ads) (E : XK) : TS :=
  (tAsg (tOp zMod (tCB rInt1 (tCons (tOp zAdd (tOp zAdd (tOp zMul (zVar 4) (tC (.int 69069))) (zVar 6)) (tOp zMul (tC (.int 17)) (zVar 5))) tNil)) (tC (.int 2147483629))) (gName 4))
def R_law_deck_6 (K : PySem.W.Frag) (g : Ads) (E : XK) : TS :=
  (tRet (tLst (tCons (tIf (zTest (tOp zGe (zVar 2) (tOp zPow (tC (.int 10)) (tC (.int 18))))) (zVar 2) (tC (.int 0))) (tCons (zVar 4) (tCons (zVar 3) (tCons (zVar 1) tNil))))))
def R_law_deck_4 (K : PySem.W.Frag) (g : Ads) (E : XK) : TS :=
  (tSeq (zFor (iEnum K (tCons (zVar 3) tNil)) (gTup K 2 (gCons (gName 5) (gCons (gName 6) gNil)))
  (R_law_deck_5 K g E))
  (R_law_deck_6 K g E))
def R_law_deck_3 (K : PySem.W.Frag) (g : Ads) (E : XK) : TS :=
  (tSeq (tAsg (tOp zAdd (tC (.int 271)) (tOp zMul (tC (.int 1009)) (zVar 1))) (gName 4))
  (R_law_deck_4 K g E))
def R_law_deck_2 (K : PySem.W.Frag) (g : Ads) (E : XK) : TS :=
  (tSeq (tAsg (zLc (iList K (tSl (rSlL K) (zVar 0) tNoPart (tPart (tC (.int 63))))) (gName 7) tYes (tOp zMod (tCB rAbs (tCons (tCB rInt1 (tCons (zVar 7) tNil)) tNil)) (tC (.int 2147483563))) [7]) (gName 3))
  (R_law_deck_3 K g E))
def R_law_deck (K : PySem.W.Frag) (g : Ads) (E : XK) : TS :=
  (tSeq (tAsg (tIf (zTest (tOp zLt (zVar 1) (tCB (zLen K) (tCons (zVar 0) tNil)))) (tCB rAbs (tCons (tCB rInt1 (tCons (tOp (zIx K) (zVar 0) (zVar 1)) tNil)) tNil)) (tC (.int 0))) (gName 2))
  (R_law_deck_2 K g E))
def rw_law_deck (K : PySem.W.Frag) (g : Ads) : Sp := fun vs H Q E => vs.length = 2 ∧ R_law_deck K g E { nx := fun _ H' => Q .non H', rt := Q } (start ["script", "turn", "cell", "words", "mix", "k", "word", "one"] vs) H
theorem raw_law_deck {P : Program} {w : World} {K : PySem.W.Frag} {mg : Str → Option Value} {base : Heap} {g : Ads} (T : Txt K mg g) : FnZ P w K mg base 1 g.f_law_deck g.d_law_deck ["script", "turn"] (rw_law_deck K g) := by
  refine okZ T.f_law_deck sc_law_deck (fun vs H Q E h => h.1) (fun cdv A outer s H vs Q E hr hgu h => ⟨R_law_deck K g E, ?_, h.2⟩)
  exact (pss_cons (ps_set (i := 2) sc_law_deck.nd rfl (Or.inl rfl) (pe_ifExp (ptz_cmp op_zLt (zv 1) (pe_callB call_lenZ (by rfl) T.b_len (by decide +kernel) (pa_cons (zv 0) pa_nil)) (nomark _)) (pe_callB call_absZ (by rfl) T.b_abs (by decide +kernel) (pa_cons (pe_callTy call_intZ (by rfl) T.b_int (by decide +kernel) (pa_cons (pe_ix ix_z (zv 0) (zv 1) (fun _ _ => rfl)) pa_nil)) pa_nil)) pe_int))
  (pss_cons (psz_setLc (i := 3) (own := [("one", 7)]) rfl sc_law_deck.nd rfl rfl (sw_true rfl rfl rfl (by decide +kernel)) (pi_list (pe_slice sl_list (zv 0) po_none (po_some pe_int))) (blkOk_by (own := [("one", 7)]) (N := ["script", "turn", "cell", "words", "mix", "k", "word", "one"]) (sc := defScope s_law_deck) (by decide +kernel)) (fun _ _ _ _ _ => pg_name (i := 7) sc_law_deck.nd rfl (Or.inl rfl)) (fun _ _ _ _ _ => pts_nil) (fun _ _ _ _ _ => (pe_op op_zMod (pe_callB call_absZ (by rfl) T.b_abs (by decide +kernel) (pa_cons (pe_callTy call_intZ (by rfl) T.b_int (by decide +kernel) (pa_cons (zv 7) pa_nil)) pa_nil)) pe_int)))
  (pss_cons (ps_set (i := 4) sc_law_deck.nd rfl (Or.inl rfl) (pe_op op_zAdd pe_int (pe_op op_zMul pe_int (zv 1))))
  (pss_cons (psz_for PassesOwn.leaving rfl (pi_enum (by rfl) T.b_enumerate (pa_cons (zv 3) pa_nil)) (pg_tup rfl (pgs_cons (pg_name (i := 5) sc_law_deck.nd rfl (Or.inl rfl)) (pgs_cons (pg_name (i := 6) sc_law_deck.nd rfl (Or.inl rfl)) pgs_nil)))
  (pss_one (ps_set (i := 4) sc_law_deck.nd rfl (Or.inl rfl) (pe_op op_zMod (pe_callTy call_intZ (by rfl) T.b_int (by decide +kernel) (pa_cons (pe_op op_zAdd (pe_op op_zAdd (pe_op op_zMul (zv 4) pe_int) (zv 6)) (pe_op op_zMul pe_int (zv 5))) pa_nil)) pe_int))))
  (pss_one (ps_ret (pe_lst (pa_cons (pe_ifExp (ptz_cmp op_zGe (zv 2) (pe_op op_zPow pe_int pe_int) (nomark _)) (zv 2) pe_int) (pa_cons (zv 4) (pa_cons (zv 3) (pa_cons (zv 1) pa_nil)))))))))))
theorem sc_law_draw : FnScope ["deck", "many", "digit", "words", "more"] ["deck", "many"] (defScope s_law_draw) := ⟨rfl, rfl, rfl, by decide +kernel, rfl, by decide +kernel, by decide +kernel⟩
def R_law_draw_3 (K : PySem.W.Frag) (g : Ads) (E : XK) : TS :=
  (tSeq (tAsg (tOp zFdiv (tOp (zIx K) (zVar 0) (tC (.int 0))) (zVar 1)) (gSub (zVar 0) (tC (.int 0)) rSetL))
  (tRet (zVar 2)))
def R_law_draw_2 (K : PySem.W.Frag) (g : Ads) (E : XK) : TS :=
  (tSeq (tAsg (tOp zMod (tCB rInt1 (tCons (tOp (zIx K) (zVar 0) (tC (.int 0))) tNil)) (zVar 1)) (gName 2))
  (R_law_draw_3 K g E))
def R_law_draw_9 (K : PySem.W.Frag) (g : Ads) (E : XK) : TS :=
  (tRet (tOp zMod (tOp zFdiv (tOp zMod (tCB rInt1 (tCons (tOp zAdd (tOp zMul (tOp zFdiv (tOp (zIx K) (zVar 0) (tC (.int 1))) (tC (.int 7))) (tC (.int 48271))) (tOp (zIx K) (zVar 0) (tC (.int 3)))) tNil)) (tC (.int 2147483587))) (tC (.int 32))) (zVar 1)))
def R_law_draw_8 (K : PySem.W.Frag) (g : Ads) (E : XK) : TS :=
  (tSeq (tAsg (tOp zMod (tCB rInt1 (tCons (tOp zAdd (tOp zAdd (tOp zMul (tOp (zIx K) (zVar 0) (tC (.int 1))) (tC (.int 16807))) (zVar 4)) (tOp zMul (tC (.int 7)) (tOp (zIx K) (zVar 0) (tC (.int 3))))) tNil)) (tC (.int 2147483629))) (gSub (zVar 0) (tC (.int 1)) rSetL))
  (R_law_draw_9 K g E))
def R_law_draw_7 (K : PySem.W.Frag) (g : Ads) (E : XK) : TS :=
  (tSeq (tAsg (tIf (zTest (tOp (zNe K) (zVar 3) (tLst tNil))) (tOp (zIx K) (zVar 3) (tOp zMod (tCB rInt1 (tCons (tOp (zIx K) (zVar 0) (tC (.int 3))) tNil)) (tCB (zLen K) (tCons (zVar 3) tNil)))) (tC (.int 0))) (gName 4))
  (R_law_draw_8 K g E))
def R_law_draw_6 (K : PySem.W.Frag) (g : Ads) (E : XK) : TS :=
  (tSeq (tAsg (tOp zAdd (tOp (zIx K) (zVar 0) (tC (.int 3))) (tC (.int 1))) (gSub (zVar 0) (tC (.int 3)) rSetL))
  (R_law_draw_7 K g E))
def R_law_draw_5 (K : PySem.W.Frag) (g : Ads) (E : XK) : TS :=
  (tSeq (tAsg (tOp (zIx K) (zVar 0) (tC (.int 2))) (gName 3))
  (R_law_draw_6 K g E))
def R_law_draw (K : PySem.W.Frag) (g : Ads) (E : XK) : TS :=
  (tSeq (tIfS (zTest (tOp zGt (tOp (zIx K) (zVar 0) (tC (.int 0))) (tC (.int 0))))
  (R_law_draw_2 K g E)
  tNext)
  (R_law_draw_5 K g E))
def rw_law_draw (K : PySem.W.Frag) (g : Ads) : Sp := fun vs H Q E => vs.length = 2 ∧ R_law_draw K g E { nx := fun _ H' => Q .non H', rt := Q } (start ["deck", "many", "digit", "words", "more"] vs) H
theorem raw_law_draw {P : Program} {w : World} {K : PySem.W.Frag} {mg : Str → Option Value} {base : Heap} {g : Ads} (T : Txt K mg g) : FnZ P w K mg base 1 g.f_law_draw g.d_law_draw ["deck", "many"] (rw_law_draw K g) := by
  refine okZ T.f_law_draw sc_law_draw (fun vs H Q E h => h.1) (fun cdv A outer s H vs Q E hr hgu h => ⟨R_law_draw K g E, ?_, h.2⟩)
  exact (pss_cons (ps_if (ptz_cmp op_zGt (pe_ix ix_z (zv 0) pe_int (fun _ _ => rfl)) pe_int (nomark _))
  (pss_cons (ps_set (i := 2) sc_law_draw.nd rfl (Or.inl rfl) (pe_op op_zMod (pe_callTy call_intZ (by rfl) T.b_int (by decide +kernel) (pa_cons (pe_ix ix_z (zv 0) pe_int (fun _ _ => rfl)) pa_nil)) (zv 1)))
  (pss_cons (ps_asg (pe_op op_zFdiv (pe_ix ix_z (zv 0) pe_int (fun _ _ => rfl)) (zv 1)) (pg_sub (zv 0) pe_int set_list))
  (pss_one (ps_ret (zv 2)))))
  pss_nil)
  (pss_cons (ps_set (i := 3) sc_law_draw.nd rfl (Or.inl rfl) (pe_ix ix_z (zv 0) pe_int (fun _ _ => rfl)))
  (pss_cons (ps_asg (pe_op op_zAdd (pe_ix ix_z (zv 0) pe_int (fun _ _ => rfl)) pe_int) (pg_sub (zv 0) pe_int set_list))
  (pss_cons (ps_set (i := 4) sc_law_draw.nd rfl (Or.inl rfl) (pe_ifExp (ptz_cmp (op_zNe hr.units) (zv 3) (pe_lst pa_nil) (nomark _)) (pe_ix ix_z (zv 3) (pe_op op_zMod (pe_callTy call_intZ (by rfl) T.b_int (by decide +kernel) (pa_cons (pe_ix ix_z (zv 0) pe_int (fun _ _ => rfl)) pa_nil)) (pe_callB call_lenZ (by rfl) T.b_len (by decide +kernel) (pa_cons (zv 3) pa_nil))) (fun _ _ => rfl)) pe_int))
  (pss_cons (ps_asg (pe_op op_zMod (pe_callTy call_intZ (by rfl) T.b_int (by decide +kernel) (pa_cons (pe_op op_zAdd (pe_op op_zAdd (pe_op op_zMul (pe_ix ix_z (zv 0) pe_int (fun _ _ => rfl)) pe_int) (zv 4)) (pe_op op_zMul pe_int (pe_ix ix_z (zv 0) pe_int (fun _ _ => rfl)))) pa_nil)) pe_int) (pg_sub (zv 0) pe_int set_list))
  (pss_one (ps_ret (pe_op op_zMod (pe_op op_zFdiv (pe_op op_zMod (pe_callTy call_intZ (by rfl) T.b_int (by decide +kernel) (pa_cons (pe_op op_zAdd (pe_op op_zMul (pe_op op_zFdiv (pe_ix ix_z (zv 0) pe_int (fun _ _ => rfl)) pe_int) pe_int) (pe_ix ix_z (zv 0) pe_int (fun _ _ => rfl))) pa_nil)) pe_int) pe_int) (zv 1)))))))))
/-! ### what is drawn from -/
def DeckAt (H : Hp) (p wa : Addr) : Prop := ∃ (c m t : Int) (ws : List Int), H p = some (.lst [.int c, .int m, .ref wa, .int t]) ∧ H wa = some (.lst (ws.map V.int)) ∧ ws.length ≤ 63 ∧ 0 ≤ c
def sp_law_deck (K : PySem.W.Frag) (g : Ads) : Sp := fun vs H Q E => ∃ (a : Addr) (ns : List Int) (t : Int), vs = [.ref a, .int t] ∧ SqL K H a (ns.map V.int) ∧ ns.length ≤ 63 ∧ 0 ≤ t ∧
  ∀ p wa H', H p = none → H wa = none → Same H H' → DeckAt H' p wa → Q (.ref p) H'
theorem cut_ints (ns : List Int) (lo hi : Option Int) : ∃ ms : List Int, cutV (ns.map V.int) lo hi = ms.map V.int ∧ ms.length ≤ ns.length := by
  refine ⟨(ns.drop (HT.sIx ns.length 0 lo)).take (HT.sIx ns.length ns.length hi - HT.sIx ns.length 0 lo), ?_, ?_⟩
  · simp [cutV, List.map_take, List.map_drop]
  · simp; omega
theorem pf_law_deck {K : PySem.W.Frag} {g : Ads} (vs : List V) (H : Hp) (Q : VK) (E : XK) (h : sp_law_deck K g vs H Q E) : rw_law_deck K g vs H Q E := by
  obtain ⟨a, ns, t, rfl, hS, hl, ht, q⟩ := h
  refine ⟨rfl, ⟨_, .inl hS, ?_⟩⟩
  -- behind the first statement: any cell
  have go : ∀ c : Int, 0 ≤ c → R_law_deck_2 K g E { nx := fun _ H' => Q .non H', rt := Q } [some (.ref a), some (.int t), some (.int c), none, none, none, none, none] H := by
    intro c hc
    refine ⟨63, rfl, a, _, rfl, hS, fun p hp => ?_⟩
    obtain ⟨ms, em, lm⟩ := cut_ints ns none (some 63)
    rw [em]
    refine ⟨p, rfl, ⟨_, .inl (.inl upd_same)⟩, lc_map (walk_list (xs := ms.map V.int)) (fun i => .int ((if ms.getD i 0 < 0 then -ms.getD i 0 else ms.getD i 0) % 2147483563)) ?_ (fun H' s => .inl (.inl (s _ _ upd_same))) (fun i x H0 H' hi s y => ?_) (fun D hD => ?_)⟩
    · rw [List.length_map]
      exact Nat.le_trans lm (Nat.le_trans hl (by decide))
    · obtain ⟨rfl, hx⟩ := y
      rw [List.getElem?_map] at hx
      cases e : ms[i]? with
      | none =>
        rw [e] at hx
        cases hx
      | some z =>
        rw [e] at hx
        cases hx
        refine ⟨rfl, _, fun R r => r, rfl, fun R r => r, fun R r => ⟨by decide, ?_⟩⟩
        have e2 : ms.getD i 0 = z := by simp [List.getD_eq_getElem?_getD, e]
        rw [e2] at r
        exact r
    · -- the words stand at D
      have hnp : D ≠ p := fun z => by
        rw [z, upd_same] at hD
        cases hD
      have hDn : H D = none := by
        rw [upd_ne hnp] at hD
        exact hD
      generalize hw : (List.range (ms.map V.int).length).map (fun i => (if ms.getD i 0 < 0 then -ms.getD i 0 else ms.getD i 0) % 2147483563) = ws
      have hw2 : (List.range (ms.map V.int).length).map (fun i => V.int ((if ms.getD i 0 < 0 then -ms.getD i 0 else ms.getD i 0) % 2147483563)) = ws.map V.int := by
        rw [← hw, List.map_map]
        rfl
      have lw : ws.length ≤ 63 := by
        rw [← hw]
        simp
        omega
      rw [hw2]
      have s1 : Same H (upd (upd H p (.lst (ms.map V.int))) D (.lst (ws.map V.int))) := (Same.put hp).trans (Same.put hD)
      refine ⟨.inl (by decide), D, _, rfl, SqL.of upd_same, for_z walk_enum (fun i σ H2 => ∃ (m : Int) (v5 v6 : Option V), σ = [some (.ref a), some (.int t), some (.int c), some (.ref D), some (.int m), v5, v6, none] ∧ Same (upd (upd H p (.lst (ms.map V.int))) D (.lst (ws.map V.int))) H2)
        ⟨_, none, none, rfl, Same.refl _⟩ (fun i σ H2 _ ⟨_, _, _, _, s2⟩ => SqL.of (s2 _ _ upd_same)) ?_ ?_⟩
      · rintro i x σ H2 H3 hi ⟨m, v5, v6, rfl, s2⟩ ⟨T, x1, x2, rfl, hT, rfl, e1, e2⟩
        cases e1
        have e2 : (ws.map V.int)[i]? = some x2 := e2
        rw [List.getElem?_map] at e2
        cases e : ws[i]? with
        | none =>
          rw [e] at e2
          cases e2
        | some z =>
          rw [e] at e2
          cases e2
          exact ⟨T, _, rfl, SqT.of upd_same, rfl, _, _, rfl, _, _, rfl, rfl, .inr (by decide), .inl (by decide), by decide, _, _, _, rfl, s2.trans (Same.put hT)⟩
      · rintro σ H2 ⟨m, v5, v6, rfl, s2⟩
        have fin : ∀ c' : Int, 0 ≤ c' → (4 ≤ sizeLine ∧ ∀ p2, H2 p2 = none → Q (.ref p2) (upd H2 p2 (.lst [.int c', .int m, .ref D, .int t]))) := by
          refine fun c' hc' => ⟨by decide, fun p2 hp2 => q _ D _ ((s1.trans s2).free hp2) hDn ((s1.trans s2).trans (Same.put hp2)) ⟨c', m, t, ws, upd_same, ?_, lw, hc'⟩⟩
          rw [upd_ne (ne_of_none (s2 _ _ upd_same) hp2)]
          exact s2 _ _ upd_same
        refine ⟨⟨by decide, by decide, by decide⟩, zite (fun _ => ?_) (fun _ => ?_)⟩
        · exact fin c hc
        · exact fin 0 (Int.le_refl 0)
  refine zite (fun h1 => ?_) (fun h1 => ?_)
  · have h1' : t < (ns.map V.int).length := by simpa using h1
    obtain ⟨k, rfl⟩ : ∃ k : Nat, t = k := ⟨t.toNat, by omega⟩
    have hk : k < ns.length := by
      rw [List.length_map] at h1'
      omega
    refine ⟨_, .int ns[k], .inl hS, atI_nat (by simp [hk]), ?_⟩
    exact go _ (by split <;> omega)
  · exact go 0 (Int.le_refl 0)
end Z
namespace Z
open PySem PySem.Spec PyProof.Rows L2
theorem deck_ne {H : Hp} {p wa : Addr} {c m t : Int} {ws : List Int} (h : H p = some (.lst [.int c, .int m, .ref wa, .int t])) (h2 : H wa = some (.lst (ws.map V.int))) : wa ≠ p := by
  intro e
  rw [e, h] at h2
  have z : [V.int c, .int m, .ref wa, .int t] = ws.map V.int := by
    injection h2 with h2
    injection h2
  have z2 : V.ref wa ∈ ws.map V.int := z ▸ (by simp)
  obtain ⟨x, _, hx⟩ := List.mem_map.mp z2
  cases hx
theorem divW {n : Int} (h0 : 0 < n) (h : n ≤ 1000000000000000000000000) : CDivW 1 n := wide_div h0 (b := 80) (by omega) (by decide) (by decide)
theorem dp_ints {K : PySem.W.Frag} {H : Hp} : ∀ ws : List Int, DpAll K H (ws.map V.int) (ws.map PyData.int)
  | [] => .nil
  | x :: r => .cons (.int x) (dp_ints r)
theorem lay_ints : ∀ ws : List Int, PyData.canLayAll0 (ws.map PyData.int) = true ∧ PyData.depthAll (ws.map PyData.int) = 0
  | [] => ⟨by simp only [List.map_nil, PyData.canLayAll0], by simp only [List.map_nil, PyData.depthAll]⟩
  | x :: r => by
    obtain ⟨h1, h2⟩ := lay_ints r
    constructor
    · simp only [List.map_cons, PyData.canLayAll0, PyData.canLay0, h1, Bool.and_self]
    · simp only [List.map_cons, PyData.depthAll, PyData.depth, h2, Nat.max_self]
theorem shaped_ints (ws : List Int) : SeqAt.shaped (.list (ws.map PyData.int)) = true := by
  obtain ⟨h1, h2⟩ := lay_ints ws
  simp only [SeqAt.shaped, PyData.canLay0, PyData.depth, h1, h2]
  decide
def sp_law_draw (K : PySem.W.Frag) (g : Ads) : Sp := fun vs H Q E => ∃ (p wa : Addr) (n : Int), vs = [.ref p, .int n] ∧ DeckAt H p wa ∧ 0 < n ∧ n ≤ 1000000000000000000000000 ∧
  ∀ r H', 0 ≤ r → r < n → DeckAt H' p wa → But p H H' → Q (.int r) H'
theorem pf_law_draw {K : PySem.W.Frag} {g : Ads} (vs : List V) (H : Hp) (Q : VK) (E : XK) (h : sp_law_draw K g vs H Q E) : rw_law_draw K g vs H Q E := by
  obtain ⟨p, wa, n, rfl, ⟨c, m, t, ws, h1, h2, h3, h4⟩, n0, n1, q⟩ := h
  have hne := deck_ne h1 h2
  refine ⟨rfl, ⟨_, _, .inl (SqL.of h1), rfl, zite (fun hc => ?_) (fun hc => ?_)⟩⟩
  · refine ⟨_, _, .inl (SqL.of h1), rfl, n0, _, _, .inl (SqL.of h1), rfl, divW n0 n1, p, _, _, _, rfl, rfl, h1, rfl, ?_⟩
    refine q _ _ (Int.emod_nonneg _ (by omega)) (Int.emod_lt_of_pos _ n0) ⟨c / n, m, t, ws, upd_same, ?_, h3, Int.ediv_nonneg h4 (by omega)⟩ But.put
    rw [upd_ne hne]
    exact h2
  · refine ⟨_, _, .inl (SqL.of h1), rfl, _, _, .inl (SqL.of h1), rfl, p, _, _, _, rfl, rfl, h1, rfl, ?_⟩
    -- deck[3] is one more; what is drawn of the words is any int
    have go : ∀ (more : Int) (H1 : Hp), H1 p = some (.lst [.int c, .int m, .ref wa, .int (t + 1)]) → H1 wa = some (.lst (ws.map V.int)) → But p H H1 →
        R_law_draw_8 K g E { nx := fun _ H' => Q .non H', rt := Q } [some (.ref p), some (.int n), none, some (.ref wa), some (.int more)] H1 := by
      intro more H1 a1 a2 a3
      refine ⟨_, _, .inl (SqL.of a1), rfl, .inr (by decide), _, _, .inl (SqL.of a1), rfl, .inl (by decide), by decide, p, _, _, _, rfl, rfl, a1, rfl, ?_⟩
      refine ⟨_, _, .inl (SqL.of upd_same), rfl, ⟨by decide, by decide⟩, .inr (by decide), _, _, .inl (SqL.of upd_same), rfl, by decide, ⟨by decide, by decide⟩, n0, ?_⟩
      refine q _ _ (Int.emod_nonneg _ (by omega)) (Int.emod_lt_of_pos _ n0) ⟨c, _, t + 1, ws, upd_same, ?_, h3, h4⟩ (a3.trans But.put)
      rw [upd_ne hne]
      exact a2
    have g1 : (upd H p (.lst [.int c, .int m, .ref wa, .int (t + 1)])) wa = some (.lst (ws.map V.int)) := by
      rw [upd_ne hne]
      exact h2
    refine ⟨by decide, fun b hb => .inr ⟨_, _, .lst (SqL.of ?_) (dp_ints ws), .lst (SqL.of upd_same) .nil, shaped_ints ws, by decide +kernel, ?_⟩⟩
    · rw [upd_ne (ne_of_none g1 hb)]
      exact g1
    · have np : p ≠ b := ne_of_none upd_same hb
      have g2 : (upd (upd H p (.lst [.int c, .int m, .ref wa, .int (t + 1)])) b (.lst [])) p = some (.lst [.int c, .int m, .ref wa, .int (t + 1)]) := by rw [upd_ne np, upd_same]
      have g3 : (upd (upd H p (.lst [.int c, .int m, .ref wa, .int (t + 1)])) b (.lst [])) wa = some (.lst (ws.map V.int)) := by
        rw [upd_ne (ne_of_none g1 hb)]
        exact g1
      have g4 : But p H (upd (upd H p (.lst [.int c, .int m, .ref wa, .int (t + 1)])) b (.lst [])) := But.put.trans (But.same (Same.put hb))
      cases ws with
      | nil => exact go 0 _ g2 g3 g4
      | cons x r =>
        have l0 : (0 : Int) < (((x :: r).map V.int).length : Nat) := by
          rw [List.length_map, List.length_cons]
          omega
        have hlt := Int.emod_lt_of_pos (t + 1) l0
        have hge := Int.emod_nonneg (t + 1) (show ((((x :: r).map V.int).length : Nat) : Int) ≠ 0 by omega)
        obtain ⟨k, hk⟩ : ∃ k : Nat, (t + 1) % ((((x :: r).map V.int).length : Nat) : Int) = k := ⟨((t + 1) % ((((x :: r).map V.int).length : Nat) : Int)).toNat, by omega⟩
        have hkl : k < (x :: r).length := by
          rw [hk, List.length_map] at hlt
          omega
        refine ⟨_, _, .inl (SqL.of g2), rfl, _, .inl (SqL.of g3), l0, _, .int (x :: r)[k], .inl (SqL.of g3), ?_, go _ _ g2 g3 g4⟩
        rw [hk]
        exact atI_nat (by rw [List.getElem?_map, List.getElem?_eq_getElem hkl]; rfl)
end Z
namespace Z
open PySem PySem.Spec PyProof.Rows L2
section
variable {P : Program} {w : World} {K : PySem.W.Frag} {mg : Str → Option Value} {base : Heap} {g : Ads}
theorem ok_check_name (T : Txt K mg g) : FnZ P w K mg base 3 g.f_check_name g.d_check_name ["thing"] (sp_check_name K g) := (raw_check_name T).imp pf_check_name
theorem ok_check_operand (T : Txt K mg g) : FnZ P w K mg base 3 g.f_check_operand g.d_check_operand ["thing"] (sp_check_operand K g) := (raw_check_operand T).imp pf_check_operand
theorem ok_law_deck (T : Txt K mg g) : FnZ P w K mg base 1 g.f_law_deck g.d_law_deck ["script", "turn"] (sp_law_deck K g) := (raw_law_deck T).imp pf_law_deck
theorem ok_law_draw (T : Txt K mg g) : FnZ P w K mg base 1 g.f_law_draw g.d_law_draw ["deck", "many"] (sp_law_draw K g) := (raw_law_draw T).imp pf_law_draw
end
theorem sc_law_of : FnScope ["deck", "some"] ["deck", "some"] (defScope s_law_of) := ⟨rfl, rfl, rfl, by decide +kernel, rfl, by decide +kernel, by decide +kernel⟩
def R_law_of (K : PySem.W.Frag) (g : Ads) (E : XK) : TS :=
  (tRet (tOp (zIx K) (zVar 1) (zCall (sp_law_draw K g) [] (WE (fun cls d _ H => E cls d H)) (tCons (zVar 0) (tCons (tCB (zLen K) (tCons (zVar 1) tNil)) tNil)))))
def rw_law_of (K : PySem.W.Frag) (g : Ads) : Sp := fun vs H Q E => vs.length = 2 ∧ R_law_of K g E { nx := fun _ H' => Q .non H', rt := Q } (start ["deck", "some"] vs) H
theorem raw_law_of {P : Program} {w : World} {K : PySem.W.Frag} {mg : Str → Option Value} {base : Heap} {g : Ads} (T : Txt K mg g) : FnZ P w K mg base 2 g.f_law_of g.d_law_of ["deck", "some"] (rw_law_of K g) := by
  refine okZ T.f_law_of sc_law_of (fun vs H Q E h => h.1) (fun cdv A outer s H vs Q E hr hgu h => ⟨R_law_of K g E, ?_, h.2⟩)
  exact (pss_one (ps_ret (pe_ix ix_z (zv 1) (pe_callZ (ok_law_draw T) (hr.mono (by decide)) hgu rfl T.g_law_draw T.k_law_draw T.e_law_draw .nil (fun σ => passAt (takes_of rfl rfl rfl rfl) σ) (pa_cons (zv 0) (pa_cons (pe_callB call_lenZ (by rfl) T.b_len (by decide +kernel) (pa_cons (zv 1) pa_nil)) pa_nil))) (fun _ _ => rfl))))
theorem But.seq {K : PySem.W.Frag} {p a : Addr} {H H' : Hp} {xs : List V} (b : But p H H') (n : a ≠ p) (h : SqL K H a xs) : SqL K H' a xs := by
  rcases h with (h | ⟨o, h⟩) | h
  · exact .inl (.inl (b _ _ h n))
  · exact .inl (.inr ⟨o, b _ _ h n⟩)
  · exact .inr h
theorem But.tup {K : PySem.W.Frag} {p a : Addr} {H H' : Hp} {xs : List V} (b : But p H H') (n : a ≠ p) (h : SqT K H a xs) : SqT K H' a xs := by
  rcases h with (h | ⟨o, h⟩) | h
  · exact .inl (.inl (b _ _ h n))
  · exact .inl (.inr ⟨o, b _ _ h n⟩)
  · exact .inr h
theorem DeckAt.same {H H' : Hp} {p wa : Addr} (d : DeckAt H p wa) (s : Same H H') : DeckAt H' p wa := by
  obtain ⟨c, m, t, ws, h1, h2, h3, h4⟩ := d
  exact ⟨c, m, t, ws, s _ _ h1, s _ _ h2, h3, h4⟩
theorem DeckAt.ne {H : Hp} {p wa b : Addr} (d : DeckAt H p wa) (n : H b = none) : b ≠ p := by
  obtain ⟨c, m, t, ws, h1, h2, h3, h4⟩ := d
  exact (ne_of_none h1 n).symm
/-- an item by a drawn place -/
theorem drawn_at {xs : List V} {r : Int} (h0 : 0 ≤ r) (h1 : r < (xs.length : Int)) : ∃ (j : Nat) (x : V), xs[j]? = some x ∧ atI xs r = some x := by
  obtain ⟨k, rfl⟩ : ∃ k : Nat, r = k := ⟨r.toNat, by omega⟩
  have hk : k < xs.length := by omega
  exact ⟨k, xs[k], List.getElem?_eq_getElem hk, atI_nat (List.getElem?_eq_getElem hk)⟩
def sp_law_of (K : PySem.W.Frag) (g : Ads) : Sp := fun vs H Q E => ∃ (p wa a : Addr) (xs : List V), vs = [.ref p, .ref a] ∧ DeckAt H p wa ∧ (SqL K H a xs ∨ SqT K H a xs) ∧ a ≠ p ∧ xs ≠ [] ∧ xs.length ≤ 1000000 ∧
  ∀ (j : Nat) x H', xs[j]? = some x → DeckAt H' p wa → But p H H' → Q x H'
theorem pf_law_of {K : PySem.W.Frag} {g : Ads} (vs : List V) (H : Hp) (Q : VK) (E : XK) (h : sp_law_of K g vs H Q E) : rw_law_of K g vs H Q E := by
  obtain ⟨p, wa, a, xs, rfl, hd, ha, hne, hx, hl, q⟩ := h
  have l0 : 0 < xs.length := List.length_pos_iff.mpr hx
  refine ⟨rfl, ⟨xs, ha, p, wa, _, rfl, hd, by omega, by omega, fun r H' r0 r1 d' b' => ?_⟩⟩
  obtain ⟨j, x, e1, e2⟩ := drawn_at r0 r1
  refine ⟨xs, x, ?_, e2, q j x H' e1 d' b'⟩
  exact ha.elim (fun z => .inl (b'.seq hne z)) fun z => .inr (b'.tup hne z)
theorem ok_law_of {P : Program} {w : World} {K : PySem.W.Frag} {mg : Str → Option Value} {base : Heap} {g : Ads} (T : Txt K mg g) : FnZ P w K mg base 2 g.f_law_of g.d_law_of ["deck", "some"] (sp_law_of K g) := (raw_law_of T).imp pf_law_of
theorem sc_law_number : FnScope ["deck", "way", "found", "turn"] ["deck"] (defScope s_law_number) := ⟨rfl, rfl, rfl, by decide +kernel, rfl, by decide +kernel, by decide +kernel⟩
def R_law_number_3 (K : PySem.W.Frag) (g : Ads) (E : XK) : TS :=
  (tRet (tOp zSub (zCall (sp_law_draw K g) [] (WE (fun cls d _ H => E cls d H)) (tCons (zVar 0) (tCons (tC (.int 10)) tNil))) (tC (.int 4))))
def R_law_number_5 (K : PySem.W.Frag) (g : Ads) (E : XK) : TS :=
  (tRet (zCall (sp_law_of K g) [] (WE (fun cls d _ H => E cls d H)) (tCons (zVar 0) (tCons (tLst (tCons (tOp zSub (tOp zPow (tC (.int 10)) (tC (.int 20))) (tC (.int 1))) (tCons (tOp zSub (tC (.int 1)) (tOp zPow (tC (.int 10)) (tC (.int 20)))) tNil))) tNil))))
def R_law_number_8 (K : PySem.W.Frag) (g : Ads) (E : XK) : TS :=
  (tAsg (tOp zAdd (tOp zMul (zVar 2) (tC (.int 100000))) (zCall (sp_law_draw K g) [] (WE (fun cls d _ H => E cls d H)) (tCons (zVar 0) (tCons (tC (.int 100000)) tNil)))) (gName 2))
def R_law_number_9 (K : PySem.W.Frag) (g : Ads) (E : XK) : TS :=
  (tRet (zCall (sp_law_of K g) [] (WE (fun cls d _ H => E cls d H)) (tCons (zVar 0) (tCons (tLst (tCons (zVar 2) (tCons (zNeg (zVar 2)) tNil))) tNil))))
def R_law_number_7 (K : PySem.W.Frag) (g : Ads) (E : XK) : TS :=
  (tSeq (zFor (iRng1 (tCons (tOp zSub (zVar 1) (tC (.int 1))) tNil)) (gName 3)
  (R_law_number_8 K g E))
  (R_law_number_9 K g E))
def R_law_number_6 (K : PySem.W.Frag) (g : Ads) (E : XK) : TS :=
  (tSeq (tAsg (tC (.int 0)) (gName 2))
  (R_law_number_7 K g E))
def R_law_number_4 (K : PySem.W.Frag) (g : Ads) (E : XK) : TS :=
  (tSeq (tIfS (zTest (tOp (zEq K) (zVar 1) (tC (.int 2))))
  (R_law_number_5 K g E)
  tNext)
  (R_law_number_6 K g E))
def R_law_number_2 (K : PySem.W.Frag) (g : Ads) (E : XK) : TS :=
  (tSeq (tIfS (zTest (tOp zLt (zVar 1) (tC (.int 2))))
  (R_law_number_3 K g E)
  tNext)
  (R_law_number_4 K g E))
def R_law_number (K : PySem.W.Frag) (g : Ads) (E : XK) : TS :=
  (tSeq (tAsg (zCall (sp_law_draw K g) [] (WE (fun cls d _ H => E cls d H)) (tCons (zVar 0) (tCons (tC (.int 6)) tNil))) (gName 1))
  (R_law_number_2 K g E))
def rw_law_number (K : PySem.W.Frag) (g : Ads) : Sp := fun vs H Q E => vs.length = 1 ∧ R_law_number K g E { nx := fun _ H' => Q .non H', rt := Q } (start ["deck", "way", "found", "turn"] vs) H
theorem raw_law_number {P : Program} {w : World} {K : PySem.W.Frag} {mg : Str → Option Value} {base : Heap} {g : Ads} (T : Txt K mg g) : FnZ P w K mg base 3 g.f_law_number g.d_law_number ["deck"] (rw_law_number K g) := by
  refine okZ T.f_law_number sc_law_number (fun vs H Q E h => h.1) (fun cdv A outer s H vs Q E hr hgu h => ⟨R_law_number K g E, ?_, h.2⟩)
  exact (pss_cons (ps_set (i := 1) sc_law_number.nd rfl (Or.inl rfl) (pe_callZ (ok_law_draw T) (hr.mono (by decide)) hgu rfl T.g_law_draw T.k_law_draw T.e_law_draw .nil (fun σ => passAt (takes_of rfl rfl rfl rfl) σ) (pa_cons (zv 0) (pa_cons pe_int pa_nil))))
  (pss_cons (ps_if (ptz_cmp op_zLt (zv 1) pe_int (nomark _))
  (pss_one (ps_ret (pe_op op_zSub (pe_callZ (ok_law_draw T) (hr.mono (by decide)) hgu rfl T.g_law_draw T.k_law_draw T.e_law_draw .nil (fun σ => passAt (takes_of rfl rfl rfl rfl) σ) (pa_cons (zv 0) (pa_cons pe_int pa_nil))) pe_int)))
  pss_nil)
  (pss_cons (ps_if (ptz_cmp (op_zEq hr.units) (zv 1) pe_int (nomark _))
  (pss_one (ps_ret (pe_callZ (ok_law_of T) (hr.mono (by decide)) hgu rfl T.g_law_of T.k_law_of T.e_law_of .nil (fun σ => passAt (takes_of rfl rfl rfl rfl) σ) (pa_cons (zv 0) (pa_cons (pe_lst (pa_cons (pe_op op_zSub (pe_op op_zPow pe_int pe_int) pe_int) (pa_cons (pe_op op_zSub pe_int (pe_op op_zPow pe_int pe_int)) pa_nil))) pa_nil)))))
  pss_nil)
  (pss_cons (ps_set (i := 2) sc_law_number.nd rfl (Or.inl rfl) pe_int)
  (pss_cons (psz_for PassesOwn.leaving rfl (pi_range1 rfl T.b_range (pa_cons (pe_op op_zSub (zv 1) pe_int) pa_nil)) (pg_name (i := 3) sc_law_number.nd rfl (Or.inl rfl))
  (pss_one (ps_set (i := 2) sc_law_number.nd rfl (Or.inl rfl) (pe_op op_zAdd (pe_op op_zMul (zv 2) pe_int) (pe_callZ (ok_law_draw T) (hr.mono (by decide)) hgu rfl T.g_law_draw T.k_law_draw T.e_law_draw .nil (fun σ => passAt (takes_of rfl rfl rfl rfl) σ) (pa_cons (zv 0) (pa_cons pe_int pa_nil)))))))
  (pss_one (ps_ret (pe_callZ (ok_law_of T) (hr.mono (by decide)) hgu rfl T.g_law_of T.k_law_of T.e_law_of .nil (fun σ => passAt (takes_of rfl rfl rfl rfl) σ) (pa_cons (zv 0) (pa_cons (pe_lst (pa_cons (zv 2) (pa_cons (pez_neg (zv 2)) pa_nil))) pa_nil))))))))))
def sp_law_number (K : PySem.W.Frag) (g : Ads) : Sp := fun vs H Q E => ∃ (p wa : Addr), vs = [.ref p] ∧ DeckAt H p wa ∧
  ∀ i H', -100000000000000000000 < i → i < 100000000000000000000 → DeckAt H' p wa → But p H H' → Q (.int i) H'
theorem two_of {x : V} {a b : V} {j : Nat} (h : [a, b][j]? = some x) : x = a ∨ x = b := by
  match j, h with
  | 0, h => exact .inl (Option.some.inj h).symm
  | 1, h => exact .inr (Option.some.inj h).symm
  | j + 2, h => simp at h
theorem pf_law_number {K : PySem.W.Frag} {g : Ads} (vs : List V) (H : Hp) (Q : VK) (E : XK) (h : sp_law_number K g vs H Q E) : rw_law_number K g vs H Q E := by
  obtain ⟨p, wa, rfl, hd, q⟩ := h
  refine ⟨rfl, p, wa, _, rfl, hd, by decide, by decide, fun r H1 r0 r1 d1 b1 => zite (fun h1 => ?_) (fun h1 => ?_)⟩
  · refine ⟨p, wa, _, rfl, d1, by decide, by decide, fun r2 H2 r3 r4 d2 b2 => q _ _ (by omega) (by omega) d2 (b1.trans b2)⟩
  · have h1' : ¬ r < 2 := by simpa using h1
    refine .inl ⟨rfl, zite (fun h2 => ?_) (fun h2 => ?_)⟩
    · refine ⟨⟨by decide, by decide, by decide⟩, ⟨by decide, by decide, by decide⟩, by decide, fun l hl => ?_⟩
      refine ⟨p, wa, l, _, rfl, d1.same (Same.put hl), .inl (SqL.of upd_same), d1.ne hl, by simp, by decide, fun j x H2 hx d2 b2 => ?_⟩
      have b3 : But p H H2 := (b1.trans (But.same (Same.put hl))).trans b2
      rcases two_of hx with rfl | rfl
      · exact q _ _ (by decide) (by decide) d2 b3
      · exact q _ _ (by decide) (by decide) d2 b3
    · have h2' : ¬ r = 2 := by simpa using h2
      refine ⟨r - 1, rfl, by omega, by omega, for_z (walk_range (lo := 0) (n := (r - 1).toNat)) (fun i σ H2 => ∃ (f : Int) (v : Option V), σ = [some (.ref p), some (.int r), some (.int f), v] ∧ 0 ≤ f ∧ f < 100000 ^ i ∧ DeckAt H2 p wa ∧ But p H1 H2)
        ⟨0, none, rfl, by decide, by decide, d1, But.refl _ _⟩ (fun _ _ _ _ _ => trivial) ?_ ?_⟩
      · rintro i x σ H2 H3 hi ⟨f, v, rfl, f0, f1, d2, b2⟩ ⟨rfl, rfl⟩
        refine ⟨.inr (by decide), p, wa, _, rfl, d2, by decide, by decide, fun r2 H4 r3 r4 d4 b4 => ⟨_, _, rfl, by omega, ?_, d4, b2.trans b4⟩⟩
        rw [Int.pow_succ]
        generalize (100000 : Int) ^ i = P at f1 ⊢
        omega
      · rintro σ H2 ⟨f, v, rfl, f0, f1, d2, b2⟩
        have f2 : f < 100000000000000000000 := by
          have e : r = 3 ∨ r = 4 ∨ r = 5 := by omega
          rcases e with rfl | rfl | rfl
          · exact Int.lt_of_lt_of_le f1 (by decide)
          · exact Int.lt_of_lt_of_le f1 (by decide)
          · exact Int.lt_of_lt_of_le f1 (by decide)
        refine ⟨(show 2 ≤ sizeLine by decide), fun l hl => ?_⟩
        refine ⟨p, wa, l, _, rfl, d2.same (Same.put hl), .inl (SqL.of upd_same), d2.ne hl, by simp, (show 2 ≤ 1000000 by decide), fun j x H4 hx d4 b4 => ?_⟩
        have b5 : But p H H4 := ((b1.trans b2).trans (But.same (Same.put hl))).trans b4
        rcases two_of hx with rfl | rfl
        · exact q _ _ (by omega) f2 d4 b5
        · exact q _ _ (by omega) (by omega) d4 b5
theorem ok_law_number {P : Program} {w : World} {K : PySem.W.Frag} {mg : Str → Option Value} {base : Heap} {g : Ads} (T : Txt K mg g) : FnZ P w K mg base 3 g.f_law_number g.d_law_number ["deck"] (sp_law_number K g) := (raw_law_number T).imp pf_law_number
theorem sc_law_names : FnScope ["deck", "many", "letters", "stem", "first", "is_ahead", "turn", "found", "k", "at", "two"] ["deck", "many"] (defScope s_law_names) := ⟨rfl, rfl, rfl, by decide +kernel, rfl, by decide +kernel, by decide +kernel⟩
def R_law_names_4 (K : PySem.W.Frag) (g : Ads) (E : XK) : TS :=
  (tAsg (tOp zAdd (zVar 3) (zCall (sp_law_of K g) [] (WE (fun cls d _ H => E cls d H)) (tCons (zVar 0) (tCons (tLst (tCons (tC (.str "a")) (tCons (tC (.str "z")) (tCons (tC (.str "q")) (tCons (tC (.str "m")) tNil))))) tNil)))) (gName 3))
def R_law_names_9 (K : PySem.W.Frag) (g : Ads) (E : XK) : TS :=
  (tDrop (tBM K "list" rAppend (zVar 7) (tCons (tIf (zTru K (zVar 5)) (tOp zAdd (zVar 10) (zVar 3)) (tOp zAdd (zVar 3) (zVar 10))) tNil)))
def R_law_names_8 (K : PySem.W.Frag) (g : Ads) (E : XK) : TS :=
  (tSeq (tAsg (tOp zAdd (tOp (zIx K) (zVar 2) (tOp zFdiv (zVar 9) (tC (.int 26)))) (tOp (zIx K) (zVar 2) (tOp zMod (zVar 9) (tC (.int 26))))) (gName 10))
  (R_law_names_9 K g E))
def R_law_names_7 (K : PySem.W.Frag) (g : Ads) (E : XK) : TS :=
  (tSeq (tAsg (tOp zMod (tOp zAdd (zVar 4) (tOp zMul (tC (.int 7)) (zVar 8))) (tC (.int 676))) (gName 9))
  (R_law_names_8 K g E))
def R_law_names_6 (K : PySem.W.Frag) (g : Ads) (E : XK) : TS :=
  (tSeq (zFor (iRng1 (tCons (zVar 1) tNil)) (gName 8)
  (R_law_names_7 K g E))
  (tRet (zVar 7)))
def R_law_names_5 (K : PySem.W.Frag) (g : Ads) (E : XK) : TS :=
  (tSeq (tAsg (tLst tNil) (gName 7))
  (R_law_names_6 K g E))
def R_law_names_3 (K : PySem.W.Frag) (g : Ads) (E : XK) : TS :=
  (tSeq (zFor (iRng1 (tCons (zCall (sp_law_draw K g) [] (WE (fun cls d _ H => E cls d H)) (tCons (zVar 0) (tCons (tC (.int 7)) tNil))) tNil)) (gName 6)
  (R_law_names_4 K g E))
  (R_law_names_5 K g E))
def R_law_names_2 (K : PySem.W.Frag) (g : Ads) (E : XK) : TS :=
  (tSeq (tPar3 3 4 5 (tCons (tC (.str "")) (tCons (zCall (sp_law_draw K g) [] (WE (fun cls d _ H => E cls d H)) (tCons (zVar 0) (tCons (tC (.int 676)) tNil))) (tCons (tOp (zEq K) (zCall (sp_law_draw K g) [] (WE (fun cls d _ H => E cls d H)) (tCons (zVar 0) (tCons (tC (.int 2)) tNil))) (tC (.int 0))) tNil))))
  (R_law_names_3 K g E))
def R_law_names (K : PySem.W.Frag) (g : Ads) (E : XK) : TS :=
  (tSeq (tAsg (tC (.str "abcdefghijklmnopqrstuvwxyz")) (gName 2))
  (R_law_names_2 K g E))
def rw_law_names (K : PySem.W.Frag) (g : Ads) : Sp := fun vs H Q E => vs.length = 2 ∧ R_law_names K g E { nx := fun _ H' => Q .non H', rt := Q } (start ["deck", "many", "letters", "stem", "first", "is_ahead", "turn", "found", "k", "at", "two"] vs) H
theorem raw_law_names {P : Program} {w : World} {K : PySem.W.Frag} {mg : Str → Option Value} {base : Heap} {g : Ads} (T : Txt K mg g) : FnZ P w K mg base 3 g.f_law_names g.d_law_names ["deck", "many"] (rw_law_names K g) := by
  refine okZ T.f_law_names sc_law_names (fun vs H Q E h => h.1) (fun cdv A outer s H vs Q E hr hgu h => ⟨R_law_names K g E, ?_, h.2⟩)
  exact (pss_cons (ps_set (i := 2) sc_law_names.nd rfl (Or.inl rfl) pe_str)
  (pss_cons (ps_par3 (i := 3) (j := 4) (l := 5) (by rfl) sc_law_names.nd rfl rfl rfl (by decide) (by decide) (by decide) rfl rfl rfl (pa_cons pe_str (pa_cons (pe_callZ (ok_law_draw T) (hr.mono (by decide)) hgu rfl T.g_law_draw T.k_law_draw T.e_law_draw .nil (fun σ => passAt (takes_of rfl rfl rfl rfl) σ) (pa_cons (zv 0) (pa_cons pe_int pa_nil))) (pa_cons (pe_cmpR (op_zEq hr.units) (pe_callZ (ok_law_draw T) (hr.mono (by decide)) hgu rfl T.g_law_draw T.k_law_draw T.e_law_draw .nil (fun σ => passAt (takes_of rfl rfl rfl rfl) σ) (pa_cons (zv 0) (pa_cons pe_int pa_nil))) pe_int (nomark _)) pa_nil))) (by rfl))
  (pss_cons (psz_for PassesOwn.leaving rfl (pi_range1 rfl T.b_range (pa_cons (pe_callZ (ok_law_draw T) (hr.mono (by decide)) hgu rfl T.g_law_draw T.k_law_draw T.e_law_draw .nil (fun σ => passAt (takes_of rfl rfl rfl rfl) σ) (pa_cons (zv 0) (pa_cons pe_int pa_nil))) pa_nil)) (pg_name (i := 6) sc_law_names.nd rfl (Or.inl rfl))
  (pss_one (ps_set (i := 3) sc_law_names.nd rfl (Or.inl rfl) (pe_op op_zAdd (zv 3) (pe_callZ (ok_law_of T) (hr.mono (by decide)) hgu rfl T.g_law_of T.k_law_of T.e_law_of .nil (fun σ => passAt (takes_of rfl rfl rfl rfl) σ) (pa_cons (zv 0) (pa_cons (pe_lst (pa_cons pe_str (pa_cons pe_str (pa_cons pe_str (pa_cons pe_str pa_nil))))) pa_nil)))))))
  (pss_cons (ps_set (i := 7) sc_law_names.nd rfl (Or.inl rfl) (pe_lst pa_nil))
  (pss_cons (psz_for PassesOwn.leaving rfl (pi_range1 rfl T.b_range (pa_cons (zv 1) pa_nil)) (pg_name (i := 8) sc_law_names.nd rfl (Or.inl rfl))
  (pss_cons (ps_set (i := 9) sc_law_names.nd rfl (Or.inl rfl) (pe_op op_zMod (pe_op op_zAdd (zv 4) (pe_op op_zMul pe_int (zv 8))) pe_int))
  (pss_cons (ps_set (i := 10) sc_law_names.nd rfl (Or.inl rfl) (pe_op op_zAdd (pe_ix ix_z (zv 2) (pe_op op_zFdiv (zv 9) pe_int) (fun _ _ => rfl)) (pe_ix ix_z (zv 2) (pe_op op_zMod (zv 9) pe_int) (fun _ _ => rfl))))
  (pss_one (ps_expr (pe_bm PySem.F.plainAttrs_list PySem.F.slot_list_append PySem.F.type_list_append mt_append (zv 7) (pa_cons (pe_ifExp (ptz_truth (zv 5) (by intro _; rfl)) (pe_op op_zAdd (zv 10) (zv 3)) (pe_op op_zAdd (zv 3) (zv 10))) pa_nil)))))))
  (pss_one (ps_ret (zv 7))))))))
theorem sc_law_word : FnScope ["deck", "signs", "found", "turn", "at", "sign"] ["deck"] (defScope s_law_word) := ⟨rfl, rfl, rfl, by decide +kernel, rfl, by decide +kernel, by decide +kernel⟩
def R_law_word_4 (K : PySem.W.Frag) (g : Ads) (E : XK) : TS :=
  (tAsg (tOp zAdd (zVar 2) (tOp (zIx K) (zVar 1) (zCall (sp_law_draw K g) [] (WE (fun cls d _ H => E cls d H)) (tCons (zVar 0) (tCons (tC (.int 26)) tNil))))) (gName 2))
def R_law_word_7 (K : PySem.W.Frag) (g : Ads) (E : XK) : TS :=
  (tAsg (tOp zAdd (tOp zAdd (tSl rSlS (zVar 2) tNoPart (tPart (zVar 4))) (zVar 5)) (tSl rSlS (zVar 2) (tPart (zVar 4)) tNoPart)) (gName 2))
def R_law_word_6 (K : PySem.W.Frag) (g : Ads) (E : XK) : TS :=
  (tSeq (tPar 4 5 (tCons (zCall (sp_law_draw K g) [] (WE (fun cls d _ H => E cls d H)) (tCons (zVar 0) (tCons (tOp zAdd (tCB (zLen K) (tCons (zVar 2) tNil)) (tC (.int 1))) tNil))) (tCons (zCall (sp_law_of K g) [] (WE (fun cls d _ H => E cls d H)) (tCons (zVar 0) (tCons (tLst (tCons (tC (.str " ")) (tCons (tC (.str "A")) (tCons (tC (.str "Z")) (tCons (tC (.str "0")) (tCons (tC (.str "9")) (tCons (tC (.str "-")) (tCons (tC (.str "~")) (tCons (tC (.str "{")) (tCons (tC (.str "`")) (tCons (tC (.str "\n")) tNil))))))))))) tNil))) tNil)))
  (R_law_word_7 K g E))
def R_law_word_5 (K : PySem.W.Frag) (g : Ads) (E : XK) : TS :=
  (tSeq (tIfS (zTest (tOp (zEq K) (zCall (sp_law_draw K g) [] (WE (fun cls d _ H => E cls d H)) (tCons (zVar 0) (tCons (tC (.int 2)) tNil))) (tC (.int 0))))
  (R_law_word_6 K g E)
  tNext)
  (tRet (zVar 2)))
def R_law_word_3 (K : PySem.W.Frag) (g : Ads) (E : XK) : TS :=
  (tSeq (zFor (iRng1 (tCons (zCall (sp_law_draw K g) [] (WE (fun cls d _ H => E cls d H)) (tCons (zVar 0) (tCons (tC (.int 11)) tNil))) tNil)) (gName 3)
  (R_law_word_4 K g E))
  (R_law_word_5 K g E))
def R_law_word_2 (K : PySem.W.Frag) (g : Ads) (E : XK) : TS :=
  (tSeq (tAsg (tC (.str "")) (gName 2))
  (R_law_word_3 K g E))
def R_law_word (K : PySem.W.Frag) (g : Ads) (E : XK) : TS :=
  (tSeq (tAsg (tC (.str "abcdefghijklmnopqrstuvwxyz")) (gName 1))
  (R_law_word_2 K g E))
def rw_law_word (K : PySem.W.Frag) (g : Ads) : Sp := fun vs H Q E => vs.length = 1 ∧ R_law_word K g E { nx := fun _ H' => Q .non H', rt := Q } (start ["deck", "signs", "found", "turn", "at", "sign"] vs) H
theorem raw_law_word {P : Program} {w : World} {K : PySem.W.Frag} {mg : Str → Option Value} {base : Heap} {g : Ads} (T : Txt K mg g) : FnZ P w K mg base 3 g.f_law_word g.d_law_word ["deck"] (rw_law_word K g) := by
  refine okZ T.f_law_word sc_law_word (fun vs H Q E h => h.1) (fun cdv A outer s H vs Q E hr hgu h => ⟨R_law_word K g E, ?_, h.2⟩)
  exact (pss_cons (ps_set (i := 1) sc_law_word.nd rfl (Or.inl rfl) pe_str)
  (pss_cons (ps_set (i := 2) sc_law_word.nd rfl (Or.inl rfl) pe_str)
  (pss_cons (psz_for PassesOwn.leaving rfl (pi_range1 rfl T.b_range (pa_cons (pe_callZ (ok_law_draw T) (hr.mono (by decide)) hgu rfl T.g_law_draw T.k_law_draw T.e_law_draw .nil (fun σ => passAt (takes_of rfl rfl rfl rfl) σ) (pa_cons (zv 0) (pa_cons pe_int pa_nil))) pa_nil)) (pg_name (i := 3) sc_law_word.nd rfl (Or.inl rfl))
  (pss_one (ps_set (i := 2) sc_law_word.nd rfl (Or.inl rfl) (pe_op op_zAdd (zv 2) (pe_ix ix_z (zv 1) (pe_callZ (ok_law_draw T) (hr.mono (by decide)) hgu rfl T.g_law_draw T.k_law_draw T.e_law_draw .nil (fun σ => passAt (takes_of rfl rfl rfl rfl) σ) (pa_cons (zv 0) (pa_cons pe_int pa_nil))) (fun _ _ => rfl))))))
  (pss_cons (ps_if (ptz_cmp (op_zEq hr.units) (pe_callZ (ok_law_draw T) (hr.mono (by decide)) hgu rfl T.g_law_draw T.k_law_draw T.e_law_draw .nil (fun σ => passAt (takes_of rfl rfl rfl rfl) σ) (pa_cons (zv 0) (pa_cons pe_int pa_nil))) pe_int (nomark _))
  (pss_cons (ps_par (i := 4) (j := 5) (by rfl) sc_law_word.nd rfl rfl (by decide) rfl rfl (pa_cons (pe_callZ (ok_law_draw T) (hr.mono (by decide)) hgu rfl T.g_law_draw T.k_law_draw T.e_law_draw .nil (fun σ => passAt (takes_of rfl rfl rfl rfl) σ) (pa_cons (zv 0) (pa_cons (pe_op op_zAdd (pe_callB call_lenZ (by rfl) T.b_len (by decide +kernel) (pa_cons (zv 2) pa_nil)) pe_int) pa_nil))) (pa_cons (pe_callZ (ok_law_of T) (hr.mono (by decide)) hgu rfl T.g_law_of T.k_law_of T.e_law_of .nil (fun σ => passAt (takes_of rfl rfl rfl rfl) σ) (pa_cons (zv 0) (pa_cons (pe_lst (pa_cons pe_str (pa_cons pe_str (pa_cons pe_str (pa_cons pe_str (pa_cons pe_str (pa_cons pe_str (pa_cons pe_str (pa_cons pe_str (pa_cons pe_str (pa_cons pe_str pa_nil))))))))))) pa_nil))) pa_nil)) (by rfl))
  (pss_one (ps_set (i := 2) sc_law_word.nd rfl (Or.inl rfl) (pe_op op_zAdd (pe_op op_zAdd (pe_slice sl_str (zv 2) po_none (po_some (zv 4))) (zv 5)) (pe_slice sl_str (zv 2) (po_some (zv 4)) po_none)))))
  pss_nil)
  (pss_one (ps_ret (zv 2)))))))
theorem sc_law_is_name : FnScope ["thing", "sign"] ["thing"] (defScope s_law_is_name) := ⟨rfl, rfl, rfl, by decide +kernel, rfl, by decide +kernel, by decide +kernel⟩
def R_law_is_name_3 (K : PySem.W.Frag) (g : Ads) (E : XK) : TS :=
  (tRet (tCB (rAll K) (tCons (zLc (iStr (zVar 0)) (gName 1) tYes (tOp (zIn K) (zVar 1) (tC (.str "abcdefghijklmnopqrstuvwxyz"))) [1]) tNil)))
def R_law_is_name (K : PySem.W.Frag) (g : Ads) (E : XK) : TS :=
  (tSeq (tIfS (tOr (tNot (zTru K (zIsiT K .str (zVar 0)))) (tOr (zTest (tOp (zEq K) (zVar 0) (tC (.str "none")))) (tNot (zTest (zChain zLt zLt (tC (.int 0)) (tCB (zLen K) (tCons (zVar 0) tNil)) (tC (.int 9)))))))
  (tRet (tC (.bl false)))
  tNext)
  (R_law_is_name_3 K g E))
def rw_law_is_name (K : PySem.W.Frag) (g : Ads) : Sp := fun vs H Q E => vs.length = 1 ∧ R_law_is_name K g E { nx := fun _ H' => Q .non H', rt := Q } (start ["thing", "sign"] vs) H
theorem raw_law_is_name {P : Program} {w : World} {K : PySem.W.Frag} {mg : Str → Option Value} {base : Heap} {g : Ads} (T : Txt K mg g) : FnZ P w K mg base 1 g.f_law_is_name g.d_law_is_name ["thing"] (rw_law_is_name K g) := by
  refine okZ T.f_law_is_name sc_law_is_name (fun vs H Q E h => h.1) (fun cdv A outer s H vs Q E hr hgu h => ⟨R_law_is_name K g E, ?_, h.2⟩)
  exact (pss_cons (ps_if (PW.pt (pw_or (pt_not (ptz_truth (pe_isi (kd := .str) (zv 0) (by rfl) T.b_isinstance (by decide +kernel) (by rfl) T.b_str (by decide +kernel)) (by intro _; rfl))) (pw_or (ptz_cmp (op_zEq hr.units) (zv 0) pe_str (nomark _)) (pw_or1 (pt_not (ptz_chain op_zLt op_zLt pe_int (pe_callB call_lenZ (by rfl) T.b_len (by decide +kernel) (pa_cons (zv 0) pa_nil)) pe_int))))))
  (pss_one (ps_ret pe_bl))
  pss_nil)
  (pss_one (ps_ret (pe_callB (cr_all rfl) (by rfl) T.b_all (by decide +kernel) (pa_cons (pez_lc (own := [("sign", 1)]) rfl sc_law_is_name.nd (pi_str (zv 0)) (blkOk_by (own := [("sign", 1)]) (N := ["thing", "sign"]) (sc := defScope s_law_is_name) (by decide +kernel)) (fun _ _ _ _ _ => pg_name (i := 1) sc_law_is_name.nd rfl (Or.inl rfl)) (fun _ _ _ _ _ => pts_nil) (fun _ _ _ _ _ => (pe_cmpR op_zIn (zv 1) pe_str (by rfl)))) pa_nil)))))
/-! ### texts of letters -/
abbrev abc : Str := "abcdefghijklmnopqrstuvwxyz"
theorem abc_at : ∀ i : Nat, i < 26 → abc.cps.toList[i]? = some (97 + i) := by decide +kernel
theorem abc_len : abc.length = 26 := by decide +kernel
theorem abc_ix {i : Int} (h0 : 0 ≤ i) (h1 : i < 26) : atI abc.cps.toList i = some (97 + i.toNat) := by
  obtain ⟨k, rfl⟩ : ∃ k : Nat, i = k := ⟨i.toNat, by omega⟩
  exact atI_nat (abc_at k (by omega))
/-- signs below 128 -/
def Asc (z : Str) : Prop := ∀ c ∈ z.cps.toList, c < 128
theorem Asc.app {x y : Str} (a : Asc x) (b : Asc y) : Asc (x ++ y) := fun c hc => by
  have e : (x ++ y).cps.toList = x.cps.toList ++ y.cps.toList := by
    show (x.cps ++ y.cps).toList = _
    simp
  rw [e] at hc
  exact (List.mem_append.mp hc).elim (a c) (b c)
theorem Asc.cut {x : Str} (a : Asc x) (lo hi : Option Int) : Asc (cutS x lo hi) := fun c hc => by
  have hc' : c ∈ (x.cps.toList.drop (HT.sIx x.length 0 lo)).take (HT.sIx x.length x.length hi - HT.sIx x.length 0 lo) := by simpa [cutS] using hc
  exact a c (List.mem_of_mem_drop (List.mem_of_mem_take hc'))
theorem asc_one {c : Nat} (h : c < 128) : Asc ⟨#[c]⟩ := fun d hd => by
  have e : d = c := by simpa using hd
  omega
theorem len_app (x y : Str) : (x ++ y).length = x.length + y.length := by
  show (x.cps ++ y.cps).size = x.cps.size + y.cps.size
  simp
theorem len_one (c : Nat) : (⟨#[c]⟩ : Str).length = 1 := rfl
/-- a word of the names that are drawn: two letters ahead of a stem, or behind it -/
def twoOf (first : Int) (k : Nat) : Str := ⟨#[97 + ((first + 7 * (k : Int)) % 676 / 26).toNat]⟩ ++ ⟨#[97 + ((first + 7 * (k : Int)) % 676 % 26).toNat]⟩
def nmOf (ahead : Bool) (stem : Str) (first : Int) (k : Nat) : Str := if ahead = true then twoOf first k ++ stem else stem ++ twoOf first k
def Stem (z : Str) : Prop := z.length ≤ 6 ∧ ∀ c ∈ z.cps.toList, c = 97 ∨ c = 122 ∨ c = 113 ∨ c = 109
def sp_law_names (K : PySem.W.Frag) (g : Ads) : Sp := fun vs H Q E => ∃ (p wa : Addr) (n : Int), vs = [.ref p, .int n] ∧ DeckAt H p wa ∧ 0 ≤ n ∧ n ≤ 1000 ∧
  ∀ (ah : Bool) (stem : Str) (first : Int) (D : Addr) (H' : Hp), Stem stem → 0 ≤ first → first < 676 → DeckAt H' p wa → But p H H' → H D = none →
    H' D = some (.lst ((List.range n.toNat).map fun k => V.str (nmOf ah stem first k))) → Q (.ref D) H'
theorem four_of {x a b c d : V} {j : Nat} (h : [a, b, c, d][j]? = some x) : x = a ∨ x = b ∨ x = c ∨ x = d := by
  match j, h with
  | 0, h => exact .inl (Option.some.inj h).symm
  | 1, h => exact .inr (.inl (Option.some.inj h).symm)
  | 2, h => exact .inr (.inr (.inl (Option.some.inj h).symm))
  | 3, h => exact .inr (.inr (.inr (Option.some.inj h).symm))
  | j + 4, h => simp at h
theorem pf_law_names {K : PySem.W.Frag} {g : Ads} (vs : List V) (H : Hp) (Q : VK) (E : XK) (h : sp_law_names K g vs H Q E) : rw_law_names K g vs H Q E := by
  obtain ⟨p, wa, n, rfl, hd, n0, n1, q⟩ := h
  refine ⟨rfl, p, wa, _, rfl, hd, by decide, by decide, fun first H1 r0 r1 d1 b1 => ⟨p, wa, _, rfl, d1, by decide, by decide, fun ra H2 r2 r3 d2 b2 => .inl ⟨rfl, _, _, _, rfl, ?_⟩⟩⟩
  refine ⟨p, wa, _, rfl, d2, by decide, by decide, fun r4 H3 r5 r6 d3 b3 => ⟨r4, rfl, by omega, by omega, for_z (walk_range (lo := 0) (n := r4.toNat)) (fun i σ H4 => ∃ (stem : Str) (v : Option V),
    σ = [some (.ref p), some (.int n), some (.str abc), some (.str stem), some (.int first), some (.bl (decide (V.int ra = V.int 0))), v, none, none, none, none] ∧ stem.length ≤ i ∧ (∀ c ∈ stem.cps.toList, c = 97 ∨ c = 122 ∨ c = 113 ∨ c = 109) ∧ DeckAt H4 p wa ∧ But p H H4)
    ⟨"", none, rfl, Nat.le_refl _, (fun c hc => absurd hc (by simp [show ("" : Str).cps = #[] from rfl])), d3, (b1.trans b2).trans b3⟩ (fun _ _ _ _ _ => trivial) ?_ ?_⟩⟩
  · rintro i x σ H4 H5 hi ⟨stem, v, rfl, f0, f1, d4, b4⟩ ⟨rfl, rfl⟩
    refine ⟨by decide, fun l hl => ⟨p, wa, l, _, rfl, d4.same (Same.put hl), .inl (SqL.of upd_same), d4.ne hl, by simp, by decide, fun j x H6 hx d6 b6 => ?_⟩⟩
    have b7 : But p H H6 := (b4.trans (But.same (Same.put hl))).trans b6
    have hi6 : i < 6 := by omega
    have key : ∀ c : Nat, (c = 97 ∨ c = 122 ∨ c = 113 ∨ c = 109) → x = .str ⟨#[c]⟩ → zAdd (.str stem) x H6 fun z H7 => ∃ (stem' : Str) (v' : Option V),
        [some (V.ref p), some (.int n), some (.str abc), some z, some (.int first), some (.bl (decide (V.int ra = V.int 0))), some (.int (0 + (i : Int))), none, none, none, none] =
          [some (V.ref p), some (.int n), some (.str abc), some (.str stem'), some (.int first), some (.bl (decide (V.int ra = V.int 0))), v', none, none, none, none] ∧
          stem'.length ≤ i + 1 ∧ (∀ c ∈ stem'.cps.toList, c = 97 ∨ c = 122 ∨ c = 113 ∨ c = 109) ∧ DeckAt H7 p wa ∧ But p H H7 := by
      rintro c hc rfl
      refine ⟨?_, _, _, rfl, ?_, ?_, d6, b7⟩
      · rw [len_one]
        exact Nat.le_trans (show stem.length + 1 ≤ 7 by omega) (by decide)
      · rw [len_app, len_one]
        omega
      · intro d hd
        have e : (stem ++ (⟨#[c]⟩ : Str)).cps.toList = stem.cps.toList ++ [c] := by
          show (stem.cps ++ #[c]).toList = _
          simp
        rw [e] at hd
        rcases List.mem_append.mp hd with z | z
        · exact f1 d z
        · have e2 : d = c := by simpa using z
          rw [e2]
          exact hc
    rcases four_of hx with e | e | e | e
    · exact key 97 (by simp) e
    · exact key 122 (by simp) e
    · exact key 113 (by simp) e
    · exact key 109 (by simp) e
  · rintro σ H4 ⟨stem, v, rfl, f0, f1, d4, b4⟩
    have hst : Stem stem := ⟨by omega, f1⟩
    refine ⟨by decide, fun D hD => ?_⟩
    have hDH : H D = none := by
      cases e : H D with
      | none => rfl
      | some o =>
        by_cases z : D = p
        · exact absurd z (d4.ne hD)
        · have := b4 D o e z
          rw [hD] at this
          cases this
    have hDp : D ≠ p := d4.ne hD
    refine ⟨n, rfl, by omega, by omega, for_z (walk_range (lo := 0) (n := n.toNat)) (fun i σ H5 => ∃ (v6 v8 v9 v10 : Option V),
      σ = [some (.ref p), some (.int n), some (.str abc), some (.str stem), some (.int first), some (.bl (decide (V.int ra = V.int 0))), v6, some (.ref D), v8, v9, v10] ∧
        H5 D = some (.lst ((List.range i).map fun k => V.str (nmOf (decide (V.int ra = V.int 0)) stem first k))) ∧ DeckAt H5 p wa ∧ But p H H5)
      ⟨v, none, none, none, rfl, upd_same, d4.same (Same.put hD), b4.trans (But.same (Same.put hD))⟩ (fun _ _ _ _ _ => trivial) ?_ ?_⟩
    · rintro i x σ H5 H6 hi ⟨v6, v8, v9, v10, rfl, g1, g2, g3⟩ ⟨rfl, rfl⟩
      have q0 := Int.emod_nonneg (first + 7 * (0 + (i : Int))) (show (676 : Int) ≠ 0 by decide)
      have q1 := Int.emod_lt_of_pos (first + 7 * (0 + (i : Int))) (show (0 : Int) < 676 by decide)
      refine ⟨.inl (by decide), by decide, ⟨by decide, by decide⟩, by decide, _, abc_ix (by omega) (by omega), by decide, by decide, _, abc_ix (by omega) (by omega), (show 2 ≤ sizeLine by decide), ?_⟩
      have hin : (List.range i).length < sizeLine := by
        rw [List.length_range]
        exact Nat.lt_of_lt_of_le (show i < 1000 by omega) (by decide)
      have hwD : wa ≠ D := by
        obtain ⟨c, m, t, ws, a1, a2, a3, a4⟩ := d4
        exact ne_of_none a2 hD
      have hfin : ∀ z : Str, z = nmOf (decide (V.int ra = V.int 0)) stem first i →
          (upd H6 D (.lst (((List.range i).map fun k => V.str (nmOf (decide (V.int ra = V.int 0)) stem first k)) ++ [.str z]))) D =
            some (.lst ((List.range (i + 1)).map fun k => V.str (nmOf (decide (V.int ra = V.int 0)) stem first k))) ∧
          DeckAt (upd H6 D (.lst (((List.range i).map fun k => V.str (nmOf (decide (V.int ra = V.int 0)) stem first k)) ++ [.str z]))) p wa ∧
          But p H (upd H6 D (.lst (((List.range i).map fun k => V.str (nmOf (decide (V.int ra = V.int 0)) stem first k)) ++ [.str z]))) := by
        rintro z rfl
        refine ⟨?_, ?_, ?_⟩
        · rw [upd_same, List.range_succ, List.map_append]
          rfl
        · obtain ⟨c, m, t, ws, a1, a2, a3, a4⟩ := g2
          exact ⟨c, m, t, ws, by rw [upd_ne hDp.symm]; exact a1, by rw [upd_ne hwD]; exact a2, a3, a4⟩
        · intro b o e nb
          rw [upd_ne (ne_of_none e hDH)]
          exact g3 b o e nb
      have hln : ((List.range i).map fun k => V.str (nmOf (decide (V.int ra = V.int 0)) stem first k)).length < sizeLine := by
        rw [List.length_map]
        exact hin
      have e0 : (0 : Int) + (i : Int) = (i : Int) := Int.zero_add _
      have l2 : ∀ x y : Nat, ((⟨#[x]⟩ : Str) ++ ⟨#[y]⟩).length = 2 := fun x y => rfl
      have l6 : stem.length ≤ 6 := hst.1
      refine ⟨.inl ⟨rfl, _, SqL.of g1⟩, ?_⟩
      refine zite (fun ha => ?_) (fun ha => ?_)
      · have hz : ((⟨#[97 + ((first + 7 * (0 + (i : Int))) % 676 / 26).toNat]⟩ : Str) ++ (⟨#[97 + ((first + 7 * (0 + (i : Int))) % 676 % 26).toNat]⟩ : Str)) ++ stem = nmOf (decide (V.int ra = V.int 0)) stem first i := by
          rw [e0]
          simp only [nmOf, ha, if_true, twoOf]
        refine ⟨?_, D, _, _, rfl, rfl, g1, hln, v6, _, _, _, rfl, hfin _ hz⟩
        rw [l2]
        exact Nat.le_trans (show 2 + stem.length ≤ 8 by omega) (by decide)
      · have hz : stem ++ ((⟨#[97 + ((first + 7 * (0 + (i : Int))) % 676 / 26).toNat]⟩ : Str) ++ (⟨#[97 + ((first + 7 * (0 + (i : Int))) % 676 % 26).toNat]⟩ : Str)) = nmOf (decide (V.int ra = V.int 0)) stem first i := by
          rw [e0]
          simp only [nmOf, ha, twoOf]
          rfl
        refine ⟨?_, D, _, _, rfl, rfl, g1, hln, v6, _, _, _, rfl, hfin _ hz⟩
        rw [l2]
        exact Nat.le_trans (show stem.length + 2 ≤ 8 by omega) (by decide)
    · rintro σ H5 ⟨v6, v8, v9, v10, rfl, g1, g2, g3⟩
      exact q _ stem first D H5 hst r0 r1 g2 g3 hDH g1
end Z
namespace Z
open PySem PySem.Spec PyProof.Rows L2
theorem ok_law_names {P : Program} {w : World} {K : PySem.W.Frag} {mg : Str → Option Value} {base : Heap} {g : Ads} (T : Txt K mg g) : FnZ P w K mg base 3 g.f_law_names g.d_law_names ["deck", "many"] (sp_law_names K g) := (raw_law_names T).imp pf_law_names
def sp_law_word (K : PySem.W.Frag) (g : Ads) : Sp := fun vs H Q E => ∃ (p wa : Addr), vs = [.ref p] ∧ DeckAt H p wa ∧
  ∀ z H', z.length ≤ 21 → Asc z → DeckAt H' p wa → But p H H' → Q (.str z) H'
def oddSigns : List Str := [" ", "A", "Z", "0", "9", "-", "~", "{", "`", "\n"]
theorem odd_one : ∀ s ∈ oddSigns, s.length = 1 ∧ ∀ c ∈ s.cps.toList, c < 128 := by decide +kernel
theorem asc_abc {c : Nat} (h : c < 26) : Asc ⟨#[97 + c]⟩ := asc_one (by omega)
theorem asc_nil : Asc "" := fun c hc => absurd hc (by simp [show ("" : Str).cps = #[] from rfl])
theorem pf_law_word {K : PySem.W.Frag} {g : Ads} (vs : List V) (H : Hp) (Q : VK) (E : XK) (h : sp_law_word K g vs H Q E) : rw_law_word K g vs H Q E := by
  obtain ⟨p, wa, rfl, hd, q⟩ := h
  refine ⟨rfl, p, wa, _, rfl, hd, by decide, by decide, fun r4 H3 r5 r6 d3 b3 => ⟨r4, rfl, by omega, by omega, for_z (walk_range (lo := 0) (n := r4.toNat)) (fun i σ H4 => ∃ (z : Str) (v : Option V),
    σ = [some (.ref p), some (.str abc), some (.str z), v, none, none] ∧ z.length ≤ i ∧ Asc z ∧ DeckAt H4 p wa ∧ But p H H4)
    ⟨"", none, rfl, Nat.le_refl _, asc_nil, d3, b3⟩ (fun _ _ _ _ _ => trivial) ?_ ?_⟩⟩
  · rintro i x σ H4 H5 hi ⟨z, v, rfl, f0, f1, d4, b4⟩ ⟨rfl, rfl⟩
    refine ⟨p, wa, _, rfl, d4, by decide, by decide, fun r H6 r0 r1 d6 b6 => ⟨by decide, _, abc_ix r0 r1, ?_, _, _, rfl, ?_, ?_, d6, b4.trans b6⟩⟩
    · rw [len_one]
      exact Nat.le_trans (show z.length + 1 ≤ 12 by omega) (by decide)
    · rw [len_app, len_one]
      omega
    · exact f1.app (asc_abc (by omega))
  · rintro σ H4 ⟨z, v, rfl, f0, f1, d4, b4⟩
    have hz : z.length ≤ 10 := by omega
    refine ⟨p, wa, _, rfl, d4, by decide, by decide, fun r H5 r0 r1 d5 b5 => .inl ⟨rfl, zite (fun hr => ?_) (fun hr => ?_)⟩⟩
    · refine ⟨Nat.le_trans (show z.length ≤ 10 from hz) (by decide), ?_⟩
      refine ⟨p, wa, _, rfl, d5, by omega, by omega, fun at_ H6 a0 a1 d6 b6 => ⟨by decide, fun l hl => ?_⟩⟩
      refine ⟨p, wa, l, oddSigns.map V.str, rfl, d6.same (Same.put hl), .inl (SqL.of upd_same), d6.ne hl, by decide, by decide, fun j x H7 hx d7 b7 => ?_⟩
      have b8 : But p H H7 := (((b4.trans b5).trans b6).trans (But.same (Same.put hl))).trans b7
      rw [List.getElem?_map] at hx
      cases e : oddSigns[j]? with
      | none =>
        rw [e] at hx
        cases hx
      | some s =>
        rw [e] at hx
        cases hx
        obtain ⟨l1, as⟩ := odd_one s (List.mem_of_getElem? e)
        have c1 := cutS_length z none (some at_)
        have c2 := cutS_length z (some at_) none
        have hzl : z.length ≤ sizeLine := Nat.le_trans (show z.length ≤ 10 from hz) (by decide)
        refine ⟨_, _, rfl, at_, rfl, z, rfl, hzl, ?_, at_, rfl, z, rfl, hzl, ?_, ?_⟩
        · exact Nat.le_trans (show _ ≤ 11 by omega) (by decide)
        · rw [len_app]
          exact Nat.le_trans (show _ ≤ 21 by omega) (by decide)
        · refine q _ _ ?_ (((f1.cut none (some at_)).app as).app (f1.cut (some at_) none)) d7 b8
          rw [len_app, len_app]
          omega
    · exact q z H5 (by omega) f1 d5 (b4.trans b5)
theorem ok_law_word {P : Program} {w : World} {K : PySem.W.Frag} {mg : Str → Option Value} {base : Heap} {g : Ads} (T : Txt K mg g) : FnZ P w K mg base 3 g.f_law_word g.d_law_word ["deck"] (sp_law_word K g) := (raw_law_word T).imp pf_law_word
def sp_law_is_name (K : PySem.W.Frag) (g : Ads) : Sp := sp_is_name K g
theorem pf_law_is_name {K : PySem.W.Frag} {g : Ads} (vs : List V) (H : Hp) (Q : VK) (E : XK) (h : sp_law_is_name K g vs H Q E) : rw_law_is_name K g vs H Q E := by
  obtain ⟨v, rfl, hk, q⟩ := h
  refine ⟨rfl, ?_⟩
  cases v with
  | non => exact q H (Same.refl H)
  | bl b => exact q H (Same.refl H)
  | int b => exact q H (Same.refl H)
  | ref a =>
    obtain ⟨t, ht⟩ := hk
    cases t <;> first | exact ht.elim | exact ⟨_, ht, q H (Same.refl H)⟩
  | str z =>
    have hz : z.length ≤ 1000 := hk
    refine .inl ⟨rfl, zite (fun h3 => ?_) (fun h3 => ?_)⟩
    · have e : isNameV (.str z) = false := by simp [isNameV, nameB] at h3 ⊢; simp [h3]
      rw [e] at q
      exact q H (Same.refl H)
    · refine ⟨Nat.le_trans hz (by decide), zite (fun h1 => ?_) (fun h1 => ?_)⟩
      · refine zite (fun h2 => ?_) (fun h2 => ?_)
        · have e : isNameV (.str z) = false := by simp [isNameV, nameB] at h2 ⊢; omega
          rw [e] at q
          exact q H (Same.refl H)
        · refine ⟨z, rfl, lc_map walk_str (fun i => .bl (decide (z.cps.getD i 0 ∈ ("abcdefghijklmnopqrstuvwxyz" : Str).cps.toList))) ?_ (fun _ _ => trivial) (fun i x H0 H' hi s y => ?_) (fun D hD => ?_)⟩
          · exact Nat.le_trans hz (by decide)
          · obtain ⟨rfl, c, hc, rfl⟩ := y
            refine ⟨rfl, _, fun R r => r, rfl, fun R r => r, fun R r => .inl ⟨c, _, rfl, rfl, ?_⟩⟩
            have e : z.cps.getD i 0 = c := by simp [Array.getD_eq_getD_getElem?, hc]
            rw [← e]
            exact r
          · refine ⟨D, (List.range z.cps.size).map fun i => decide (z.cps.getD i 0 ∈ ("abcdefghijklmnopqrstuvwxyz" : Str).cps.toList), rfl, SqL.of ?_, ?_⟩
            · rw [upd_same, List.map_map]
              rfl
            · have e : isNameV (.str z) = lettB z := by
                have a1 : ¬ z = "none" := by simpa using h3
                have a2 : (1 : Int) ≤ z.length := by simp at h1; omega
                have a3 : (z.length : Int) ≤ 8 := by simp at h2; omega
                simp [isNameV, nameB, a1, a2, a3]
              have q' := q _ (Same.put (o := .lst ((List.range z.cps.size).map fun i => V.bl (decide (z.cps.getD i 0 ∈ ("abcdefghijklmnopqrstuvwxyz" : Str).cps.toList)))) hD)
              rw [e] at q'
              exact q'
      · have e : isNameV (.str z) = false := by
          have a1 : ¬ (1 : Int) ≤ z.length := by simp at h1; omega
          simp [isNameV, nameB, a1]
        rw [e] at q
        exact q H (Same.refl H)
  | _ => exact hk.elim
theorem ok_law_is_name {P : Program} {w : World} {K : PySem.W.Frag} {mg : Str → Option Value} {base : Heap} {g : Ads} (T : Txt K mg g) : FnZ P w K mg base 1 g.f_law_is_name g.d_law_is_name ["thing"] (sp_law_is_name K g) := (raw_law_is_name T).imp pf_law_is_name
theorem sc_law_is_operand : FnScope ["thing"] ["thing"] (defScope s_law_is_operand) := ⟨rfl, rfl, rfl, by decide +kernel, rfl, by decide +kernel, by decide +kernel⟩
def R_law_is_operand_4 (K : PySem.W.Frag) (g : Ads) (E : XK) : TS :=
  (tRet (zChain zLt zLt (zNeg (tOp zPow (tC (.int 10)) (tC (.int 20)))) (zVar 0) (tOp zPow (tC (.int 10)) (tC (.int 20)))))
def R_law_is_operand_5 (K : PySem.W.Frag) (g : Ads) (E : XK) : TS :=
  (tRet (zOrV (tOp zIs (zVar 0) (tC .non)) (zCall (sp_law_is_name K g) [] (WE (fun cls d _ H => E cls d H)) (tCons (zVar 0) tNil))))
def R_law_is_operand_3 (K : PySem.W.Frag) (g : Ads) (E : XK) : TS :=
  (tSeq (tIfS (zTru K (zIsiT K .int (zVar 0)))
  (R_law_is_operand_4 K g E)
  tNext)
  (R_law_is_operand_5 K g E))
def R_law_is_operand (K : PySem.W.Frag) (g : Ads) (E : XK) : TS :=
  (tSeq (tIfS (zTru K (zIsiT K .bool (zVar 0)))
  (tRet (tC (.bl false)))
  tNext)
  (R_law_is_operand_3 K g E))
def rw_law_is_operand (K : PySem.W.Frag) (g : Ads) : Sp := fun vs H Q E => vs.length = 1 ∧ R_law_is_operand K g E { nx := fun _ H' => Q .non H', rt := Q } (start ["thing"] vs) H
theorem raw_law_is_operand {P : Program} {w : World} {K : PySem.W.Frag} {mg : Str → Option Value} {base : Heap} {g : Ads} (T : Txt K mg g) : FnZ P w K mg base 2 g.f_law_is_operand g.d_law_is_operand ["thing"] (rw_law_is_operand K g) := by
  refine okZ T.f_law_is_operand sc_law_is_operand (fun vs H Q E h => h.1) (fun cdv A outer s H vs Q E hr hgu h => ⟨R_law_is_operand K g E, ?_, h.2⟩)
  exact (pss_cons (ps_if (ptz_truth (pe_isi (kd := .bool) (zv 0) (by rfl) T.b_isinstance (by decide +kernel) (by rfl) T.b_bool (by decide +kernel)) (by intro _; rfl))
  (pss_one (ps_ret pe_bl))
  pss_nil)
  (pss_cons (ps_if (ptz_truth (pe_isi (kd := .int) (zv 0) (by rfl) T.b_isinstance (by decide +kernel) (by rfl) T.b_int (by decide +kernel)) (by intro _; rfl))
  (pss_one (ps_ret (pez_chain op_zLt op_zLt (pez_neg (pe_op op_zPow pe_int pe_int)) (zv 0) (pe_op op_zPow pe_int pe_int))))
  pss_nil)
  (pss_one (ps_ret (pez_or (pe_cmpR op_zIs (zv 0) pe_non (nomark _)) (pe_one (pe_callZ (ok_law_is_name T) (hr.mono (by decide)) hgu rfl T.g_law_is_name T.k_law_is_name T.e_law_is_name .nil (fun σ => passAt (takes_of rfl rfl rfl rfl) σ) (pa_cons (zv 0) pa_nil))))))))
def sp_law_is_operand (K : PySem.W.Frag) (g : Ads) : Sp := fun vs H Q E => ∃ v, vs = [v] ∧ Knd K H v ∧ ∀ H', Same H H' → Q (.bl (isOperV v)) H'
theorem pf_law_is_operand {K : PySem.W.Frag} {g : Ads} (vs : List V) (H : Hp) (Q : VK) (E : XK) (h : sp_law_is_operand K g vs H Q E) : rw_law_is_operand K g vs H Q E := by
  obtain ⟨v, rfl, hk, q⟩ := h
  refine ⟨rfl, ?_⟩
  cases v with
  | non => exact ⟨rfl, q H (Same.refl H)⟩
  | bl b => exact q H (Same.refl H)
  | int i =>
    refine ⟨⟨by decide, by decide, by decide⟩, zite (fun h1 => ⟨⟨by decide, by decide, by decide⟩, ?_⟩) (fun h1 => ?_)⟩
    · have a1 : -100000000000000000000 < i := by simpa using h1
      have e : isOperV (.int i) = decide (i < 10 ^ (20 : Int).toNat) := by simp [isOperV, isIntV, isNameV, a1]
      rw [e] at q
      exact q H (Same.refl H)
    · have a1 : ¬ -100000000000000000000 < i := by simpa using h1
      have e : isOperV (.int i) = false := by simp [isOperV, isIntV, isNameV, a1]
      rw [e] at q
      exact q H (Same.refl H)
  | ref a =>
    obtain ⟨t, ht⟩ := id hk
    have e : isOperV (.ref a) = isNameV (.ref a) := by simp [isOperV, isIntV]
    have e0 : decide (t = Kd.bool) = false := by cases t <;> first | rfl | exact ht.elim
    have e1 : decide (t = Kd.int) = false := by cases t <;> first | rfl | exact ht.elim
    cases t <;> first | exact ht.elim | exact ⟨_, ht, _, ht, rfl, _, rfl, hk, fun H' s => e ▸ q H' s⟩
  | str z =>
    have e : isOperV (.str z) = isNameV (.str z) := by simp [isOperV, isIntV]
    exact ⟨rfl, _, rfl, hk, fun H' s => e ▸ q H' s⟩
  | _ => exact hk.elim
theorem ok_law_is_operand {P : Program} {w : World} {K : PySem.W.Frag} {mg : Str → Option Value} {base : Heap} {g : Ads} (T : Txt K mg g) : FnZ P w K mg base 2 g.f_law_is_operand g.d_law_is_operand ["thing"] (sp_law_is_operand K g) := (raw_law_is_operand T).imp pf_law_is_operand
theorem sc_law_is_right : FnScope ["thing", "shown", "found", "e", "due", "row"] ["thing"] (defScope s_law_is_right) := ⟨rfl, rfl, rfl, by decide +kernel, rfl, by decide +kernel, by decide +kernel⟩
def R_law_is_right_11 (K : PySem.W.Frag) (g : Ads) (E : XK) : TS :=
  (tRet (zAndV (tOp (zEq K) (zLc (iList K (zVar 2)) (gName 5) tYes (tOp (zIx K) (zVar 5) (tC (.int 0))) [5]) (zVar 4)) (tCB (rAll K) (tCons (zLc (iList K (zVar 2)) (gName 5) tYes (tOp (zEq K) (tCB (zRepr K) (tCons (tOp (zIx K) (zVar 5) (tC (.int 1))) tNil)) (zVar 1)) [5]) tNil))))
def R_law_is_right_10 (K : PySem.W.Frag) (g : Ads) (E : XK) : TS :=
  (tSeq (tAsg (tLst (tCons (tIf (zTru K (zCall (sp_law_is_name K g) [] (WE (fun cls d _ H => E cls d H)) (tCons (zVar 0) tNil))) (tC (.str "ok")) (tC (.str "no"))) (tCons (tIf (zTru K (zCall (sp_law_is_operand K g) [] (WE (fun cls d _ H => E cls d H)) (tCons (zVar 0) tNil))) (tC (.str "ok")) (tC (.str "no"))) tNil))) (gName 4))
  (R_law_is_right_11 K g E))
def R_law_is_right_6 (K : PySem.W.Frag) (g : Ads) (E : XK) : TS :=
  (tSeq (fun D σ H => (fun W => (tDrop (tBM K "list" rAppend (zVar 2) (tCons (tLst (tCons (tC (.str "ok")) (tCons (zCall (sp_check_operand K g) [] (WE W) (tCons (zVar 0) tNil)) tNil))) tNil)))) (wAs K (.ref g.c_BadValue) 3 (fun a cls dd => (tDrop (tBM K "list" rAppend (zVar 2) (tCons (tLst (tCons (tC (.str "no")) (tCons (tXf a cls dd g.c_BadValue "value" (zVar 3)) tNil))) tNil)))) (fun cls d _ H => E cls d H) D) D σ H)
  (R_law_is_right_10 K g E))
def R_law_is_right_2 (K : PySem.W.Frag) (g : Ads) (E : XK) : TS :=
  (tSeq (fun D σ H => (fun W => (tDrop (tBM K "list" rAppend (zVar 2) (tCons (tLst (tCons (tC (.str "ok")) (tCons (zCall (sp_check_name K g) [] (WE W) (tCons (zVar 0) tNil)) tNil))) tNil)))) (wAs K (.ref g.c_BadName) 3 (fun a cls dd => (tDrop (tBM K "list" rAppend (zVar 2) (tCons (tLst (tCons (tC (.str "no")) (tCons (tXf a cls dd g.c_BadName "name" (zVar 3)) tNil))) tNil)))) (fun cls d _ H => E cls d H) D) D σ H)
  (R_law_is_right_6 K g E))
def R_law_is_right (K : PySem.W.Frag) (g : Ads) (E : XK) : TS :=
  (tSeq (tAsg (tTup (tCons (tCB (zRepr K) (tCons (zVar 0) tNil)) (tCons (tLst tNil) tNil))) (gTup K 2 (gCons (gName 1) (gCons (gName 2) gNil))))
  (R_law_is_right_2 K g E))
def rw_law_is_right (K : PySem.W.Frag) (g : Ads) : Sp := fun vs H Q E => vs.length = 1 ∧ R_law_is_right K g E { nx := fun _ H' => Q .non H', rt := Q } (start ["thing", "shown", "found", "e", "due", "row"] vs) H
theorem raw_law_is_right {P : Program} {w : World} {K : PySem.W.Frag} {mg : Str → Option Value} {base : Heap} {g : Ads} (T : Txt K mg g) : FnZ P w K mg base 4 g.f_law_is_right g.d_law_is_right ["thing"] (rw_law_is_right K g) := by
  refine okZ T.f_law_is_right sc_law_is_right (fun vs H Q E h => h.1) (fun cdv A outer s H vs Q E hr hgu h => ⟨R_law_is_right K g E, ?_, h.2⟩)
  exact (pss_cons (ps_asg (pe_tup (pa_cons (pe_callB (call_reprZ hgu hr.units) (by rfl) T.b_repr (by decide +kernel) (pa_cons (zv 0) pa_nil)) (pa_cons (pe_lst pa_nil) pa_nil))) (pg_tup rfl (pgs_cons (pg_name (i := 1) sc_law_is_right.nd rfl (Or.inr rfl)) (pgs_cons (pg_name (i := 2) sc_law_is_right.nd rfl (Or.inl rfl)) pgs_nil))))
  (pss_cons (ps_try_as (i := 3) (tb := fun W => (tDrop (tBM K "list" rAppend (zVar 2) (tCons (tLst (tCons (tC (.str "ok")) (tCons (zCall (sp_check_name K g) [] (WE W) (tCons (zVar 0) tNil)) tNil))) tNil)))) (ts := (fun a cls dd => (tDrop (tBM K "list" rAppend (zVar 2) (tCons (tLst (tCons (tC (.str "no")) (tCons (tXf a cls dd g.c_BadName "name" (zVar 3)) tNil))) tNil))))) (Wout := (fun cls d _ H => E cls d H)) rfl rfl sc_law_is_right.nd rfl rfl ⟨rfl, by decide, Or.inl T.g_BadName⟩ (takes_of rfl rfl rfl rfl)
  (fun W pn xe tk po => (pss_one (ps_expr (pe_bm PySem.F.plainAttrs_list PySem.F.slot_list_append PySem.F.type_list_append mt_append (zv 2) (pa_cons (pe_lst (pa_cons pe_str (pa_cons (pe_callZ (ok_check_name T) (hr.mono (by decide)) hgu rfl T.g_check_name T.k_check_name T.e_check_name .nil (fun σ => passAt tk σ) (pa_cons (zv 0) pa_nil)) pa_nil))) pa_nil)))))
  (fun a oe cls dd pn hz hf => (pss_one (ps_expr (pe_bm PySem.F.plainAttrs_list PySem.F.slot_list_append PySem.F.type_list_append mt_append (zv 2) (pa_cons (pe_lst (pa_cons pe_str (pa_cons (pe_xf T.x_BadName T.a_BadName_name hz hf (zv 3)) pa_nil))) pa_nil))))))
  (pss_cons (ps_try_as (i := 3) (tb := fun W => (tDrop (tBM K "list" rAppend (zVar 2) (tCons (tLst (tCons (tC (.str "ok")) (tCons (zCall (sp_check_operand K g) [] (WE W) (tCons (zVar 0) tNil)) tNil))) tNil)))) (ts := (fun a cls dd => (tDrop (tBM K "list" rAppend (zVar 2) (tCons (tLst (tCons (tC (.str "no")) (tCons (tXf a cls dd g.c_BadValue "value" (zVar 3)) tNil))) tNil))))) (Wout := (fun cls d _ H => E cls d H)) rfl rfl sc_law_is_right.nd rfl rfl ⟨rfl, by decide, Or.inl T.g_BadValue⟩ (takes_of rfl rfl rfl rfl)
  (fun W pn xe tk po => (pss_one (ps_expr (pe_bm PySem.F.plainAttrs_list PySem.F.slot_list_append PySem.F.type_list_append mt_append (zv 2) (pa_cons (pe_lst (pa_cons pe_str (pa_cons (pe_callZ (ok_check_operand T) (hr.mono (by decide)) hgu rfl T.g_check_operand T.k_check_operand T.e_check_operand .nil (fun σ => passAt tk σ) (pa_cons (zv 0) pa_nil)) pa_nil))) pa_nil)))))
  (fun a oe cls dd pn hz hf => (pss_one (ps_expr (pe_bm PySem.F.plainAttrs_list PySem.F.slot_list_append PySem.F.type_list_append mt_append (zv 2) (pa_cons (pe_lst (pa_cons pe_str (pa_cons (pe_xf T.x_BadValue T.a_BadValue_value hz hf (zv 3)) pa_nil))) pa_nil))))))
  (pss_cons (ps_set (i := 4) sc_law_is_right.nd rfl (Or.inl rfl) (pe_lst (pa_cons (pe_ifExp (ptz_truth (pe_callZ (ok_law_is_name T) (hr.mono (by decide)) hgu rfl T.g_law_is_name T.k_law_is_name T.e_law_is_name .nil (fun σ => passAt (takes_of rfl rfl rfl rfl) σ) (pa_cons (zv 0) pa_nil)) (by intro _; rfl)) pe_str pe_str) (pa_cons (pe_ifExp (ptz_truth (pe_callZ (ok_law_is_operand T) (hr.mono (by decide)) hgu rfl T.g_law_is_operand T.k_law_is_operand T.e_law_is_operand .nil (fun σ => passAt (takes_of rfl rfl rfl rfl) σ) (pa_cons (zv 0) pa_nil)) (by intro _; rfl)) pe_str pe_str) pa_nil))))
  (pss_one (ps_ret (pez_and (pe_cmpR (op_zEq hr.units) (pez_lc (own := [("row", 5)]) rfl sc_law_is_right.nd (pi_list (zv 2)) (blkOk_by (own := [("row", 5)]) (N := ["thing", "shown", "found", "e", "due", "row"]) (sc := defScope s_law_is_right) (by decide +kernel)) (fun _ _ _ _ _ => pg_name (i := 5) sc_law_is_right.nd rfl (Or.inl rfl)) (fun _ _ _ _ _ => pts_nil) (fun _ _ _ _ _ => (pe_ix ix_z (zv 5) pe_int (fun _ _ => rfl)))) (zv 4) (nomark _)) (pe_one (pe_callB (cr_all rfl) (by rfl) T.b_all (by decide +kernel) (pa_cons (pez_lc (own := [("row", 5)]) rfl sc_law_is_right.nd (pi_list (zv 2)) (blkOk_by (own := [("row", 5)]) (N := ["thing", "shown", "found", "e", "due", "row"]) (sc := defScope s_law_is_right) (by decide +kernel)) (fun _ _ _ _ _ => pg_name (i := 5) sc_law_is_right.nd rfl (Or.inl rfl)) (fun _ _ _ _ _ => pts_nil) (fun _ _ _ _ _ => (pe_cmpR (op_zEq hr.units) (pe_callB (call_reprZ hgu hr.units) (by rfl) T.b_repr (by decide +kernel) (pa_cons (pe_ix ix_z (zv 5) pe_int (fun _ _ => rfl)) pa_nil)) (zv 1) (nomark _)))) pa_nil))))))))))
end Z
namespace Z
open PySem PySem.Spec PyProof.Rows L2
theorem Same.tup {K : PySem.W.Frag} {H H' : Hp} {a : Addr} {xs : List V} (s : Same H H') (h : SqT K H a xs) : SqT K H' a xs := by
  rcases h with (h | ⟨o, h⟩) | h
  · exact .inl (.inl (s _ _ h))
  · exact .inl (.inr ⟨o, s _ _ h⟩)
  · exact .inr h
mutual
theorem Dp_same {K : PySem.W.Frag} {H H' : Hp} (s : Same H H') : ∀ (d : PyData) (v : V), Dp K H v d → Dp K H' v d
  | .none, _, h => by cases h; exact .non
  | .bool b, _, h => by cases h; exact .bl _
  | .int i, _, h => by cases h; exact .int _
  | .str x, _, h => by cases h; exact .str _
  | .list ds, _, h => by
    cases h with
    | lst a b => exact .lst (s.seq a) (Dp_sames s ds _ b)
  | .tuple ds, _, h => by
    cases h with
    | tup a b => exact .tup (Z.Same.tup s a) (Dp_sames s ds _ b)
  | .dict _, _, h => by cases h
theorem Dp_sames {K : PySem.W.Frag} {H H' : Hp} (s : Same H H') : ∀ (ds : List PyData) (vs : List V), DpAll K H vs ds → DpAll K H' vs ds
  | [], _, h => by cases h; exact .nil
  | d :: ds, _, h => by
    cases h with
    | cons a b => exact .cons (Dp_same s d _ a) (Dp_sames s ds _ b)
end
theorem DpR.same {K : PySem.W.Frag} {H H' : Hp} {v : V} {d : PyData} (h : DpR K H v d) (s : Same H H') : DpR K H' v d := by
  rcases h with ⟨h, e⟩ | ⟨a, kvs, kds, e1, e2, e3, e4⟩
  · exact .inl ⟨Dp_same s _ _ h, e⟩
  · exact .inr ⟨a, kvs, kds, e1, s _ _ e2, e3, e4⟩
def okS (b : Bool) : Str := if b = true then "ok" else "no"
theorem ok_eqv (b c : Bool) : PyData.eqv (.list [.str (okS b), .str (okS c)]) (.list [.str (okS b), .str (okS c)]) = true ∧ SeqAt.shaped (.list [.str (okS b), .str (okS c)]) = true := by
  cases b <;> cases c <;> decide +kernel
/-- a thing that is asked: its kind, and what repr tells of it -/
structure Thing (K : PySem.W.Frag) (H : Hp) (v : V) (d : PyData) : Prop where
  kn : Knd K H v
  dp : DpR K H v d
  sh : d.showable = true
  de : d.depth ≤ 32
  le : d.shown.length ≤ sizeLine
theorem Thing.same {K : PySem.W.Frag} {H H' : Hp} {v : V} {d : PyData} (t : Thing K H v d) (s : Same H H') : Thing K H' v d := ⟨t.kn.same s, t.dp.same s, t.sh, t.de, t.le⟩
def sp_law_is_right (K : PySem.W.Frag) (g : Ads) : Sp := fun vs H Q E => ∃ v d, vs = [v] ∧ Thing K H v d ∧ ∀ H', Same H H' → Q (.bl true) H'
theorem pf_law_is_right {K : PySem.W.Frag} {mg : Str → Option Value} {g : Ads} (T : Txt K mg g) (vs : List V) (H : Hp) (Q : VK) (E : XK) (h : sp_law_is_right K g vs H Q E) : rw_law_is_right K g vs H Q E := by
  obtain ⟨v, d, rfl, th, q⟩ := h
  -- the end
  have fin : ∀ (D r1 r2 : Addr) (w1 w2 : Str) (H3 : Hp), w1 = okS (isNameV v) → w2 = okS (isOperV v) → Same H H3 → H3 D = some (.lst [.ref r1, .ref r2]) →
      H3 r1 = some (.lst [.str (okS (isNameV v)), v]) → H3 r2 = some (.lst [.str (okS (isOperV v)), v]) →
      2 ≤ sizeLine ∧ ∀ l, H3 l = none → R_law_is_right_11 K g E { nx := fun _ H' => Q .non H', rt := Q } [some v, some (.str d.shown), some (.ref D), none, some (.ref l), none] (upd H3 l (.lst [.str w1, .str w2])) := by
    rintro D r1 r2 w1 w2 H3 rfl rfl s3 hD h1 h2
    refine ⟨by decide, fun l hl => ?_⟩
    have t4 : Same H3 (upd H3 l (.lst [.str (okS (isNameV v)), .str (okS (isOperV v))])) := Same.put hl
    have hl4 : (upd H3 l (.lst [.str (okS (isNameV v)), .str (okS (isOperV v))])) l = some (.lst [.str (okS (isNameV v)), .str (okS (isOperV v))]) := upd_same
    generalize (upd H3 l (.lst [V.str (okS (isNameV v)), .str (okS (isOperV v))])) = H4 at t4 hl4 ⊢
    refine ⟨D, rfl, ⟨_, SqL.of (t4 _ _ hD)⟩, lc_map (walk_list (xs := [.ref r1, .ref r2])) (fun i => if i = 0 then .str (okS (isNameV v)) else .str (okS (isOperV v))) (show 2 ≤ sizeLine by decide) (fun H' s => SqL.of (s _ _ (t4 _ _ hD))) (fun i x H5 H' hi s y => ?_) (fun D2 hD2 => ?_)⟩
    · obtain ⟨rfl, hx⟩ := y
      match i, hx with
      | 0, hx =>
        cases hx
        exact ⟨rfl, _, fun R r => r, rfl, fun R r => r, fun R r => ⟨_, _, .inl (SqL.of (s _ _ (t4 _ _ h1))), rfl, r⟩⟩
      | 1, hx =>
        cases hx
        exact ⟨rfl, _, fun R r => r, rfl, fun R r => r, fun R r => ⟨_, _, .inl (SqL.of (s _ _ (t4 _ _ h2))), rfl, r⟩⟩
      | i + 2, hx => simp at hx
    · obtain ⟨e1, e2⟩ := ok_eqv (isNameV v) (isOperV v)
      have t5 : Same H4 (upd H4 D2 (.lst [.str (okS (isNameV v)), .str (okS (isOperV v))])) := Same.put hD2
      refine .inr ⟨.list [.str (okS (isNameV v)), .str (okS (isOperV v))], .list [.str (okS (isNameV v)), .str (okS (isOperV v))], .lst (SqL.of (xs := [.str (okS (isNameV v)), .str (okS (isOperV v))]) upd_same) (.cons (.str _) (.cons (.str _) .nil)),
        .lst (SqL.of (t5 _ _ hl4)) (.cons (.str _) (.cons (.str _) .nil)), e2, e2, ?_⟩
      rw [e1]
      have hD5 := t5 _ _ (t4 _ _ hD)
      have h15 := t5 _ _ (t4 _ _ h1)
      have h25 := t5 _ _ (t4 _ _ h2)
      have s5 := (s3.trans t4).trans t5
      refine ⟨D, rfl, ⟨_, SqL.of hD5⟩, lc_map (walk_list (xs := [.ref r1, .ref r2])) (fun i => .bl true) (show 2 ≤ sizeLine by decide) (fun H' s => SqL.of (s _ _ hD5)) (fun i x H6 H' hi s y => ?_) (fun D3 hD3 => ?_)⟩
      · obtain ⟨rfl, hx⟩ := y
        have t6 := (th.same s5).same s
        have row : ∀ (r : Addr) (w : Str), H' r = some (.lst [.str w, v]) → x = .ref r → H' = H' ∧ ∃ σ2 : St, (∀ R : St → Hp → Prop, R σ2 H' → gName 5 x (wipe [some v, some (.str d.shown), some (.ref D), none, some (.ref l), none] [5]) H' R) ∧
            wipe σ2 [5] = wipe [some v, some (.str d.shown), some (.ref D), none, some (.ref l), none] [5] ∧ (∀ R : Bool → Hp → Prop, R true H' → tYes σ2 H' R) ∧
            (∀ R : VK, R (.bl true) H' → (tOp (zEq K) (tCB (zRepr K) (tCons (tOp (zIx K) (zVar 5) (tC (.int 1))) tNil)) (zVar 1)) σ2 H' R) := by
          rintro r w hr rfl
          refine ⟨rfl, _, fun R r => r, rfl, fun R r => r, fun R rr => ⟨_, _, .inl (SqL.of hr), rfl, ?_⟩⟩
          refine ⟨v, d, rfl, t6.dp, t6.sh, t6.de, t6.le, .inl ⟨rfl, ?_⟩⟩
          rw [show decide (V.str d.shown = V.str d.shown) = true from decide_eq_true rfl]
          exact rr
        match i, hx with
        | 0, hx =>
          cases hx
          exact row r1 _ (s _ _ h15) rfl
        | 1, hx =>
          cases hx
          exact row r2 _ (s _ _ h25) rfl
        | i + 2, hx => simp at hx
      · exact ⟨D3, [true, true], rfl, SqL.of upd_same, q _ (s5.trans (Same.put hD3))⟩
  -- what is due
  have go10 : ∀ (D r1 r2 : Addr) (H3 : Hp), Same H H3 → H3 D = some (.lst [.ref r1, .ref r2]) → H3 r1 = some (.lst [.str (okS (isNameV v)), v]) → H3 r2 = some (.lst [.str (okS (isOperV v)), v]) →
      R_law_is_right_10 K g E { nx := fun _ H' => Q .non H', rt := Q } [some v, some (.str d.shown), some (.ref D), none, none, none] H3 := by
    intro D r1 r2 H3 s3 hD h1 h2
    have t3 := th.same s3
    refine ⟨v, rfl, t3.kn, fun H4 s4 => zite (fun b1 => ?_) (fun b1 => ?_)⟩
    · refine ⟨v, rfl, t3.kn.same s4, fun H5 s5 => zite (fun b2 => ?_) (fun b2 => ?_)⟩
      · exact fin D r1 r2 "ok" "ok" H5 (by rw [b1]; rfl) (by rw [b2]; rfl) ((s3.trans s4).trans s5) (s5 _ _ (s4 _ _ hD)) (s5 _ _ (s4 _ _ h1)) (s5 _ _ (s4 _ _ h2))
      · exact fin D r1 r2 "ok" "no" H5 (by rw [b1]; rfl) (by rw [b2]; rfl) ((s3.trans s4).trans s5) (s5 _ _ (s4 _ _ hD)) (s5 _ _ (s4 _ _ h1)) (s5 _ _ (s4 _ _ h2))
    · refine ⟨v, rfl, t3.kn.same s4, fun H5 s5 => zite (fun b2 => ?_) (fun b2 => ?_)⟩
      · exact fin D r1 r2 "no" "ok" H5 (by rw [b1]; rfl) (by rw [b2]; rfl) ((s3.trans s4).trans s5) (s5 _ _ (s4 _ _ hD)) (s5 _ _ (s4 _ _ h1)) (s5 _ _ (s4 _ _ h2))
      · exact fin D r1 r2 "no" "no" H5 (by rw [b1]; rfl) (by rw [b2]; rfl) ((s3.trans s4).trans s5) (s5 _ _ (s4 _ _ hD)) (s5 _ _ (s4 _ _ h1)) (s5 _ _ (s4 _ _ h2))
  let go10K : Addr → VK := fun D _ H1 => R_law_is_right_10 K g E { nx := fun _ H' => Q .non H', rt := Q } [some v, some (.str d.shown), some (.ref D), none, none, none] H1
  let go6K : Addr → VK := fun D _ H1 => R_law_is_right_6 K g E { nx := fun _ H' => Q .non H', rt := Q } [some v, some (.str d.shown), some (.ref D), none, none, none] H1
  -- a row that is laid and appended to what is found at D
  have lay : ∀ (D : Addr) (acc : List V) (w : Str) (H4 : Hp) (k : VK), H D = none → Same H H4 → H4 D = some (.lst acc) → acc.length ≤ 2 →
      (∀ l H5, H4 l = none → Same H H5 → But D H4 H5 → H5 D = some (.lst (acc ++ [.ref l])) → H5 l = some (.lst [.str w, v]) → k .non H5) →
      2 ≤ sizeLine ∧ ∀ l, H4 l = none → rAppend (.ref D) [.ref l] (upd H4 l (.lst [.str w, v])) k := by
    intro D acc w H4 k hDn s4 hD hl kk
    refine ⟨by decide, fun l hl4 => ?_⟩
    have nD : D ≠ l := ne_of_none hD hl4
    refine ⟨D, acc, _, rfl, rfl, by rw [upd_ne nD]; exact hD, Nat.lt_of_le_of_lt hl (by decide), ?_⟩
    refine kk l _ hl4 ?_ ((But.same (Same.put hl4)).trans But.put) upd_same (by rw [upd_ne nD.symm, upd_same])
    intro b o e
    rw [upd_ne (ne_of_none e hDn)]
    exact Same.put hl4 _ _ (s4 _ _ e)
  have go6 : ∀ (D r1 : Addr) (H3 : Hp), H D = none → Same H H3 → H3 D = some (.lst [.ref r1]) → H3 r1 = some (.lst [.str (okS (isNameV v)), v]) →
      R_law_is_right_6 K g E { nx := fun _ H' => Q .non H', rt := Q } [some v, some (.str d.shown), some (.ref D), none, none, none] H3 := by
    intro D r1 H3 hDn s3 hD h1
    have n1 : r1 ≠ D := fun z => by
      rw [z, hD] at h1
      cases h1
    refine ⟨.inl ⟨rfl, _, SqL.of hD⟩, v, rfl, (th.same s3).kn, fun hb H4 s4 => ?_, fun hb H4 dd s4 hdn hdd => ⟨true, T.h_BadValue, fun _ a ha => ?_, fun z => absurd z (by decide)⟩⟩
    · refine lay D _ "ok" H4 (go10K D) hDn (s3.trans s4) (s4 _ _ hD) (by simp) ?_
      exact fun l H5 hl s5 b5 e5 f5 => go10 D r1 l H5 s5 e5 (b5 _ _ (s4 _ _ h1) n1) (by rw [hb]; exact f5)
    · refine ⟨.inl ⟨rfl, _, SqL.of (s4 _ _ hD)⟩, rfl, rfl, dd, _, v, rfl, hdd, by simp [List.lookup], ?_⟩
      refine lay D _ "no" H4 (go10K D) hDn (s3.trans s4) (s4 _ _ hD) (by simp) ?_
      exact fun l H5 hl s5 b5 e5 f5 => go10 D r1 l H5 s5 e5 (b5 _ _ (s4 _ _ h1) n1) (by rw [hb]; exact f5)
  have go2 : ∀ (D : Addr) (H3 : Hp), H D = none → Same H H3 → H3 D = some (.lst []) →
      R_law_is_right_2 K g E { nx := fun _ H' => Q .non H', rt := Q } [some v, some (.str d.shown), some (.ref D), none, none, none] H3 := by
    intro D H3 hDn s3 hD
    refine ⟨.inl ⟨rfl, _, SqL.of hD⟩, v, rfl, (th.same s3).kn, fun hb H4 s4 => ?_, fun hb H4 dd s4 hdn hdd => ⟨true, T.h_BadName, fun _ a ha => ?_, fun z => absurd z (by decide)⟩⟩
    · refine lay D _ "ok" H4 (go6K D) hDn (s3.trans s4) (s4 _ _ hD) (by simp) ?_
      exact fun l H5 hl s5 b5 e5 f5 => go6 D l H5 hDn s5 e5 (by rw [hb]; exact f5)
    · refine ⟨.inl ⟨rfl, _, SqL.of (s4 _ _ hD)⟩, rfl, rfl, dd, _, v, rfl, hdd, by simp [List.lookup], ?_⟩
      refine lay D _ "no" H4 (go6K D) hDn (s3.trans s4) (s4 _ _ hD) (by simp) ?_
      exact fun l H5 hl s5 b5 e5 f5 => go6 D l H5 hDn s5 e5 (by rw [hb]; exact f5)
  refine ⟨rfl, ⟨v, d, rfl, th.dp, th.sh, th.de, th.le, by decide, fun D hD => ⟨show 2 ≤ sizeLine by decide, fun tp htp => ⟨tp, _, rfl, SqT.of upd_same, rfl, _, _, rfl, _, _, rfl, rfl, ?_⟩⟩⟩⟩
  refine go2 D _ hD ((Same.put hD).trans (Same.put htp)) ?_
  rw [upd_ne (ne_of_none upd_same htp), upd_same]
theorem ok_law_is_right {P : Program} {w : World} {K : PySem.W.Frag} {mg : Str → Option Value} {base : Heap} {g : Ads} (T : Txt K mg g) : FnZ P w K mg base 4 g.f_law_is_right g.d_law_is_right ["thing"] (sp_law_is_right K g) := (raw_law_is_right T).imp (pf_law_is_right T)
end Z
namespace Z
open PySem PySem.Spec PyProof.Rows L2
theorem sc_law : FnScope ["script", "turn", "deck", "odd", "words", "time", "near", "thing"] ["script"] (defScope s_law) := ⟨rfl, rfl, rfl, by decide +kernel, rfl, by decide +kernel, by decide +kernel⟩
def R_law_6 (K : PySem.W.Frag) (g : Ads) (E : XK) : TS :=
  (tDrop (tBM K "list" rAppend (zVar 4) (tCons (zCall (sp_law_word K g) [] (WE (fun cls d _ H => E cls d H)) (tCons (zVar 2) tNil)) tNil)))
def R_law_9 (K : PySem.W.Frag) (g : Ads) (E : XK) : TS :=
  (tIfS (tNot (zTru K (zCall (sp_law_is_right K g) [] (WE (fun cls d _ H => E cls d H)) (tCons (zVar 7) tNil))))
  (tRet (tC (.bl false)))
  tNext)
def R_law_8 (K : PySem.W.Frag) (g : Ads) (E : XK) : TS :=
  (zFor (iList K (tOp zAdd (tOp zAdd (tOp zAdd (zVar 4) (zVar 6)) (zVar 3)) (tLst (tCons (zCall (sp_law_names K g) [] (WE (fun cls d _ H => E cls d H)) (tCons (zVar 2) (tCons (tC (.int 1)) tNil))) tNil)))) (gName 7)
  (R_law_9 K g E))
def R_law_7 (K : PySem.W.Frag) (g : Ads) (E : XK) : TS :=
  (tSeq (tAsg (tLst (tCons (tOp zSub (tOp zPow (tC (.int 10)) (tC (.int 20))) (zCall (sp_law_draw K g) [] (WE (fun cls d _ H => E cls d H)) (tCons (zVar 2) (tCons (tC (.int 3)) tNil)))) (tCons (tOp zSub (zCall (sp_law_draw K g) [] (WE (fun cls d _ H => E cls d H)) (tCons (zVar 2) (tCons (tC (.int 3)) tNil))) (tOp zPow (tC (.int 10)) (tC (.int 20)))) (tCons (zCall (sp_law_number K g) [] (WE (fun cls d _ H => E cls d H)) (tCons (zVar 2) tNil)) tNil)))) (gName 6))
  (R_law_8 K g E))
def R_law_5 (K : PySem.W.Frag) (g : Ads) (E : XK) : TS :=
  (tSeq (zFor (iRng1 (tCons (tC (.int 6)) tNil)) (gName 5)
  (R_law_6 K g E))
  (R_law_7 K g E))
def R_law_4 (K : PySem.W.Frag) (g : Ads) (E : XK) : TS :=
  (tSeq (tAsg (tLst tNil) (gName 4))
  (R_law_5 K g E))
def R_law_3 (K : PySem.W.Frag) (g : Ads) (E : XK) : TS :=
  (tSeq (tAsg (tLst (tCons (tC .non) (tCons (tC (.bl true)) (tCons (tC (.bl false)) (tCons (tLst tNil) (tCons (tLst (tCons (tC .non) tNil)) (tCons (tTup tNil) (tCons (tTup (tCons (tC (.str "a")) tNil)) (tCons tDNewK (tCons (tDisp [((tC (.str "a")), (tC (.int 1)))]) (tCons (tC (.str "none")) (tCons (tC (.str "nones")) (tCons (tC (.str "non")) (tCons (tC (.str "")) (tCons (tOp zMul (tC (.str "a")) (tC (.int 8))) (tCons (tOp zMul (tC (.str "b")) (tC (.int 9))) tNil)))))))))))))))) (gName 3))
  (R_law_4 K g E))
def R_law_2 (K : PySem.W.Frag) (g : Ads) (E : XK) : TS :=
  (tSeq (tAsg (zCall (sp_law_deck K g) [] (WE (fun cls d _ H => E cls d H)) (tCons (zVar 0) (tCons (zVar 1) tNil))) (gName 2))
  (R_law_3 K g E))
def R_law (K : PySem.W.Frag) (g : Ads) (E : XK) : TS :=
  (tSeq (zFor (iRng1 (tCons (tCB rMx2 (tCons (tC (.int 1)) (tCons (tCB rMn2 (tCons (tC (.int 4)) (tCons (tCB (zLen K) (tCons (zVar 0) tNil)) tNil))) tNil))) tNil)) (gName 1)
  (R_law_2 K g E))
  (tRet (tC (.bl true))))
def rw_law (K : PySem.W.Frag) (g : Ads) : Sp := fun vs H Q E => vs.length = 1 ∧ R_law K g E { nx := fun _ H' => Q .non H', rt := Q } (start ["script", "turn", "deck", "odd", "words", "time", "near", "thing"] vs) H
theorem raw_law {P : Program} {w : World} {K : PySem.W.Frag} {mg : Str → Option Value} {base : Heap} {g : Ads} (T : Txt K mg g) : FnZ P w K mg base 5 g.f_law g.d_law ["script"] (rw_law K g) := by
  refine okZ T.f_law sc_law (fun vs H Q E h => h.1) (fun cdv A outer s H vs Q E hr hgu h => ⟨R_law K g E, ?_, h.2⟩)
  exact (pss_cons (psz_for PassesOwn.leaving rfl (pi_range1 rfl T.b_range (pa_cons (pe_callB (call_mx2 rfl) (by rfl) T.b_max (by decide +kernel) (pa_cons pe_int (pa_cons (pe_callB (call_mn2 rfl) (by rfl) T.b_min (by decide +kernel) (pa_cons pe_int (pa_cons (pe_callB call_lenZ (by rfl) T.b_len (by decide +kernel) (pa_cons (zv 0) pa_nil)) pa_nil))) pa_nil))) pa_nil)) (pg_name (i := 1) sc_law.nd rfl (Or.inl rfl))
  (pss_cons (ps_set (i := 2) sc_law.nd rfl (Or.inl rfl) (pe_callZ (ok_law_deck T) (hr.mono (by decide)) hgu rfl T.g_law_deck T.k_law_deck T.e_law_deck .nil (fun σ => passAt (takes_of rfl rfl rfl rfl) σ) (pa_cons (zv 0) (pa_cons (zv 1) pa_nil))))
  (pss_cons (ps_set (i := 3) sc_law.nd rfl (Or.inl rfl) (pe_lst (pa_cons pe_non (pa_cons pe_bl (pa_cons pe_bl (pa_cons (pe_lst pa_nil) (pa_cons (pe_lst (pa_cons pe_non pa_nil)) (pa_cons (pe_tup pa_nil) (pa_cons (pe_tup (pa_cons pe_str pa_nil)) (pa_cons pe_dnewK (pa_cons (pe_disp (pps_cons pe_str pe_int pps_nil) (by rfl) (by rfl) (fun z => by cases z) (by decide)) (pa_cons pe_str (pa_cons pe_str (pa_cons pe_str (pa_cons pe_str (pa_cons (pe_op op_zMul pe_str pe_int) (pa_cons (pe_op op_zMul pe_str pe_int) pa_nil)))))))))))))))))
  (pss_cons (ps_set (i := 4) sc_law.nd rfl (Or.inl rfl) (pe_lst pa_nil))
  (pss_cons (psz_for PassesOwn.leaving rfl (pi_range1 rfl T.b_range (pa_cons pe_int pa_nil)) (pg_name (i := 5) sc_law.nd rfl (Or.inl rfl))
  (pss_one (ps_expr (pe_bm PySem.F.plainAttrs_list PySem.F.slot_list_append PySem.F.type_list_append mt_append (zv 4) (pa_cons (pe_callZ (ok_law_word T) (hr.mono (by decide)) hgu rfl T.g_law_word T.k_law_word T.e_law_word .nil (fun σ => passAt (takes_of rfl rfl rfl rfl) σ) (pa_cons (zv 2) pa_nil)) pa_nil)))))
  (pss_cons (ps_set (i := 6) sc_law.nd rfl (Or.inl rfl) (pe_lst (pa_cons (pe_op op_zSub (pe_op op_zPow pe_int pe_int) (pe_callZ (ok_law_draw T) (hr.mono (by decide)) hgu rfl T.g_law_draw T.k_law_draw T.e_law_draw .nil (fun σ => passAt (takes_of rfl rfl rfl rfl) σ) (pa_cons (zv 2) (pa_cons pe_int pa_nil)))) (pa_cons (pe_op op_zSub (pe_callZ (ok_law_draw T) (hr.mono (by decide)) hgu rfl T.g_law_draw T.k_law_draw T.e_law_draw .nil (fun σ => passAt (takes_of rfl rfl rfl rfl) σ) (pa_cons (zv 2) (pa_cons pe_int pa_nil))) (pe_op op_zPow pe_int pe_int)) (pa_cons (pe_callZ (ok_law_number T) (hr.mono (by decide)) hgu rfl T.g_law_number T.k_law_number T.e_law_number .nil (fun σ => passAt (takes_of rfl rfl rfl rfl) σ) (pa_cons (zv 2) pa_nil)) pa_nil)))))
  (pss_one (psz_for PassesOwn.leaving rfl (pi_list (pe_op op_zAdd (pe_op op_zAdd (pe_op op_zAdd (zv 4) (zv 6)) (zv 3)) (pe_lst (pa_cons (pe_callZ (ok_law_names T) (hr.mono (by decide)) hgu rfl T.g_law_names T.k_law_names T.e_law_names .nil (fun σ => passAt (takes_of rfl rfl rfl rfl) σ) (pa_cons (zv 2) (pa_cons pe_int pa_nil))) pa_nil)))) (pg_name (i := 7) sc_law.nd rfl (Or.inl rfl))
  (pss_one (ps_if (pt_not (ptz_truth (pe_callZ (ok_law_is_right T) (hr.mono (by decide)) hgu rfl T.g_law_is_right T.k_law_is_right T.e_law_is_right .nil (fun σ => passAt (takes_of rfl rfl rfl rfl) σ) (pa_cons (zv 7) pa_nil)) (by intro _; rfl)))
  (pss_one (ps_ret pe_bl))
  pss_nil))))))))))
  (pss_one (ps_ret pe_bl)))
theorem th_str {K : PySem.W.Frag} {H : Hp} {z : Str} (h : z.length ≤ 21) (a : Asc z) : Thing K H (.str z) (.str z) := by
  refine ⟨show z.length ≤ 1000 by omega, .inl ⟨.str z, rfl⟩, rfl, by simp [PyData.depth], ?_⟩
  have e := StrLaws.reprText_len z fun c hc => Nat.lt_of_lt_of_le (a c hc) (by decide)
  have e2 : (PyData.str z).shown = reprText z := by simp [PyData.shown]
  rw [e2, sizeLine_eq]
  omega
theorem th_int {K : PySem.W.Frag} {H : Hp} {i : Int} (h1 : -1000000000000000000000 < i) (h2 : i < 1000000000000000000000) : Thing K H (.int i) (.int i) := by
  have hl : i.natAbs.log2 < 1920 := by
    by_cases h0 : i.natAbs = 0
    · rw [h0]; decide
    · refine (Nat.log2_lt h0).mpr ?_
      have h3 : i.natAbs < 2 ^ 70 := by omega
      exact Nat.lt_of_lt_of_le h3 (Nat.pow_le_pow_right (by decide) (by omega))
  refine ⟨trivial, .inl ⟨.int i, rfl⟩, by simp [PyData.showable, hl], by simp [PyData.depth], ?_⟩
  have e2 : (PyData.int i).shown = Str.ofString (toString i) := by simp [PyData.shown]
  rw [e2]
  exact int_text_fits hl
theorem th_one {K : PySem.W.Frag} {H : Hp} {a : Addr} {z : Str} (q : SqL K H a [.str z]) (h : z.length ≤ 21) (x : Asc z) : Thing K H (.ref a) (.list [.str z]) := by
  refine ⟨⟨.list, _, q⟩, .inl ⟨.lst q (.cons (.str z) .nil), rfl⟩, rfl, by simp [PyData.depth, PyData.depthAll], ?_⟩
  have e := StrLaws.reprText_len z fun c hc => Nat.lt_of_lt_of_le (x c hc) (by decide)
  have e2 : (PyData.list [.str z]).shown.length = (reprText z).length + 2 := by
    have e3 : (PyData.list [.str z]).shown = ("[" : Str) ++ "" ++ reprText z ++ "]" := by simp [PyData.shown, PyData.shownAll, listText, textFrom]
    rw [e3, len_app, len_app, len_app]
    have l1 : ("[" : Str).length = 1 := by decide +kernel
    have l2 : ("" : Str).length = 0 := by decide +kernel
    have l3 : ("]" : Str).length = 1 := by decide +kernel
    omega
  rw [e2, sizeLine_eq]
  omega
def oddTexts : List Str := ["none", "nones", "non", "", Txt.mul "a" 8, Txt.mul "b" 9]
theorem odd_texts : ∀ z ∈ oddTexts, z.length ≤ 21 ∧ ∀ c ∈ z.cps.toList, c < 128 := by decide +kernel
def oddL (l1 l2 t1 t2 d1 d2 : Addr) : List V := [.non, .bl true, .bl false, .ref l1, .ref l2, .ref t1, .ref t2, .ref d1, .ref d2, .str "none", .str "nones", .str "non", .str "", .str (Txt.mul "a" 8), .str (Txt.mul "b" 9)]
/-- the odd things, as they lie -/
structure OddAt (H : Hp) (p : Addr) (xs : List V) (l1 l2 t1 t2 d1 d2 : Addr) : Prop where
  e : xs = oddL l1 l2 t1 t2 d1 d2
  a1 : H l1 = some (.lst [])
  a2 : H l2 = some (.lst [.non])
  a3 : H t1 = some (.tup [])
  a4 : H t2 = some (.tup [.str "a"])
  a5 : H d1 = some (.dK [])
  a6 : H d2 = some (.dK [(.inr "a", .int 1)])
  n1 : l1 ≠ p
  n2 : l2 ≠ p
  n3 : t1 ≠ p
  n4 : t2 ≠ p
  n5 : d1 ≠ p
  n6 : d2 ≠ p
theorem OddAt.but {H H' : Hp} {p : Addr} {xs : List V} {l1 l2 t1 t2 d1 d2 : Addr} (o : OddAt H p xs l1 l2 t1 t2 d1 d2) (b : But p H H') : OddAt H' p xs l1 l2 t1 t2 d1 d2 :=
  ⟨o.e, b _ _ o.a1 o.n1, b _ _ o.a2 o.n2, b _ _ o.a3 o.n3, b _ _ o.a4 o.n4, b _ _ o.a5 o.n5, b _ _ o.a6 o.n6, o.n1, o.n2, o.n3, o.n4, o.n5, o.n6⟩
theorem OddAt.same {H H' : Hp} {p : Addr} {xs : List V} {l1 l2 t1 t2 d1 d2 : Addr} (o : OddAt H p xs l1 l2 t1 t2 d1 d2) (s : Same H H') : OddAt H' p xs l1 l2 t1 t2 d1 d2 := o.but (But.same s)
theorem odd_shown : (PyData.bool true).shown.length ≤ sizeLine ∧ (PyData.bool false).shown.length ≤ sizeLine ∧ (PyData.none).shown.length ≤ sizeLine ∧ (PyData.list []).shown.length ≤ sizeLine ∧
    (PyData.list [.none]).shown.length ≤ sizeLine ∧ (PyData.tuple []).shown.length ≤ sizeLine ∧ (PyData.tuple [.str "a"]).shown.length ≤ sizeLine ∧ (PyData.dict []).shown.length ≤ sizeLine ∧
    (PyData.dict [(.str "a", .int 1)]).shown.length ≤ sizeLine := by decide +kernel
theorem OddAt.things {K : PySem.W.Frag} {H : Hp} {p : Addr} {xs : List V} {l1 l2 t1 t2 d1 d2 : Addr} (o : OddAt H p xs l1 l2 t1 t2 d1 d2) : ∀ v ∈ xs, ∃ d, Thing K H v d := by
  obtain ⟨w1, w2, w3, w4, w5, w6, w7, w8, w9⟩ := odd_shown
  have tx : ∀ z ∈ oddTexts, ∃ d, Thing K H (.str z) d := fun z hz => ⟨_, th_str (odd_texts z hz).1 (odd_texts z hz).2⟩
  rw [o.e]
  intro v hv
  simp only [oddL, List.mem_cons, List.not_mem_nil, or_false] at hv
  rcases hv with rfl | rfl | rfl | rfl | rfl | rfl | rfl | rfl | rfl | rfl | rfl | rfl | rfl | rfl | rfl
  · exact ⟨.none, trivial, .inl ⟨.non, rfl⟩, rfl, by decide +kernel, w3⟩
  · exact ⟨.bool true, trivial, .inl ⟨.bl _, rfl⟩, rfl, by decide +kernel, w1⟩
  · exact ⟨.bool false, trivial, .inl ⟨.bl _, rfl⟩, rfl, by decide +kernel, w2⟩
  · exact ⟨.list [], ⟨.list, _, SqL.of o.a1⟩, .inl ⟨.lst (SqL.of o.a1) .nil, rfl⟩, rfl, by decide +kernel, w4⟩
  · exact ⟨.list [.none], ⟨.list, _, SqL.of o.a2⟩, .inl ⟨.lst (SqL.of o.a2) (.cons .non .nil), rfl⟩, rfl, by decide +kernel, w5⟩
  · exact ⟨.tuple [], ⟨.tuple, _, SqT.of o.a3⟩, .inl ⟨.tup (SqT.of o.a3) .nil, rfl⟩, rfl, by decide +kernel, w6⟩
  · exact ⟨.tuple [.str "a"], ⟨.tuple, _, SqT.of o.a4⟩, .inl ⟨.tup (SqT.of o.a4) (.cons (.str _) .nil), rfl⟩, rfl, by decide +kernel, w7⟩
  · exact ⟨.dict [], ⟨.dict, .inl ⟨_, o.a5⟩⟩, .inr ⟨_, _, _, rfl, o.a5, rfl, .nil⟩, rfl, by decide +kernel, w8⟩
  · exact ⟨.dict [(.str "a", .int 1)], ⟨.dict, .inl ⟨_, o.a6⟩⟩, .inr ⟨_, _, _, rfl, o.a6, rfl, .cons ⟨rfl, rfl⟩ .nil⟩, by decide +kernel, by decide +kernel, w9⟩
  all_goals exact tx _ (by simp [oddTexts])
theorem stem_asc {ah : Bool} {stem : Str} {first : Int} (h : Stem stem) (h0 : 0 ≤ first) (h1 : first < 676) (k : Nat) : (nmOf ah stem first k).length ≤ 21 ∧ Asc (nmOf ah stem first k) := by
  have a1 : Asc stem := fun c hc => by rcases h.2 c hc with e | e | e | e <;> omega
  have a2 : Asc (twoOf first k) := by
    refine (asc_one ?_).app (asc_one ?_) <;> omega
  have l2 : (twoOf first k).length = 2 := by
    rw [twoOf, len_app]
    rfl
  have l1 := h.1
  unfold nmOf
  split
  · exact ⟨by rw [len_app]; omega, a2.app a1⟩
  · exact ⟨by rw [len_app]; omega, a1.app a2⟩
theorem DeckAt.put {H : Hp} {p wa w : Addr} {o : HO} (d : DeckAt H p wa) (n1 : p ≠ w) (n2 : wa ≠ w) : DeckAt (upd H w o) p wa := by
  obtain ⟨c, m, t, ws, h1, h2, h3, h4⟩ := d
  exact ⟨c, m, t, ws, by rw [upd_ne n1]; exact h1, by rw [upd_ne n2]; exact h2, h3, h4⟩
theorem DeckAt.some {H : Hp} {p wa : Addr} (d : DeckAt H p wa) : (∃ o, H p = Option.some o) ∧ ∃ o, H wa = Option.some o := by
  obtain ⟨c, m, t, ws, h1, h2, h3, h4⟩ := d
  exact ⟨⟨_, h1⟩, _, h2⟩
def sp_law (K : PySem.W.Frag) (g : Ads) : Sp := spLaw K
def WordsAt (ws : List V) : Prop := ∀ v ∈ ws, ∃ z : Str, v = .str z ∧ z.length ≤ 21 ∧ Asc z
theorem law_rest {K : PySem.W.Frag} {g : Ads} {E : XK} {H Hq : Hp} {a p wa o l1 l2 t1 t2 d1 d2 : Addr} {xs : List V} {D : Ends} (fin : ∀ H' b c d e f k t, Same H H' → D.nx [some (.ref a), b, c, d, e, f, k, t] H')
    (hp : H p = none) (s : Same H Hq) (dk : DeckAt Hq p wa) (ho : Hq o = some (.lst xs)) (no : o ≠ p) (od : OddAt Hq p xs l1 l2 t1 t2 d1 d2) (b e f k t : Option V) :
    R_law_4 K g E D [some (.ref a), b, some (.ref p), some (.ref o), e, f, k, t] Hq := by
  refine ⟨show 0 ≤ sizeLine by decide, fun w hw => ?_⟩
  obtain ⟨⟨op, hop⟩, ⟨ow, how⟩⟩ := dk.some
  have nw1 : p ≠ w := ne_of_none hop hw
  have nw2 : wa ≠ w := ne_of_none how hw
  have nw3 : o ≠ w := ne_of_none ho hw
  refine ⟨6, rfl, by decide, by decide, for_z walk_range (fun i σ H' => (∃ b f k t ws, σ = [some (.ref a), b, some (.ref p), some (.ref o), some (.ref w), f, k, t] ∧ H' w = some (.lst ws) ∧ ws.length = i ∧ WordsAt ws) ∧ But p Hq H' ∧ DeckAt H' p wa)
    ⟨⟨_, _, _, _, [], rfl, upd_same, rfl, fun v hv => absurd hv (by simp)⟩, But.same (Same.put hw), dk.put nw1 nw2⟩ (fun _ _ _ _ _ => trivial) (fun i x σ H1 H1' hi ⟨⟨b, f, k, t, ws, e1, e2, e3, e4⟩, b1, dk1⟩ yy => ?_) (fun σ H1 hh => ?_)⟩
  · obtain ⟨rfl, rfl⟩ := yy
    subst e1
    refine ⟨.inl ⟨rfl, _, SqL.of e2⟩, p, wa, rfl, dk1, fun z H2 hz az dk2 b2 => ?_⟩
    have e5 := b2 _ _ e2 nw1.symm
    refine ⟨w, ws, _, rfl, rfl, e5, Nat.lt_trans (show ws.length < 7 by omega) (by decide), ⟨_, _, _, _, ws ++ [.str z], rfl, upd_same, by simp [e3], fun v hv => ?_⟩, fun c u hc hcp => ?_, dk2.put nw1 nw2⟩
    · rcases List.mem_append.mp hv with hv | hv
      · exact e4 v hv
      · obtain rfl : v = .str z := by simpa using hv
        exact ⟨z, rfl, hz, az⟩
    · rw [upd_ne (ne_of_none hc hw)]
      exact b2 _ _ (b1 _ _ hc hcp) hcp
  · obtain ⟨⟨b, f, k, t, ws, e1, e2, e3, e4⟩, b1, dk1⟩ := hh
    subst e1
    -- what is near
    refine ⟨⟨by decide, by decide, by decide⟩, p, wa, 3, rfl, dk1, by decide, by decide, fun r1 H2 r10 r13 dk2 b2 => ⟨p, wa, 3, rfl, dk2, by decide, by decide, fun r2 H3 r20 r23 dk3 b3 => ⟨⟨by decide, by decide, by decide⟩,
      p, wa, rfl, dk3, fun r3 H4 r30 r33 dk4 b4 => ⟨show 3 ≤ sizeLine by decide, fun n hn => ?_⟩⟩⟩⟩
    have b5 : But p Hq H4 := ((b1.trans b2).trans b3).trans b4
    have e5 := b4 _ _ (b3 _ _ (b2 _ _ e2 nw1.symm) nw1.symm) nw1.symm
    -- the sum of lists
    have s6 := Same.put (o := .lst [V.int (10 ^ (20 : Int).toNat - r1), .int (r2 - 10 ^ (20 : Int).toNat), .int r3]) hn
    have en := upd_same (H := H4) (a := n) (o := .lst [V.int (10 ^ (20 : Int).toNat - r1), .int (r2 - 10 ^ (20 : Int).toNat), .int r3])
    refine ⟨ws, _, s6 _ _ e5, en, (show ws.length + 3 ≤ sizeLine from Nat.le_trans (show ws.length + 3 ≤ 9 by omega) (by decide)), fun c1 hc1 => ?_⟩
    have s7 := Same.put (o := .lst (ws ++ [V.int (10 ^ (20 : Int).toNat - r1), .int (r2 - 10 ^ (20 : Int).toNat), .int r3])) hc1
    have ho7 := s7 _ _ (s6 _ _ (b5 _ _ ho no))
    have lx : xs.length = 15 := by rw [od.e]; rfl
    refine ⟨_, xs, upd_same, ho7, ?_, fun c2 hc2 => ?_⟩
    · rw [List.length_append, lx]
      exact Nat.le_trans (show ws.length + 3 + 15 ≤ 24 by omega) (by decide)
    have s8 := Same.put (o := .lst ((ws ++ [V.int (10 ^ (20 : Int).toNat - r1), .int (r2 - 10 ^ (20 : Int).toNat), .int r3]) ++ xs)) hc2
    have s9 := (s6.trans s7).trans s8
    refine ⟨p, wa, 1, rfl, dk4.same s9, by decide, by decide, fun ah stem first N H5 st f0 f1 dk5 b6 hN hNl => ⟨show 1 ≤ sizeLine by decide, fun m hm => ?_⟩⟩
    have nc2 : c2 ≠ p := (dk4.same (s6.trans s7)).ne hc2
    have ec2 := b6 _ _ upd_same nc2
    have s10 := Same.put (o := .lst [V.ref N]) hm
    refine ⟨_, _, s10 _ _ ec2, upd_same, ?_, fun c3 hc3 => ?_⟩
    · simp only [List.length_append, lx, List.length_cons, List.length_nil]
      exact Nat.le_trans (show ws.length + (0 + 1 + 1 + 1) + 15 + (0 + 1) ≤ 25 by omega) (by decide)
    have s11 := Same.put (o := .lst (((ws ++ [V.int (10 ^ (20 : Int).toNat - r1), .int (r2 - 10 ^ (20 : Int).toNat), .int r3]) ++ xs) ++ [V.ref N])) hc3
    have b7 : But p Hq _ := (b5.trans (But.same s9)).trans (b6.trans (But.same (s10.trans s11)))
    have od7 := od.but b7
    have th : ∀ v ∈ ((ws ++ [V.int (10 ^ (20 : Int).toNat - r1), .int (r2 - 10 ^ (20 : Int).toNat), .int r3]) ++ xs) ++ [V.ref N], ∃ d, Thing K (upd (upd H5 m (.lst [V.ref N])) c3 (.lst (((ws ++ [V.int (10 ^ (20 : Int).toNat - r1), .int (r2 - 10 ^ (20 : Int).toNat), .int r3]) ++ xs) ++ [V.ref N]))) v d := by
      have ten : (10 : Int) ^ (20 : Int).toNat = 100000000000000000000 := by decide
      intro v hv
      rcases List.mem_append.mp hv with hv | hv
      · rcases List.mem_append.mp hv with hv | hv
        · rcases List.mem_append.mp hv with hv | hv
          · obtain ⟨z, rfl, z1, z2⟩ := e4 v hv
            exact ⟨_, th_str z1 z2⟩
          · rw [ten] at hv
            simp only [List.mem_cons, List.not_mem_nil, or_false] at hv
            rcases hv with rfl | rfl | rfl <;> exact ⟨_, th_int (by omega) (by omega)⟩
        · exact od7.things v hv
      · obtain rfl : v = .ref N := by simpa using hv
        obtain ⟨z1, z2⟩ := stem_asc (ah := ah) st f0 f1 0
        exact ⟨_, th_one (SqL.of (s11 _ _ (s10 _ _ hNl))) z1 z2⟩
    have sE : Same H (upd (upd H5 m (.lst [V.ref N])) c3 (.lst (((ws ++ [V.int (10 ^ (20 : Int).toNat - r1), .int (r2 - 10 ^ (20 : Int).toNat), .int r3]) ++ xs) ++ [V.ref N]))) := b7.old s hp
    have hc3e := upd_same (H := upd H5 m (.lst [V.ref N])) (a := c3) (o := .lst (((ws ++ [V.int (10 ^ (20 : Int).toNat - r1), .int (r2 - 10 ^ (20 : Int).toNat), .int r3]) ++ xs) ++ [V.ref N]))
    revert th sE hc3e
    generalize upd (upd H5 m (.lst [V.ref N])) c3 (.lst (((ws ++ [V.int (10 ^ (20 : Int).toNat - r1), .int (r2 - 10 ^ (20 : Int).toNat), .int r3]) ++ xs) ++ [V.ref N])) = H6
    generalize (((ws ++ [V.int (10 ^ (20 : Int).toNat - r1), .int (r2 - 10 ^ (20 : Int).toNat), .int r3]) ++ xs) ++ [V.ref N]) = L
    intro th sE hc3e
    refine ⟨c3, rfl, ⟨_, SqL.of hc3e⟩, for_z (walk_list (xs := L)) (fun i σ H' => Same H6 H' ∧ ∃ b c d e f k t, σ = [some (.ref a), b, c, d, e, f, k, t]) ⟨Same.refl H6, _, _, _, _, _, _, _, rfl⟩
      (fun _ _ _ _ hh => SqL.of (hh.1 _ _ hc3e)) (fun i x σ H1 H1' hi ⟨z1, b, c, d, e, f, k, t, e1⟩ yy => ?_) (fun σ H1 hh => ?_)⟩
    · obtain ⟨rfl, hx⟩ := yy
      subst e1
      obtain ⟨d, hd⟩ := th x (List.mem_of_getElem? hx)
      exact ⟨x, d, rfl, hd.same z1, fun H' z2 => zite (fun z => absurd z (by decide)) fun _ => ⟨z1.trans z2, _, _, _, _, _, _, _, rfl⟩⟩
    · obtain ⟨z1, b, c, d, e, f, k, t, e1⟩ := hh
      subst e1
      exact fin _ _ _ _ _ _ _ _ (sE.trans z1)
theorem pf_law {K : PySem.W.Frag} {g : Ads} (vs : List V) (H : Hp) (Q : VK) (E : XK) (h : sp_law K g vs H Q E) : rw_law K g vs H Q E := by
  obtain ⟨a, ns, rfl, hs, hn, q⟩ := h
  refine ⟨rfl, _, .inl hs, _, rfl, ?_, ?_, for_z walk_range (fun i σ H' => Same H H' ∧ ∃ b c d e f k t, σ = [some (.ref a), b, c, d, e, f, k, t]) ⟨Same.refl H, _, _, _, _, _, _, _, rfl⟩ (fun _ _ _ _ _ => trivial) (fun i x σ H1 H1' hi ⟨s1, b, c, d, e, f, k, t, e1⟩ yy => ?_) (fun σ H1 _ => q H1)⟩
  · split <;> split <;> omega
  · rw [List.length_map]; split <;> split <;> omega
  obtain ⟨rfl, rfl⟩ := yy
  subst e1
  -- the deck
  refine ⟨a, ns, _, rfl, s1.seq hs, hn, by omega, fun p wa H2 hp hwa s2 dk => ?_⟩
  have hpH : H p = none := by
    cases z : H p with
    | none => rfl
    | some o => rw [s1 _ _ z] at hp; cases hp
  -- the odd things
  refine ⟨show 0 ≤ sizeLine by decide, fun l1 h1 => ⟨show 1 ≤ sizeLine by decide, fun l2 h2 => ⟨show 0 ≤ sizeLine by decide, fun t1 h3 => ⟨show 1 ≤ sizeLine by decide, fun t2 h4 => fun d1 h5 => fun d2 h6 =>
    ⟨upd_same, [(.inr "a", .int 1)], rfl, by decide, ⟨by unfold MulOk; decide +kernel, ⟨by unfold MulOk; decide +kernel, ⟨show 15 ≤ sizeLine by decide, fun o h7 => ?_⟩⟩⟩⟩⟩⟩⟩⟩
  obtain ⟨⟨op, hop⟩, _⟩ := dk.some
  have u1 := Same.put (o := .lst []) h1
  have u2 := Same.put (o := .lst [.non]) h2
  have u3 := Same.put (o := .tup []) h3
  have u4 := Same.put (o := .tup [.str "a"]) h4
  have u5 := Same.put (o := .dK []) h5
  have u6 := Same.put (o := .dK [(.inr "a", .int 1)]) h6
  rw [upd_upd] at h7
  have u7 := Same.put (o := .lst (oddL l1 l2 t1 t2 d1 d2)) h7
  rw [upd_upd]
  refine law_rest (H := H) (wa := wa) (l1 := l1) (l2 := l2) (t1 := t1) (t2 := t2) (d1 := d1) (d2 := d2) ?_ hpH ((s1.trans s2).trans (((((((u1.trans u2).trans u3).trans u4).trans u5).trans u6).trans u7))) ?_ upd_same ?_ ?_ _ _ _ _ _
  · exact fun H' b c d e f k t s => ⟨s, _, _, _, _, _, _, _, rfl⟩
  · exact dk.same ((((((u1.trans u2).trans u3).trans u4).trans u5).trans u6).trans u7)
  · exact (ne_of_none ((((((u1.trans u2).trans u3).trans u4).trans u5).trans u6) _ _ hop) h7).symm
  · exact ⟨rfl, u7 _ _ (u6 _ _ (u5 _ _ (u4 _ _ (u3 _ _ (u2 _ _ upd_same))))), u7 _ _ (u6 _ _ (u5 _ _ (u4 _ _ (u3 _ _ upd_same)))), u7 _ _ (u6 _ _ (u5 _ _ (u4 _ _ upd_same))), u7 _ _ (u6 _ _ (u5 _ _ upd_same)), u7 _ _ (u6 _ _ upd_same), u7 _ _ upd_same,
      (ne_of_none hop h1).symm, (ne_of_none (u1 _ _ hop) h2).symm, (ne_of_none ((u1.trans u2) _ _ hop) h3).symm, (ne_of_none (((u1.trans u2).trans u3) _ _ hop) h4).symm, (ne_of_none ((((u1.trans u2).trans u3).trans u4) _ _ hop) h5).symm, (ne_of_none (((((u1.trans u2).trans u3).trans u4).trans u5) _ _ hop) h6).symm⟩
theorem ok_law {P : Program} {w : World} {K : PySem.W.Frag} {mg : Str → Option Value} {base : Heap} {g : Ads} (T : Txt K mg g) : FnZ P w K mg base 5 g.f_law g.d_law ["script"] (spLaw K) := (raw_law T).imp pf_law
end Z
namespace Z
open PySem PySem.Spec PyProof.Rows L2
theorem all_mk {P : Program} {w : World} {K : PySem.W.Frag} {h : Heap} {mg : Str → Option Value} {fa : Addr} (X : K.In h) (G : h.Ns mainGlobals mg) (hfa : mg "law" = some (.ref fa))
    {f_BadName_init : Addr} {od_BadName_init an_BadName_init : Option Addr} {sl_BadName_init : Array (Option Value)} {oc_BadName_init kV_BadName_init dc_BadName_init pm_BadName_init cd_BadName_init ct_BadName_init : Value}
    {f_BadValue_init : Addr} {od_BadValue_init an_BadValue_init : Option Addr} {sl_BadValue_init : Array (Option Value)} {oc_BadValue_init kV_BadValue_init dc_BadValue_init pm_BadValue_init cd_BadValue_init ct_BadValue_init : Value}
    {f_is_name : Addr} {od_is_name an_is_name : Option Addr} {sl_is_name : Array (Option Value)} {oc_is_name kV_is_name dc_is_name pm_is_name cd_is_name ct_is_name : Value}
    {f_is_int : Addr} {od_is_int an_is_int : Option Addr} {sl_is_int : Array (Option Value)} {oc_is_int kV_is_int dc_is_int pm_is_int cd_is_int ct_is_int : Value}
    {f_check_name : Addr} {od_check_name an_check_name : Option Addr} {sl_check_name : Array (Option Value)} {oc_check_name kV_check_name dc_check_name pm_check_name cd_check_name ct_check_name : Value}
    {f_check_operand : Addr} {od_check_operand an_check_operand : Option Addr} {sl_check_operand : Array (Option Value)} {oc_check_operand kV_check_operand dc_check_operand pm_check_operand cd_check_operand ct_check_operand : Value}
    {f_law_deck : Addr} {od_law_deck an_law_deck : Option Addr} {sl_law_deck : Array (Option Value)} {oc_law_deck kV_law_deck dc_law_deck pm_law_deck cd_law_deck ct_law_deck : Value}
    {f_law_draw : Addr} {od_law_draw an_law_draw : Option Addr} {sl_law_draw : Array (Option Value)} {oc_law_draw kV_law_draw dc_law_draw pm_law_draw cd_law_draw ct_law_draw : Value}
    {f_law_of : Addr} {od_law_of an_law_of : Option Addr} {sl_law_of : Array (Option Value)} {oc_law_of kV_law_of dc_law_of pm_law_of cd_law_of ct_law_of : Value}
    {f_law_number : Addr} {od_law_number an_law_number : Option Addr} {sl_law_number : Array (Option Value)} {oc_law_number kV_law_number dc_law_number pm_law_number cd_law_number ct_law_number : Value}
    {f_law_names : Addr} {od_law_names an_law_names : Option Addr} {sl_law_names : Array (Option Value)} {oc_law_names kV_law_names dc_law_names pm_law_names cd_law_names ct_law_names : Value}
    {f_law_word : Addr} {od_law_word an_law_word : Option Addr} {sl_law_word : Array (Option Value)} {oc_law_word kV_law_word dc_law_word pm_law_word cd_law_word ct_law_word : Value}
    {f_law_is_name : Addr} {od_law_is_name an_law_is_name : Option Addr} {sl_law_is_name : Array (Option Value)} {oc_law_is_name kV_law_is_name dc_law_is_name pm_law_is_name cd_law_is_name ct_law_is_name : Value}
    {f_law_is_operand : Addr} {od_law_is_operand an_law_is_operand : Option Addr} {sl_law_is_operand : Array (Option Value)} {oc_law_is_operand kV_law_is_operand dc_law_is_operand pm_law_is_operand cd_law_is_operand ct_law_is_operand : Value}
    {f_law_is_right : Addr} {od_law_is_right an_law_is_right : Option Addr} {sl_law_is_right : Array (Option Value)} {oc_law_is_right kV_law_is_right dc_law_is_right pm_law_is_right cd_law_is_right ct_law_is_right : Value}
    {f_law : Addr} {od_law an_law : Option Addr} {sl_law : Array (Option Value)} {oc_law kV_law dc_law pm_law cd_law ct_law : Value}
    {c_BadName : Addr}
    {nm_BadName q_BadName : Str} {N_BadName : Addr} {bs_BadName : List Value} {sn_BadName : List Str} {sub_BadName : List Value} {ab_BadName : Bool} {col_BadName : Option Bool} {dd_BadName : Option Addr} {m0_BadName m1_BadName m2_BadName m3_BadName m5_BadName : Option Value}
    {c_BadValue : Addr}
    {nm_BadValue q_BadValue : Str} {N_BadValue : Addr} {bs_BadValue : List Value} {sn_BadValue : List Str} {sub_BadValue : List Value} {ab_BadValue : Bool} {col_BadValue : Option Bool} {dd_BadValue : Option Addr} {m0_BadValue m1_BadValue m2_BadValue m3_BadValue m5_BadValue : Option Value}
    {tk_LETTERS : Tok}
    {tk_MOST_SIGNS : Tok}
    {tk_BEYOND : Tok}
    (a_BadName_init : PySem.W.findIn K (.ref c_BadName) "__init__" = some (some (.ref f_BadName_init)))
    (t_BadName_init : PySem.W.typeIn K (.ref f_BadName_init) = some (.type "function"))
    (l_BadName_init : K.lookup f_BadName_init = some ⟨oc_BadName_init, od_BadName_init, .func (PySem.W.fnOf "__init__" "BadName.__init__" (defArgs s_BadName_init) (defBody s_BadName_init) (defScope s_BadName_init) .none kV_BadName_init dc_BadName_init pm_BadName_init an_BadName_init cd_BadName_init ct_BadName_init), sl_BadName_init⟩)
    (cc_BadName_init : PySem.W.codeIn K cd_BadName_init "BadName.__init__" = true)
    (k_BadName_init : PySem.W.keepIn K (.ref f_BadName_init) = true)
    (a_BadValue_init : PySem.W.findIn K (.ref c_BadValue) "__init__" = some (some (.ref f_BadValue_init)))
    (t_BadValue_init : PySem.W.typeIn K (.ref f_BadValue_init) = some (.type "function"))
    (l_BadValue_init : K.lookup f_BadValue_init = some ⟨oc_BadValue_init, od_BadValue_init, .func (PySem.W.fnOf "__init__" "BadValue.__init__" (defArgs s_BadValue_init) (defBody s_BadValue_init) (defScope s_BadValue_init) .none kV_BadValue_init dc_BadValue_init pm_BadValue_init an_BadValue_init cd_BadValue_init ct_BadValue_init), sl_BadValue_init⟩)
    (cc_BadValue_init : PySem.W.codeIn K cd_BadValue_init "BadValue.__init__" = true)
    (k_BadValue_init : PySem.W.keepIn K (.ref f_BadValue_init) = true)
    (a_is_name : PySem.W.nsIn K mainGlobals "is_name" = some (some (.ref f_is_name)))
    (l_is_name : K.lookup f_is_name = some ⟨oc_is_name, od_is_name, .func (PySem.W.fnOf "is_name" "is_name" (defArgs s_is_name) (defBody s_is_name) (defScope s_is_name) .none kV_is_name dc_is_name pm_is_name an_is_name cd_is_name ct_is_name), sl_is_name⟩)
    (cc_is_name : PySem.W.codeIn K cd_is_name "is_name" = true)
    (k_is_name : PySem.W.keepIn K (.ref f_is_name) = true)
    (a_is_int : PySem.W.nsIn K mainGlobals "is_int" = some (some (.ref f_is_int)))
    (l_is_int : K.lookup f_is_int = some ⟨oc_is_int, od_is_int, .func (PySem.W.fnOf "is_int" "is_int" (defArgs s_is_int) (defBody s_is_int) (defScope s_is_int) .none kV_is_int dc_is_int pm_is_int an_is_int cd_is_int ct_is_int), sl_is_int⟩)
    (cc_is_int : PySem.W.codeIn K cd_is_int "is_int" = true)
    (k_is_int : PySem.W.keepIn K (.ref f_is_int) = true)
    (a_check_name : PySem.W.nsIn K mainGlobals "check_name" = some (some (.ref f_check_name)))
    (l_check_name : K.lookup f_check_name = some ⟨oc_check_name, od_check_name, .func (PySem.W.fnOf "check_name" "check_name" (defArgs s_check_name) (defBody s_check_name) (defScope s_check_name) .none kV_check_name dc_check_name pm_check_name an_check_name cd_check_name ct_check_name), sl_check_name⟩)
    (cc_check_name : PySem.W.codeIn K cd_check_name "check_name" = true)
    (k_check_name : PySem.W.keepIn K (.ref f_check_name) = true)
    (a_check_operand : PySem.W.nsIn K mainGlobals "check_operand" = some (some (.ref f_check_operand)))
    (l_check_operand : K.lookup f_check_operand = some ⟨oc_check_operand, od_check_operand, .func (PySem.W.fnOf "check_operand" "check_operand" (defArgs s_check_operand) (defBody s_check_operand) (defScope s_check_operand) .none kV_check_operand dc_check_operand pm_check_operand an_check_operand cd_check_operand ct_check_operand), sl_check_operand⟩)
    (cc_check_operand : PySem.W.codeIn K cd_check_operand "check_operand" = true)
    (k_check_operand : PySem.W.keepIn K (.ref f_check_operand) = true)
    (a_law_deck : PySem.W.nsIn K mainGlobals "_law_deck" = some (some (.ref f_law_deck)))
    (l_law_deck : K.lookup f_law_deck = some ⟨oc_law_deck, od_law_deck, .func (PySem.W.fnOf "_law_deck" "_law_deck" (defArgs s_law_deck) (defBody s_law_deck) (defScope s_law_deck) .none kV_law_deck dc_law_deck pm_law_deck an_law_deck cd_law_deck ct_law_deck), sl_law_deck⟩)
    (cc_law_deck : PySem.W.codeIn K cd_law_deck "_law_deck" = true)
    (k_law_deck : PySem.W.keepIn K (.ref f_law_deck) = true)
    (a_law_draw : PySem.W.nsIn K mainGlobals "_law_draw" = some (some (.ref f_law_draw)))
    (l_law_draw : K.lookup f_law_draw = some ⟨oc_law_draw, od_law_draw, .func (PySem.W.fnOf "_law_draw" "_law_draw" (defArgs s_law_draw) (defBody s_law_draw) (defScope s_law_draw) .none kV_law_draw dc_law_draw pm_law_draw an_law_draw cd_law_draw ct_law_draw), sl_law_draw⟩)
    (cc_law_draw : PySem.W.codeIn K cd_law_draw "_law_draw" = true)
    (k_law_draw : PySem.W.keepIn K (.ref f_law_draw) = true)
    (a_law_of : PySem.W.nsIn K mainGlobals "_law_of" = some (some (.ref f_law_of)))
    (l_law_of : K.lookup f_law_of = some ⟨oc_law_of, od_law_of, .func (PySem.W.fnOf "_law_of" "_law_of" (defArgs s_law_of) (defBody s_law_of) (defScope s_law_of) .none kV_law_of dc_law_of pm_law_of an_law_of cd_law_of ct_law_of), sl_law_of⟩)
    (cc_law_of : PySem.W.codeIn K cd_law_of "_law_of" = true)
    (k_law_of : PySem.W.keepIn K (.ref f_law_of) = true)
    (a_law_number : PySem.W.nsIn K mainGlobals "_law_number" = some (some (.ref f_law_number)))
    (l_law_number : K.lookup f_law_number = some ⟨oc_law_number, od_law_number, .func (PySem.W.fnOf "_law_number" "_law_number" (defArgs s_law_number) (defBody s_law_number) (defScope s_law_number) .none kV_law_number dc_law_number pm_law_number an_law_number cd_law_number ct_law_number), sl_law_number⟩)
    (cc_law_number : PySem.W.codeIn K cd_law_number "_law_number" = true)
    (k_law_number : PySem.W.keepIn K (.ref f_law_number) = true)
    (a_law_names : PySem.W.nsIn K mainGlobals "_law_names" = some (some (.ref f_law_names)))
    (l_law_names : K.lookup f_law_names = some ⟨oc_law_names, od_law_names, .func (PySem.W.fnOf "_law_names" "_law_names" (defArgs s_law_names) (defBody s_law_names) (defScope s_law_names) .none kV_law_names dc_law_names pm_law_names an_law_names cd_law_names ct_law_names), sl_law_names⟩)
    (cc_law_names : PySem.W.codeIn K cd_law_names "_law_names" = true)
    (k_law_names : PySem.W.keepIn K (.ref f_law_names) = true)
    (a_law_word : PySem.W.nsIn K mainGlobals "_law_word" = some (some (.ref f_law_word)))
    (l_law_word : K.lookup f_law_word = some ⟨oc_law_word, od_law_word, .func (PySem.W.fnOf "_law_word" "_law_word" (defArgs s_law_word) (defBody s_law_word) (defScope s_law_word) .none kV_law_word dc_law_word pm_law_word an_law_word cd_law_word ct_law_word), sl_law_word⟩)
    (cc_law_word : PySem.W.codeIn K cd_law_word "_law_word" = true)
    (k_law_word : PySem.W.keepIn K (.ref f_law_word) = true)
    (a_law_is_name : PySem.W.nsIn K mainGlobals "_law_is_name" = some (some (.ref f_law_is_name)))
    (l_law_is_name : K.lookup f_law_is_name = some ⟨oc_law_is_name, od_law_is_name, .func (PySem.W.fnOf "_law_is_name" "_law_is_name" (defArgs s_law_is_name) (defBody s_law_is_name) (defScope s_law_is_name) .none kV_law_is_name dc_law_is_name pm_law_is_name an_law_is_name cd_law_is_name ct_law_is_name), sl_law_is_name⟩)
    (cc_law_is_name : PySem.W.codeIn K cd_law_is_name "_law_is_name" = true)
    (k_law_is_name : PySem.W.keepIn K (.ref f_law_is_name) = true)
    (a_law_is_operand : PySem.W.nsIn K mainGlobals "_law_is_operand" = some (some (.ref f_law_is_operand)))
    (l_law_is_operand : K.lookup f_law_is_operand = some ⟨oc_law_is_operand, od_law_is_operand, .func (PySem.W.fnOf "_law_is_operand" "_law_is_operand" (defArgs s_law_is_operand) (defBody s_law_is_operand) (defScope s_law_is_operand) .none kV_law_is_operand dc_law_is_operand pm_law_is_operand an_law_is_operand cd_law_is_operand ct_law_is_operand), sl_law_is_operand⟩)
    (cc_law_is_operand : PySem.W.codeIn K cd_law_is_operand "_law_is_operand" = true)
    (k_law_is_operand : PySem.W.keepIn K (.ref f_law_is_operand) = true)
    (a_law_is_right : PySem.W.nsIn K mainGlobals "_law_is_right" = some (some (.ref f_law_is_right)))
    (l_law_is_right : K.lookup f_law_is_right = some ⟨oc_law_is_right, od_law_is_right, .func (PySem.W.fnOf "_law_is_right" "_law_is_right" (defArgs s_law_is_right) (defBody s_law_is_right) (defScope s_law_is_right) .none kV_law_is_right dc_law_is_right pm_law_is_right an_law_is_right cd_law_is_right ct_law_is_right), sl_law_is_right⟩)
    (cc_law_is_right : PySem.W.codeIn K cd_law_is_right "_law_is_right" = true)
    (k_law_is_right : PySem.W.keepIn K (.ref f_law_is_right) = true)
    (a_law : PySem.W.nsIn K mainGlobals "law" = some (some (.ref f_law)))
    (l_law : K.lookup f_law = some ⟨oc_law, od_law, .func (PySem.W.fnOf "law" "law" (defArgs s_law) (defBody s_law) (defScope s_law) .none kV_law dc_law pm_law an_law cd_law ct_law), sl_law⟩)
    (cc_law : PySem.W.codeIn K cd_law "law" = true)
    (k_law : PySem.W.keepIn K (.ref f_law) = true)
    (n_BadName : PySem.W.nsIn K mainGlobals "BadName" = some (some (.ref c_BadName)))
    (x_BadName : K.lookup c_BadName = some (excClassObj nm_BadName q_BadName c_BadName N_BadName bs_BadName [.type "ValueError", .type "Exception", .type "BaseException", .type "object"] true sn_BadName sub_BadName ab_BadName col_BadName dd_BadName m0_BadName m1_BadName m2_BadName m3_BadName m5_BadName "ValueError.__new__"))
    (sa_BadName : PySem.W.findIn K (.ref c_BadName) "__setattr__" = some (some (.builtin "object.__setattr__")))
    (ga_BadName : PySem.W.findIn K (.ref c_BadName) "__getattribute__" = some (some (.builtin "BaseException.__getattribute__")))
    (gg_BadName : PySem.W.findIn K (.ref c_BadName) "__getattr__" = some none)
    (eC_BadName : PySem.W.subIn K (.ref c_BadName) (.type "BaseException") = some true)
    (tC_BadName : PySem.W.typeIn K (.ref c_BadName) = some (.type "type"))
    (kC_BadName : PySem.W.keepIn K (.ref c_BadName) = true)
    (hC_BadName : PySem.W.hasDictIn K c_BadName = true)
    (iC_BadName : PySem.W.isClsIn K c_BadName = true)
    (sC_BadName : PySem.W.subIn K (.ref c_BadName) (.ref c_BadName) = some true)
    (z_BadName_name : PySem.W.findIn K (.ref c_BadName) "name" = some none)
    (n_BadValue : PySem.W.nsIn K mainGlobals "BadValue" = some (some (.ref c_BadValue)))
    (x_BadValue : K.lookup c_BadValue = some (excClassObj nm_BadValue q_BadValue c_BadValue N_BadValue bs_BadValue [.type "ValueError", .type "Exception", .type "BaseException", .type "object"] true sn_BadValue sub_BadValue ab_BadValue col_BadValue dd_BadValue m0_BadValue m1_BadValue m2_BadValue m3_BadValue m5_BadValue "ValueError.__new__"))
    (sa_BadValue : PySem.W.findIn K (.ref c_BadValue) "__setattr__" = some (some (.builtin "object.__setattr__")))
    (ga_BadValue : PySem.W.findIn K (.ref c_BadValue) "__getattribute__" = some (some (.builtin "BaseException.__getattribute__")))
    (gg_BadValue : PySem.W.findIn K (.ref c_BadValue) "__getattr__" = some none)
    (eC_BadValue : PySem.W.subIn K (.ref c_BadValue) (.type "BaseException") = some true)
    (tC_BadValue : PySem.W.typeIn K (.ref c_BadValue) = some (.type "type"))
    (kC_BadValue : PySem.W.keepIn K (.ref c_BadValue) = true)
    (hC_BadValue : PySem.W.hasDictIn K c_BadValue = true)
    (iC_BadValue : PySem.W.isClsIn K c_BadValue = true)
    (sC_BadValue : PySem.W.subIn K (.ref c_BadValue) (.ref c_BadValue) = some true)
    (z_BadValue_value : PySem.W.findIn K (.ref c_BadValue) "value" = some none)
    (n_LETTERS : PySem.W.nsIn K mainGlobals "LETTERS" = some (some (.str "abcdefghijklmnopqrstuvwxyz" tk_LETTERS)))
    (n_MOST_SIGNS : PySem.W.nsIn K mainGlobals "MOST_SIGNS" = some (some (.int 8 tk_MOST_SIGNS)))
    (n_BEYOND : PySem.W.nsIn K mainGlobals "BEYOND" = some (some (.int 100000000000000000000 tk_BEYOND)))
    (b_abs : PySem.W.nsIn K mainGlobals "abs" = some none)
    (b_all : PySem.W.nsIn K mainGlobals "all" = some none)
    (b_bool : PySem.W.nsIn K mainGlobals "bool" = some none)
    (b_enumerate : PySem.W.nsIn K mainGlobals "enumerate" = some none)
    (b_int : PySem.W.nsIn K mainGlobals "int" = some none)
    (b_isinstance : PySem.W.nsIn K mainGlobals "isinstance" = some none)
    (b_len : PySem.W.nsIn K mainGlobals "len" = some none)
    (b_max : PySem.W.nsIn K mainGlobals "max" = some none)
    (b_min : PySem.W.nsIn K mainGlobals "min" = some none)
    (b_range : PySem.W.nsIn K mainGlobals "range" = some none)
    (b_repr : PySem.W.nsIn K mainGlobals "repr" = some none)
    (b_str : PySem.W.nsIn K mainGlobals "str" = some none) :
    ∃ fd : FuncData, (∀ (s : Shared) (u : Value), BindsTo s fd ⟨[u], []⟩ [("script", u)]) ∧ ∀ base : Heap, K.In base → base.Ns mainGlobals mg → FnZ P w K mg base 5 fa fd ["script"] (spLaw K) := by
  have e := hfa.symm.trans (PySem.W.mg_of X G a_law)
  cases e
  have T : Txt K mg ⟨f_BadName_init, _, f_BadValue_init, _, f_is_name, _, f_is_int, _, f_check_name, _, f_check_operand, _, f_law_deck, _, f_law_draw, _, f_law_of, _, f_law_number, _, f_law_names, _, f_law_word, _, f_law_is_name, _, f_law_is_operand, _, f_law_is_right, _, _, _, c_BadName, c_BadValue⟩ := {
    f_BadName_init := fun_mk (st := s_BadName_init) l_BadName_init cc_BadName_init k_BadName_init,
    e_BadName_init := (fun_mk (st := s_BadName_init) l_BadName_init cc_BadName_init k_BadName_init).binds (ps := ["self", "name"]) fun _ _ _ _ _ _ us hl => match us, hl with | [_, _], _ => rfl,
    f_BadValue_init := fun_mk (st := s_BadValue_init) l_BadValue_init cc_BadValue_init k_BadValue_init,
    e_BadValue_init := (fun_mk (st := s_BadValue_init) l_BadValue_init cc_BadValue_init k_BadValue_init).binds (ps := ["self", "value"]) fun _ _ _ _ _ _ us hl => match us, hl with | [_, _], _ => rfl,
    f_is_name := fun_mk (st := s_is_name) l_is_name cc_is_name k_is_name,
    e_is_name := (fun_mk (st := s_is_name) l_is_name cc_is_name k_is_name).binds (ps := ["thing"]) fun _ _ _ _ _ _ us hl => match us, hl with | [_], _ => rfl,
    g_is_name := PySem.W.mg_of X G a_is_name,
    k_is_name := k_is_name,
    f_is_int := fun_mk (st := s_is_int) l_is_int cc_is_int k_is_int,
    e_is_int := (fun_mk (st := s_is_int) l_is_int cc_is_int k_is_int).binds (ps := ["thing"]) fun _ _ _ _ _ _ us hl => match us, hl with | [_], _ => rfl,
    g_is_int := PySem.W.mg_of X G a_is_int,
    k_is_int := k_is_int,
    f_check_name := fun_mk (st := s_check_name) l_check_name cc_check_name k_check_name,
    e_check_name := (fun_mk (st := s_check_name) l_check_name cc_check_name k_check_name).binds (ps := ["thing"]) fun _ _ _ _ _ _ us hl => match us, hl with | [_], _ => rfl,
    g_check_name := PySem.W.mg_of X G a_check_name,
    k_check_name := k_check_name,
    f_check_operand := fun_mk (st := s_check_operand) l_check_operand cc_check_operand k_check_operand,
    e_check_operand := (fun_mk (st := s_check_operand) l_check_operand cc_check_operand k_check_operand).binds (ps := ["thing"]) fun _ _ _ _ _ _ us hl => match us, hl with | [_], _ => rfl,
    g_check_operand := PySem.W.mg_of X G a_check_operand,
    k_check_operand := k_check_operand,
    f_law_deck := fun_mk (st := s_law_deck) l_law_deck cc_law_deck k_law_deck,
    e_law_deck := (fun_mk (st := s_law_deck) l_law_deck cc_law_deck k_law_deck).binds (ps := ["script", "turn"]) fun _ _ _ _ _ _ us hl => match us, hl with | [_, _], _ => rfl,
    g_law_deck := PySem.W.mg_of X G a_law_deck,
    k_law_deck := k_law_deck,
    f_law_draw := fun_mk (st := s_law_draw) l_law_draw cc_law_draw k_law_draw,
    e_law_draw := (fun_mk (st := s_law_draw) l_law_draw cc_law_draw k_law_draw).binds (ps := ["deck", "many"]) fun _ _ _ _ _ _ us hl => match us, hl with | [_, _], _ => rfl,
    g_law_draw := PySem.W.mg_of X G a_law_draw,
    k_law_draw := k_law_draw,
    f_law_of := fun_mk (st := s_law_of) l_law_of cc_law_of k_law_of,
    e_law_of := (fun_mk (st := s_law_of) l_law_of cc_law_of k_law_of).binds (ps := ["deck", "some"]) fun _ _ _ _ _ _ us hl => match us, hl with | [_, _], _ => rfl,
    g_law_of := PySem.W.mg_of X G a_law_of,
    k_law_of := k_law_of,
    f_law_number := fun_mk (st := s_law_number) l_law_number cc_law_number k_law_number,
    e_law_number := (fun_mk (st := s_law_number) l_law_number cc_law_number k_law_number).binds (ps := ["deck"]) fun _ _ _ _ _ _ us hl => match us, hl with | [_], _ => rfl,
    g_law_number := PySem.W.mg_of X G a_law_number,
    k_law_number := k_law_number,
    f_law_names := fun_mk (st := s_law_names) l_law_names cc_law_names k_law_names,
    e_law_names := (fun_mk (st := s_law_names) l_law_names cc_law_names k_law_names).binds (ps := ["deck", "many"]) fun _ _ _ _ _ _ us hl => match us, hl with | [_, _], _ => rfl,
    g_law_names := PySem.W.mg_of X G a_law_names,
    k_law_names := k_law_names,
    f_law_word := fun_mk (st := s_law_word) l_law_word cc_law_word k_law_word,
    e_law_word := (fun_mk (st := s_law_word) l_law_word cc_law_word k_law_word).binds (ps := ["deck"]) fun _ _ _ _ _ _ us hl => match us, hl with | [_], _ => rfl,
    g_law_word := PySem.W.mg_of X G a_law_word,
    k_law_word := k_law_word,
    f_law_is_name := fun_mk (st := s_law_is_name) l_law_is_name cc_law_is_name k_law_is_name,
    e_law_is_name := (fun_mk (st := s_law_is_name) l_law_is_name cc_law_is_name k_law_is_name).binds (ps := ["thing"]) fun _ _ _ _ _ _ us hl => match us, hl with | [_], _ => rfl,
    g_law_is_name := PySem.W.mg_of X G a_law_is_name,
    k_law_is_name := k_law_is_name,
    f_law_is_operand := fun_mk (st := s_law_is_operand) l_law_is_operand cc_law_is_operand k_law_is_operand,
    e_law_is_operand := (fun_mk (st := s_law_is_operand) l_law_is_operand cc_law_is_operand k_law_is_operand).binds (ps := ["thing"]) fun _ _ _ _ _ _ us hl => match us, hl with | [_], _ => rfl,
    g_law_is_operand := PySem.W.mg_of X G a_law_is_operand,
    k_law_is_operand := k_law_is_operand,
    f_law_is_right := fun_mk (st := s_law_is_right) l_law_is_right cc_law_is_right k_law_is_right,
    e_law_is_right := (fun_mk (st := s_law_is_right) l_law_is_right cc_law_is_right k_law_is_right).binds (ps := ["thing"]) fun _ _ _ _ _ _ us hl => match us, hl with | [_], _ => rfl,
    g_law_is_right := PySem.W.mg_of X G a_law_is_right,
    k_law_is_right := k_law_is_right,
    f_law := fun_mk (st := s_law) l_law cc_law k_law,
    e_law := (fun_mk (st := s_law) l_law cc_law k_law).binds (ps := ["script"]) fun _ _ _ _ _ _ us hl => match us, hl with | [_], _ => rfl,
    g_law := PySem.W.mg_of X G a_law,
    k_law := k_law,
    g_BadName := PySem.W.mg_of X G n_BadName,
    o_BadName := ⟨⟨_, _, _, _, _, _, _, _, _, _, _, _, _, _, _, x_BadName, by decide +kernel⟩, sa_BadName, eC_BadName, tC_BadName, kC_BadName⟩,
    x_BadName := ⟨ga_BadName, gg_BadName, eC_BadName, hC_BadName⟩,
    h_BadName := exm_own eC_BadName iC_BadName tC_BadName sC_BadName,
    i_BadName := a_BadName_init,
    t_BadName := t_BadName_init,
    a_BadName_name := z_BadName_name,
    g_BadValue := PySem.W.mg_of X G n_BadValue,
    o_BadValue := ⟨⟨_, _, _, _, _, _, _, _, _, _, _, _, _, _, _, x_BadValue, by decide +kernel⟩, sa_BadValue, eC_BadValue, tC_BadValue, kC_BadValue⟩,
    x_BadValue := ⟨ga_BadValue, gg_BadValue, eC_BadValue, hC_BadValue⟩,
    h_BadValue := exm_own eC_BadValue iC_BadValue tC_BadValue sC_BadValue,
    i_BadValue := a_BadValue_init,
    t_BadValue := t_BadValue_init,
    a_BadValue_value := z_BadValue_value,
    n_LETTERS := ⟨_, PySem.W.mg_of X G n_LETTERS⟩,
    n_MOST_SIGNS := ⟨_, PySem.W.mg_of X G n_MOST_SIGNS⟩,
    n_BEYOND := ⟨_, PySem.W.mg_of X G n_BEYOND⟩,
    b_abs := PySem.W.mg_none_of X G b_abs,
    b_all := PySem.W.mg_none_of X G b_all,
    b_bool := PySem.W.mg_none_of X G b_bool,
    b_enumerate := PySem.W.mg_none_of X G b_enumerate,
    b_int := PySem.W.mg_none_of X G b_int,
    b_isinstance := PySem.W.mg_none_of X G b_isinstance,
    b_len := PySem.W.mg_none_of X G b_len,
    b_max := PySem.W.mg_none_of X G b_max,
    b_min := PySem.W.mg_none_of X G b_min,
    b_range := PySem.W.mg_none_of X G b_range,
    b_repr := PySem.W.mg_none_of X G b_repr,
    b_str := PySem.W.mg_none_of X G b_str }
  exact ⟨_, fun _ _ => .of_eq rfl, fun base _ _ => ok_law T⟩
end Z
open PySem PySem.W PyProof.Rows
set_option maxRecDepth 100000 in
set_option maxHeartbeats 0 in
theorem PySem.Challenge.cw_falsedefaults_k04_names_and_operands_holds : PySem.Challenge.rw_falsedefaults_k04_names_and_operands.Holds := by
  w_on; o_law; k_head; (case hw => w_witness2)
  k_fill
  refine Z.law_walk (l := PySem.Challenge.rw_falsedefaults_k04_names_and_operands) (k := 5) rfl rfl ⟨rfl, by decide, by decide⟩ (fun w h Y => PySem.W.kIn_of Y) ?F
  case F =>
    intro w mg fa h KX G hmg
    refine' Z.all_mk KX G hmg ?a_BadName_init ?t_BadName_init ?l_BadName_init ?cc_BadName_init ?k_BadName_init ?a_BadValue_init ?t_BadValue_init ?l_BadValue_init ?cc_BadValue_init ?k_BadValue_init ?a_is_name ?l_is_name ?cc_is_name ?k_is_name ?a_is_int ?l_is_int ?cc_is_int ?k_is_int ?a_check_name ?l_check_name ?cc_check_name ?k_check_name ?a_check_operand ?l_check_operand ?cc_check_operand ?k_check_operand ?a_law_deck ?l_law_deck ?cc_law_deck ?k_law_deck ?a_law_draw ?l_law_draw ?cc_law_draw ?k_law_draw ?a_law_of ?l_law_of ?cc_law_of ?k_law_of ?a_law_number ?l_law_number ?cc_law_number ?k_law_number ?a_law_names ?l_law_names ?cc_law_names ?k_law_names ?a_law_word ?l_law_word ?cc_law_word ?k_law_word ?a_law_is_name ?l_law_is_name ?cc_law_is_name ?k_law_is_name ?a_law_is_operand ?l_law_is_operand ?cc_law_is_operand ?k_law_is_operand ?a_law_is_right ?l_law_is_right ?cc_law_is_right ?k_law_is_right ?a_law ?l_law ?cc_law ?k_law ?n_BadName ?x_BadName ?sa_BadName ?ga_BadName ?gg_BadName ?eC_BadName ?tC_BadName ?kC_BadName ?hC_BadName ?iC_BadName ?sC_BadName ?z_BadName_name ?n_BadValue ?x_BadValue ?sa_BadValue ?ga_BadValue ?gg_BadValue ?eC_BadValue ?tC_BadValue ?kC_BadValue ?hC_BadValue ?iC_BadValue ?sC_BadValue ?z_BadValue_value ?n_LETTERS ?n_MOST_SIGNS ?n_BEYOND ?b_abs ?b_all ?b_bool ?b_enumerate ?b_int ?b_isinstance ?b_len ?b_max ?b_min ?b_range ?b_repr ?b_str
    (case n_BadName => k_is)
    (case n_BadValue => k_is)
    (case a_BadName_init => k_is)
    (case t_BadName_init => k_is)
    (case l_BadName_init => k_is)
    (case cc_BadName_init => k_is)
    (case k_BadName_init => k_is)
    (case a_BadValue_init => k_is)
    (case t_BadValue_init => k_is)
    (case l_BadValue_init => k_is)
    (case cc_BadValue_init => k_is)
    (case k_BadValue_init => k_is)
    (case a_is_name => k_is)
    (case l_is_name => k_is)
    (case cc_is_name => k_is)
    (case k_is_name => k_is)
    (case a_is_int => k_is)
    (case l_is_int => k_is)
    (case cc_is_int => k_is)
    (case k_is_int => k_is)
    (case a_check_name => k_is)
    (case l_check_name => k_is)
    (case cc_check_name => k_is)
    (case k_check_name => k_is)
    (case a_check_operand => k_is)
    (case l_check_operand => k_is)
    (case cc_check_operand => k_is)
    (case k_check_operand => k_is)
    (case a_law_deck => k_is)
    (case l_law_deck => k_is)
    (case cc_law_deck => k_is)
    (case k_law_deck => k_is)
    (case a_law_draw => k_is)
    (case l_law_draw => k_is)
    (case cc_law_draw => k_is)
    (case k_law_draw => k_is)
    (case a_law_of => k_is)
    (case l_law_of => k_is)
    (case cc_law_of => k_is)
    (case k_law_of => k_is)
    (case a_law_number => k_is)
    (case l_law_number => k_is)
    (case cc_law_number => k_is)
    (case k_law_number => k_is)
    (case a_law_names => k_is)
    (case l_law_names => k_is)
    (case cc_law_names => k_is)
    (case k_law_names => k_is)
    (case a_law_word => k_is)
    (case l_law_word => k_is)
    (case cc_law_word => k_is)
    (case k_law_word => k_is)
    (case a_law_is_name => k_is)
    (case l_law_is_name => k_is)
    (case cc_law_is_name => k_is)
    (case k_law_is_name => k_is)
    (case a_law_is_operand => k_is)
    (case l_law_is_operand => k_is)
    (case cc_law_is_operand => k_is)
    (case k_law_is_operand => k_is)
    (case a_law_is_right => k_is)
    (case l_law_is_right => k_is)
    (case cc_law_is_right => k_is)
    (case k_law_is_right => k_is)
    (case a_law => k_is)
    (case l_law => k_is)
    (case cc_law => k_is)
    (case k_law => k_is)
    (case x_BadName => k_is)
    (case sa_BadName => k_is)
    (case ga_BadName => k_is)
    (case gg_BadName => k_is)
    (case eC_BadName => k_is)
    (case tC_BadName => k_is)
    (case kC_BadName => k_is)
    (case hC_BadName => k_is)
    (case iC_BadName => k_is)
    (case sC_BadName => first | rfl | k_is)
    (case z_BadName_name => k_is)
    (case x_BadValue => k_is)
    (case sa_BadValue => k_is)
    (case ga_BadValue => k_is)
    (case gg_BadValue => k_is)
    (case eC_BadValue => k_is)
    (case tC_BadValue => k_is)
    (case kC_BadValue => k_is)
    (case hC_BadValue => k_is)
    (case iC_BadValue => k_is)
    (case sC_BadValue => first | rfl | k_is)
    (case z_BadValue_value => k_is)
    (case n_LETTERS => k_is)
    (case n_MOST_SIGNS => k_is)
    (case n_BEYOND => k_is)
    (case b_abs => k_is)
    (case b_all => k_is)
    (case b_bool => k_is)
    (case b_enumerate => k_is)
    (case b_int => k_is)
    (case b_isinstance => k_is)
    (case b_len => k_is)
    (case b_max => k_is)
    (case b_min => k_is)
    (case b_range => k_is)
    (case b_repr => k_is)
    (case b_str => k_is)
