import PyProof.Rows.All
import Wide.All
import OpenK.AllK
import Wide.FinOn
import HandS.ForMost
import HandS.ForExc
import HandS.IsInst
import HandS.ExcInit
import HandS.ExcField
import HandS.Wide
import HandS.Flow
import HandS.Style
import HandS.More
import HandS.Star
import HandS.ClsMeth
import HandS.OwnEq
import HandS.FStr
import HandS.SetKeys
import HandS.SetBool
import HandS.Conv
import HandS.DictComp
import HandS.Walk
import HandS.Ends
import KE.GoesMore
import KE.GoesEnum
import HandS.Zip
import HandS.CallLocal
import HandS.Small
import HandS.Text
import HandS.Codes
import HandS.ExcValue
import KE.KExcIs
import HandS.Deep
import PyProof.FactsAll.dict_1
import PyProof.ReprRoads
import HandS.Defaults
import HandS.MakeKwOnly
import PySem.Challenge.RW_falsedefaults_k02_plain_steps_refused
set_option Elab.async false
set_option linter.all false
set_option maxRecDepth 100000
set_option maxHeartbeats 4000000
set_option maxHeartbeats 1000000
set_option maxHeartbeats 2000000
namespace Z
open PySem PySem.Spec PyProof.Rows L2
abbrev St := L2.St

/-! ### operators, whatever the kinds -/
def zAdd : R2 := fun x y H Q => match x, y with
  | .int i, .int j => Q (.int (i + j)) H
  | .str i, .str j => i.length + j.length ≤ sizeLine ∧ Q (.str (i ++ j)) H
  | .ref l, .ref b => ∃ xs zs, H l = some (.lst xs) ∧ H b = some (.lst zs) ∧ xs.length + zs.length ≤ sizeLine ∧ ∀ p, H p = none → Q (.ref p) (upd H p (.lst (xs ++ zs)))
  | _, _ => False
def zSub : R2 := fun x y H Q => match x, y with
  | .int i, .int j => Q (.int (i - j)) H
  | _, _ => False
def zMul : R2 := fun x y H Q => match x, y with
  | .int i, .int j => CMul i j ∧ Q (.int (i * j)) H
  | .str x, .int n => MulOk x n ∧ Q (.str (Txt.mul x n)) H
  | .ref l, .int k => ∃ xs, H l = some (.lst xs) ∧ -(2 ^ 63) ≤ k ∧ k < 2 ^ 63 ∧ xs.length * k.toNat ≤ sizeLine ∧ ∀ p, H p = none → Q (.ref p) (upd H p (.lst (List.replicate k.toNat xs).flatten))
  | _, _ => False
def zMod : R2 := fun x y H Q => match x, y with
  | .int i, .int j => 0 < j ∧ Q (.int (i % j)) H
  | _, _ => False
def zFdiv : R2 := fun x y H Q => match x, y with
  | .int i, .int j => CDivW i j ∧ Q (.int (i / j)) H
  | _, _ => False
def zPow : R2 := fun x y H Q => match x, y with
  | .int i, .int j => CPow i j ∧ Q (.int (i ^ j.toNat)) H
  | _, _ => False
def zLt : R2 := fun x y H Q => match x, y with
  | .int i, .int j => Q (.bl (decide (i < j))) H
  | _, _ => False
def zLe : R2 := fun x y H Q => match x, y with
  | .int i, .int j => Q (.bl (decide (i ≤ j))) H
  | _, _ => False
def zGt : R2 := fun x y H Q => match x, y with
  | .int i, .int j => Q (.bl (decide (j < i))) H
  | _, _ => False
def zGe : R2 := fun x y H Q => match x, y with
  | .int i, .int j => Q (.bl (decide (j ≤ i))) H
  | _, _ => False
def zIs : R2 := fun x y H Q => y = .non ∧ Q (.bl (decide (x = .non))) H
def zIsnt : R2 := fun x y H Q => y = .non ∧ Q (.bl (!decide (x = .non))) H
/-- == of scalars of any kinds; else of data -/
def zEq (K : PySem.W.Frag) : R2 := fun x y H Q => (scal x y = true ∧ Q (.bl (decide (x = y))) H) ∨ rEqD K x y H Q
def zNe (K : PySem.W.Frag) : R2 := fun x y H Q => (scal x y = true ∧ Q (.bl (!decide (x = y))) H) ∨ rNeD K x y H Q
/-- in: one sign in a text; a flat thing in a list or a tuple -/
def zIn (K : PySem.W.Frag) : R2 := fun x y H Q => (∃ (c : Nat) (z : Str), x = .str ⟨#[c]⟩ ∧ y = .str z ∧ Q (.bl (decide (c ∈ z.cps.toList))) H) ∨ rIn K false x y H Q
def zNin (K : PySem.W.Frag) : R2 := fun x y H Q => (∃ (c : Nat) (z : Str), x = .str ⟨#[c]⟩ ∧ y = .str z ∧ Q (.bl (!decide (c ∈ z.cps.toList))) H) ∨ rIn K true x y H Q
def zIx (K : PySem.W.Frag) : R2 := fun x y H Q => match x, y with
  | .ref p, .int i => ∃ xs v, (SqL K H p xs ∨ SqT K H p xs) ∧ atI xs i = some v ∧ Q v H
  | .str z, .int i => z.length ≤ sizeLine ∧ ∃ c, atI z.cps.toList i = some c ∧ Q (.str ⟨#[c]⟩) H
  | _, _ => False
section
variable {X : Cx}
theorem op_zAdd : OpR X (binaryOp .Add) zAdd := by
  intro pins s σ H x y v u Q I rx ry h
  unfold zAdd at h
  split at h
  · exact op_add pins s σ H _ _ v u Q I rx ry ⟨_, _, rfl, rfl, h⟩
  · exact op_add_str pins s σ H _ _ v u Q I rx ry ⟨_, _, rfl, rfl, h⟩
  · obtain ⟨xs, zs, h1, h2, h3, h4⟩ := h
    exact op_cat pins s σ H _ _ v u Q I rx ry ⟨_, _, _, _, rfl, rfl, h1, h2, h3, h4⟩
  · exact h.elim
theorem op_zSub : OpR X (binaryOp .Sub) zSub := by
  intro pins s σ H x y v u Q I rx ry h
  unfold zSub at h
  split at h
  · exact op_sub pins s σ H _ _ v u Q I rx ry ⟨_, _, rfl, rfl, h⟩
  · exact h.elim
theorem op_zMul : OpR X (binaryOp .Mult) zMul := by
  intro pins s σ H x y v u Q I rx ry h
  unfold zMul at h
  split at h
  · exact op_mul pins s σ H _ _ v u Q I rx ry ⟨_, _, rfl, rfl, h.1, h.2⟩
  · obtain ⟨t, rfl⟩ := rx
    obtain ⟨t', rfl⟩ := ry
    exact SB.mul h.1 fun t2 k => ⟨.str _, H, I.tok _, ⟨_, rfl⟩, h.2⟩
  · obtain ⟨xs, h1, h2, h3, h4, h5⟩ := h
    exact op_rep pins s σ H _ _ v u Q I rx ry ⟨_, _, _, rfl, rfl, h1, h2, h3, h4, h5⟩
  · exact h.elim
theorem op_zMod : OpR X (binaryOp .Mod) zMod := by
  intro pins s σ H x y v u Q I rx ry h
  unfold zMod at h
  split at h
  · exact op_mod pins s σ H _ _ v u Q I rx ry ⟨_, _, rfl, rfl, h.1, h.2⟩
  · exact h.elim
theorem op_zFdiv : OpR X (binaryOp .FloorDiv) zFdiv := by
  intro pins s σ H x y v u Q I rx ry h
  unfold zFdiv at h
  split at h
  · exact op_fdivW pins s σ H _ _ v u Q I rx ry ⟨_, _, rfl, rfl, h.1, h.2⟩
  · exact h.elim
theorem op_zPow : OpR X (binaryOp .Pow) zPow := by
  intro pins s σ H x y v u Q I rx ry h
  unfold zPow at h
  split at h
  · exact op_pow pins s σ H _ _ v u Q I rx ry ⟨_, _, rfl, rfl, h.1, h.2⟩
  · exact h.elim
theorem op_zLt : OpR X (compareOp .Lt) zLt := by
  intro pins s σ H x y v u Q I rx ry h
  unfold zLt at h
  split at h
  · exact op_lt pins s σ H _ _ v u Q I rx ry ⟨_, _, rfl, rfl, h⟩
  · exact h.elim
theorem op_zLe : OpR X (compareOp .LtE) zLe := by
  intro pins s σ H x y v u Q I rx ry h
  unfold zLe at h
  split at h
  · exact op_le pins s σ H _ _ v u Q I rx ry ⟨_, _, rfl, rfl, h⟩
  · exact h.elim
theorem op_zGt : OpR X (compareOp .Gt) zGt := by
  intro pins s σ H x y v u Q I rx ry h
  unfold zGt at h
  split at h
  · exact op_gt pins s σ H _ _ v u Q I rx ry ⟨_, _, rfl, rfl, h⟩
  · exact h.elim
theorem op_zGe : OpR X (compareOp .GtE) zGe := by
  intro pins s σ H x y v u Q I rx ry h
  unfold zGe at h
  split at h
  · exact op_ge pins s σ H _ _ v u Q I rx ry ⟨_, _, rfl, rfl, h⟩
  · exact h.elim
theorem op_zIs : OpR X (compareOp .Is) zIs := op_isN
theorem op_zIsnt : OpR X (compareOp .IsNot) zIsnt := op_notN
theorem op_zEq (hu : X.A.units + 64 < cLine) : OpR X (compareOp .Eq) (zEq X.K) := OpR.or op_eq (op_eqD hu)
theorem op_zNe (hu : X.A.units + 64 < cLine) : OpR X (compareOp .NotEq) (zNe X.K) := OpR.or op_ne (op_neD hu)
theorem op_zIn : OpR X (compareOp .In) (zIn X.K) := OpR.or op_in_sign op_in_seq
theorem op_zNin : OpR X (compareOp .NotIn) (zNin X.K) := OpR.or op_notIn_sign op_notIn_seq
theorem ix_z : IxR X (zIx X.K) := by
  intro e1 e2 pins s σ H x y v u Q I rx ry h hs
  unfold zIx at h
  split at h
  · obtain ⟨xs, w, hq, ha, q⟩ := h
    rcases hq with hq | hq
    · exact ix_seq e1 e2 pins s σ H _ _ v u Q I rx ry (.inl ⟨_, _, _, _, rfl, rfl, hq, ha, q⟩) hs
    · exact ix_seq e1 e2 pins s σ H _ _ v u Q I rx ry (.inr (.inl ⟨_, _, _, _, rfl, rfl, hq, ha, q⟩)) hs
  · obtain ⟨hz, c, ha, q⟩ := h
    exact ix_seq e1 e2 pins s σ H _ _ v u Q I rx ry (.inr (.inr ⟨_, _, _, rfl, rfl, hz, ha, q⟩)) hs
  · exact h.elim
end
end Z
namespace Z
open PySem PySem.Spec PyProof.Rows L2

/-! ### a def's promise where no repr is running around it; anything may be raised -/
structure FnG (gd : Bool) (P : Program) (w : World) (K : PySem.W.Frag) (mg : Str → Option Value) (base : Heap)
    (k : Nat) (f : Addr) (fd : FuncData) (ps : List Str) (sp : Sp) : Prop where
  len : ∀ vs H Q E, sp vs H Q E → vs.length = ps.length
  run : ∀ (A : Around) (outer : List Env) (s : Shared) (H : Hp) (args : Args) (us : List Value)
    (vs : List V) (Q : VK) (E : XK), Room k A → (gd = true → A.guards = some []) →
    Env0 P w K mg base A outer s H → BindsTo s fd args (ps.zip us) → Vals vs us → sp vs H Q E →
    codeAny (model P w) A (.call (.ref f) args) (CR (L2.CX P w) outer P w H s Q E) s
abbrev FnZ := FnG true
section
variable {gd : Bool} {P : Program} {w : World} {K : PySem.W.Frag} {mg : Str → Option Value} {base : Heap} {f : Addr} {fd : FuncData} {ps : List Str} {sp sp' : Sp}
theorem FnG.mono {j k : Nat} (F : FnG gd P w K mg base j f fd ps sp) (h : j ≤ k) : FnG gd P w K mg base k f fd ps sp :=
  ⟨F.len, fun A outer s H args us vs Q E hr => F.run A outer s H args us vs Q E (hr.mono h)⟩
theorem FnG.imp {k : Nat} (F : FnG gd P w K mg base k f fd ps sp) (h : ∀ vs H Q E, sp' vs H Q E → sp vs H Q E) : FnG gd P w K mg base k f fd ps sp' :=
  ⟨fun vs H Q E q => F.len vs H Q E (h _ _ _ _ q), fun A outer s H args us vs Q E hr hg he hb hv hs =>
    F.run A outer s H args us vs Q E hr hg he hb hv (h _ _ _ _ hs)⟩
/-- without a word on guards it is a promise for any of the hand layer's rules -/
theorem FnG.raw {k : Nat} (F : FnG false P w K mg base k f fd ps sp) (hb : Binds K fd ps []) : FnR P w K mg base (L2.CX P w) k f sp := by
  intro A outer s H us vs Q E hr e0 r h
  have KX : K.In s.heap := e0.mod.kin.keeps fun b o z => (e0.bs b o z).1
  have hl : us.length = ps.length := r.length.symm.trans (F.len _ _ _ _ h)
  have b := hb s us KX (by rw [List.append_nil]; exact hl)
  rw [List.append_nil] at b
  exact F.run A outer s H ⟨us, []⟩ us vs Q E hr (fun z => nomatch z) e0 b r h
/-- and one that holds even so -/
theorem FnG.up {k : Nat} (F : FnG false P w K mg base k f fd ps sp) : FnG gd P w K mg base k f fd ps sp := ⟨F.len, fun A outer s H args us vs Q E hr _ => F.run A outer s H args us vs Q E hr fun z => nomatch z⟩
end
theorem guards_make {A : Around} {C : Addr} {us : List Value} {kw : List (Str × Value)} (h : A.guards = some []) :
    (A.under (.builtin "type.__call__" ⟨.ref C :: us, kw⟩)).guards = some [] := by
  simp [Around.under, Code.guards, Code.isGuard, guardIds, pushGuards, h]

section
variable {gd : Bool} {P : Program} {w : World} {K : PySem.W.Frag} {mg : Str → Option Value} {base : Heap}
/-- a def by its body -/
theorem okZ {x qual : Str} {st : Stmt} {f : Addr} {fd : FuncData} {N ps : List Str} {k : Nat} {sp : Sp} (F : Fun K x qual st f fd)
    (S : FnScope N ps (defScope st)) (len : ∀ vs H Q E, sp vs H Q E → vs.length = ps.length)
    (hbody : ∀ (cdv : Value) (A : Around) (outer : List Env) (s : Shared) (H : Hp) (vs : List V) (Q : VK) (E : XK),
      Room k (A.deeper (envOfC qual (defScope st) s.heap.objs.size f cdv)) →
      (gd = true → (A.deeper (envOfC qual (defScope st) s.heap.objs.size f cdv)).guards = some []) → sp vs H Q E →
      ∃ t, PSs (cxOf (L2.CX P w) P w K mg base N qual (defScope st) f cdv A outer s H E) (defBody st) t ∧
        t { nx := fun _ H' => Q .non H', rt := Q } (start N vs) H) :
    FnG gd P w K mg base (k + 1) f fd ps sp := by
  obtain ⟨oc, od, kV, doc, pm, an, cdv, ct, osl, rfl, lk, hcd⟩ := F.ex
  refine ⟨len, fun A outer s H args us vs Q E hr hgu e0 hb r hsp => ?_⟩
  have hl := len _ _ _ _ hsp
  have KX : K.In s.heap := e0.mod.kin.keeps fun b o z => (e0.bs b o z).1
  have lim : s.heap.NoLimit := e0.mod.nolimit.keeps fun b o z => (e0.bs b o z).1
  have hkind : ∀ y ∈ ps.zip us, (defScope st).names.lookup y.1 = some .local ∨
      ((defScope st).names.lookup y.1 = some .cell ∧ ((cellsFrom (s.heap.objs.size + 1) (defScope st).names []).lookup y.1).isSome = true) := by
    intro y hy
    obtain ⟨n, v⟩ := y
    rcases S.par n (List.of_mem_zip hy).1 with q | q
    · exact .inl q
    · exact .inr ⟨q, PySem.W.cellsFrom_some _ _ _ (.inl q)⟩
  refine codeAny_call_function hr.depth (KX _ _ lk) rfl S.co S.gen rfl (PySem.W.codeRec_of KX hcd) (hb _ _ _ _ ?_)
  refine wpAny_newFunctionEnv_cells S.kind hkind fun env he s1 x => ?_
  subst he
  refine ⟨lim.keeps x.toInCall.keep, codeAny_func ?_⟩
  obtain ⟨t, ht, hq⟩ := hbody cdv A outer s H vs Q E (hr.deeper _) hgu hsp
  have I := inv_start (CX := L2.CX P w) (E := E) S hr.hd e0 hl r x
  refine wpAny_mono (ht.run [] s1 (start N vs) H _ I hq) (fun fl s' hs => ?_) fun e s' hs => hs
  cases fl with
  | ret u =>
    obtain ⟨v, σ', H', J, rv, q⟩ := hs
    exact ⟨v, H', J.os, J.bare, J.base, J.hok, rv, q⟩
  | next =>
    obtain ⟨σ', H', J, q⟩ := hs
    exact ⟨V.non, H', J.os, J.bare, J.base, J.hok, rfl, q⟩
  | brk => exact False.elim hs.choose_spec.choose_spec.2
  | cont => exact False.elim hs.choose_spec.choose_spec.2
end

/-! ### calls of such defs -/
theorem passE0 {X : Cx} (σ : St) : PassesAt (L2.CX X.prog X.w) X σ E0 := fun pins H s e s' I h => passL pins σ H s e s' I h
def zCall (sp : Sp) (dvs : List V) (E : St → XK) (t : TA) : TE := fun σ H Q => t σ H fun vs H1 => sp (vs ++ dvs) H1 Q (E σ)
def zMeth (C : Addr) (m : Str) (sp : Sp) (dvs : List V) (E : St → XK) (ta : TE) (t : TA) : TE := fun σ H Q =>
  ta σ H fun x H1 => ∃ a dx fs, x = .ref a ∧ H1 a = some (.ins C dx fs) ∧ fs.lookup m = none ∧
    t σ H1 fun vs H2 => sp (x :: (vs ++ dvs)) H2 Q (E σ)
def zMake (C : Addr) (sp : Sp) (dvs : List V) (E : St → XK) (t : TA) : TE := fun σ H Q =>
  t σ H fun vs H1 => ∀ x dx, H1 x = none → H1 dx = none → dx ≠ x →
    sp (.ref x :: (vs ++ dvs)) (upd (upd H1 dx (.own x)) x (.ins C dx [])) (fun v H2 => v = .non ∧ Q (.ref x) H2) (E σ)
section
variable {gd : Bool} {X : Cx} {k : Nat} {f C : Addr} {fd : FuncData} {ps : List Str} {sp : Sp} {dvs : List V} {ds : List Value} {E : St → XK} {x m : Str}
  {p pos apos : Pos} {e o : Expr} {es : List Expr} {ta : TE} {t : TA}
theorem run_fnZ {pins : List (Addr × Obj)} {σ : St} {H : Hp} {s : Shared} {Q : VK} {us : List Value} {vs : List V}
    (F : FnG gd X.prog X.w X.K X.mg X.base k f fd ps sp) (hr : Room k X.A) (hgu : gd = true → X.A.guards = some []) (hb : Binds X.K fd ps ds) (hd : Vals dvs ds)
    (hx : PassesAt (L2.CX X.prog X.w) X σ (E σ)) (I : Inv X pins σ H s) (r : Vals vs us) (h : sp (vs ++ dvs) H Q (E σ)) :
    wpAny (model X.prog X.w) X.A (call (.ref f) us) (EP X pins σ Q) X.xe s := by
  have r2 : Vals (vs ++ dvs) (us ++ ds) := r.append hd
  have hl : (us ++ ds).length = ps.length := r2.length.symm.trans (F.len _ _ _ _ h)
  refine wpAny_call (codeAny_mono (F.run X.A X.stack s H ⟨us, []⟩ (us ++ ds) (vs ++ dvs) Q (E σ) hr hgu I.env0 (hb s us I.kIn hl) r2 h) fun r s' hq => ?_)
  rcases r with er | fl
  · exact hx pins H s er s' I hq
  · cases fl with
    | ret u => exact I.after hq
    | next => exact hq.elim
    | brk => exact hq.elim
    | cont => exact hq.elim
/-- f(e, ..) -/
theorem pe_callZ (F : FnG gd X.prog X.w X.K X.mg X.base k f fd ps sp) (hr : Room k X.A) (hgu : gd = true → X.A.guards = some []) (hg : Gl X x) (hm : X.mg x = some (.ref f))
    (hk : PySem.W.keepIn X.K (.ref f) = true) (hb : Binds X.K fd ps ds) (hd : Vals dvs ds) (hx : ∀ σ, PassesAt (L2.CX X.prog X.w) X σ (E σ))
    (ha : PA X (e :: es) t) (hdb : (x == ("__debug__" : Str)) = false := by decide)
    (he : starEach (e :: es) X.env = (false, eval e X.env) :: starEach es X.env := by rfl) (hpl : (backTo pos (starEach es X.env)).any (·.1) = false := by rfl) :
    PE X (.Call (.Name x p) (e :: es) [] pos) (zCall sp dvs E t) := by
  constructor
  intro pins s σ H Q I h
  refine wpAny_Call_Name_kw (ld_glob I hg hm ?_ hdb)
  refine PySem.W.callWith_K (h₀ := X.base) I.ok.mod.kin hk (thn (ha.run pos pins s σ H _ I h) ?_) he hpl
  rintro us s1 ⟨vs, H1, I1, r, q⟩
  exact ⟨I1.kIn, run_fnZ F hr hgu hb hd (hx σ) I1 r q⟩
theorem pe_callZ0 (F : FnG gd X.prog X.w X.K X.mg X.base k f fd ps sp) (hr : Room k X.A) (hgu : gd = true → X.A.guards = some []) (hg : Gl X x) (hm : X.mg x = some (.ref f))
    (hk : PySem.W.keepIn X.K (.ref f) = true) (hb : Binds X.K fd ps ds) (hd : Vals dvs ds) (hx : ∀ σ, PassesAt (L2.CX X.prog X.w) X σ (E σ))
    (hdb : (x == ("__debug__" : Str)) = false := by decide) : PE X (.Call (.Name x p) [] [] pos) (zCall sp dvs E tNil) := by
  constructor
  intro pins s σ H Q I h
  refine wpAny_Call_Name_kw (ld_glob I hg hm ?_ hdb)
  exact PySem.W.callWith_K0 I.kIn hk (run_fnZ (us := []) F hr hgu hb hd (hx σ) I .nil h)
theorem run_makeZ {pins : List (Addr × Obj)} {σ : St} {H : Hp} {s : Shared} {Q : VK} {us : List Value} {vs : List V} (M : Mk X.K C f)
    (F : FnG gd X.prog X.w X.K X.mg X.base k f fd ps sp) (hr : Room (k + 1) X.A) (hgu : gd = true → X.A.guards = some []) (hb : Binds X.K fd ps ds) (hd : Vals dvs ds)
    (hx : PassesAt (L2.CX X.prog X.w) X σ (E σ)) (I : Inv X pins σ H s) (r : Vals vs us)
    (h : ∀ x dx, H x = none → H dx = none → dx ≠ x → sp (.ref x :: (vs ++ dvs)) (upd (upd H dx (.own x)) x (.ins C dx [])) (fun v H2 => v = .non ∧ Q (.ref x) H2) (E σ)) :
    wpAny (model X.prog X.w) X.A (call (.ref C) us) (EP X pins σ Q) X.xe s := by
  have n0 := I.hok.fresh (Nat.le_refl s.heap.objs.size)
  have n1 := I.hok.fresh (Nat.le_succ s.heap.objs.size)
  have hq := h _ _ n1 n0 (Nat.ne_of_lt (Nat.lt_succ_self _))
  have I2 := Inv.made (C := C) I
  have r2 : Vals (V.ref (s.heap.objs.size + 1) :: (vs ++ dvs)) (Value.ref (s.heap.objs.size + 1) :: (us ++ ds)) := .cons rfl (r.append hd)
  have hl : (Value.ref (s.heap.objs.size + 1) :: us ++ ds).length = ps.length := (r2.length.symm.trans (F.len _ _ _ _ hq))
  refine wpAny_call (make_map (f := f) I.kIn M.makes M.init (beq_iff_eq.mp M.fn) (codeAny_mono (F.run _ X.stack _ _ ⟨Value.ref (s.heap.objs.size + 1) :: us, []⟩ _ _ _ (E σ) (hr.make C us [])
    (fun z => guards_make (hgu z)) (I2.env0.make C us []) (hb _ (Value.ref (s.heap.objs.size + 1) :: us) I2.kIn hl) r2 hq) fun r s' hq' => ?_))
  rcases r with er | fl
  · exact hx pins _ _ er s' I2 hq'
  · cases fl with
    | ret u =>
      obtain ⟨v, H', I3, rv, ev, q3⟩ := I2.after hq'
      subst ev
      exact ⟨rv, ⟨V.ref (s.heap.objs.size + 1), H', I3, rfl, q3⟩⟩
    | next => exact hq'.elim
    | brk => exact hq'.elim
    | cont => exact hq'.elim
/-- C(e, ..) -/
theorem pe_makeZ (M : Mk X.K C f) (F : FnG gd X.prog X.w X.K X.mg X.base k f fd ps sp) (hr : Room (k + 1) X.A) (hgu : gd = true → X.A.guards = some []) (hg : Gl X x)
    (hm : X.mg x = some (.ref C)) (hb : Binds X.K fd ps ds) (hd : Vals dvs ds) (hx : ∀ σ, PassesAt (L2.CX X.prog X.w) X σ (E σ)) (ha : PA X (e :: es) t)
    (hdb : (x == ("__debug__" : Str)) = false := by decide)
    (he : starEach (e :: es) X.env = (false, eval e X.env) :: starEach es X.env := by rfl) (hpl : (backTo pos (starEach es X.env)).any (·.1) = false := by rfl) :
    PE X (.Call (.Name x p) (e :: es) [] pos) (zMake C sp dvs E t) := by
  constructor
  intro pins s σ H Q I h
  refine wpAny_Call_Name_kw (ld_glob I hg hm ?_ hdb)
  refine PySem.W.callWith_K (h₀ := X.base) I.ok.mod.kin M.kp (thn (ha.run pos pins s σ H _ I h) ?_) he hpl
  rintro us s1 ⟨vs, H1, I1, r, q⟩
  exact ⟨I1.kIn, run_makeZ M F hr hgu hb hd (hx σ) I1 r q⟩
theorem pe_makeZ0 (M : Mk X.K C f) (F : FnG gd X.prog X.w X.K X.mg X.base k f fd ps sp) (hr : Room (k + 1) X.A) (hgu : gd = true → X.A.guards = some []) (hg : Gl X x)
    (hm : X.mg x = some (.ref C)) (hb : Binds X.K fd ps ds) (hd : Vals dvs ds) (hx : ∀ σ, PassesAt (L2.CX X.prog X.w) X σ (E σ))
    (hdb : (x == ("__debug__" : Str)) = false := by decide) :
    PE X (.Call (.Name x p) [] [] pos) (zMake C sp dvs E tNil) := by
  constructor
  intro pins s σ H Q I h
  refine wpAny_Call_Name_kw (ld_glob I hg hm ?_ hdb)
  exact PySem.W.callWith_K0 I.kIn M.kp (run_makeZ (us := []) M F hr hgu hb hd (hx σ) I .nil h)
/-- o.m(e, ..) -/
theorem pe_methZ {pl : Sem Bool} (he : PE X o ta) (c : Cls X.K C) (hm : Meth X.K C m f) (F : FnG gd X.prog X.w X.K X.mg X.base k f fd ps sp)
    (hr : Room k X.A) (hgu : gd = true → X.A.guards = some []) (hb : Binds X.K fd ps ds) (hd : Vals dvs ds) (hx : ∀ σ, PassesAt (L2.CX X.prog X.w) X σ (E σ)) (ha : PA X (e :: es) t)
    (hst : starEach (e :: es) X.env = (false, eval e X.env) :: starEach es X.env := by rfl) (hpl : (backTo pos (starEach es X.env)).any (·.1) = false := by rfl)
    (ht : eval (.Call (.Attribute o m apos) (e :: es) [] pos) X.env = (do
      let ow ← eval o X.env
      standAt apos.atName
      let (g, first) ← holding [ow] (getMethod ow m pl)
      callWith pos g first (backTo pos (starEach (e :: es) X.env)) (backToKw pos (keywordEach [] X.env))) := by rfl) :
    PE X (.Call (.Attribute o m apos) (e :: es) [] pos) (zMeth C m sp dvs E ta t) := by
  constructor
  intro pins s σ H Q I h
  refine PySem.W.methodCall_KW (pl := pl) (thn (he.run pins s σ H _ I h) ?_) ht
  rintro u s1 ⟨x, H1, I1, rx, a, dx, fs, rfl, ea, l, q⟩
  obtain rfl : u = Value.ref a := rx
  refine getmeth_ok I1 ea c hm l ?_
  refine PySem.W.callWith_K (first := [.ref a]) (h₀ := X.base) I.ok.mod.kin hm.kp (thn (ha.run pos pins s1 σ H1 _ I1 q) ?_) hst hpl
  rintro us s2 ⟨vs, H2, I2, r, q2⟩
  exact ⟨I2.kIn, run_fnZ (us := .ref a :: us) (vs := .ref a :: vs) F hr hgu hb hd (hx σ) I2 (.cons rfl r) q2⟩
theorem pe_methZ0 {pl : Sem Bool} (he : PE X o ta) (c : Cls X.K C) (hm : Meth X.K C m f) (F : FnG gd X.prog X.w X.K X.mg X.base k f fd ps sp)
    (hr : Room k X.A) (hgu : gd = true → X.A.guards = some []) (hb : Binds X.K fd ps ds) (hd : Vals dvs ds) (hx : ∀ σ, PassesAt (L2.CX X.prog X.w) X σ (E σ))
    (ht : eval (.Call (.Attribute o m apos) [] [] pos) X.env = (do
      let ow ← eval o X.env
      standAt apos.atName
      let (g, first) ← holding [ow] (getMethod ow m pl)
      callWith pos g first (backTo pos (starEach [] X.env)) (backToKw pos (keywordEach [] X.env))) := by rfl) :
    PE X (.Call (.Attribute o m apos) [] [] pos) (zMeth C m sp dvs E ta tNil) := by
  constructor
  intro pins s σ H Q I h
  refine PySem.W.methodCall_KW (pl := pl) (thn (he.run pins s σ H _ I h) ?_) ht
  rintro u s1 ⟨x, H1, I1, rx, a, dx, fs, rfl, ea, l, q⟩
  obtain rfl : u = Value.ref a := rx
  refine getmeth_ok I1 ea c hm l ?_
  exact PySem.W.callWith_K0 (first := [.ref a]) I1.kIn hm.kp (run_fnZ (us := [.ref a]) (vs := [.ref a]) F hr hgu hb hd (hx σ) I1 (.cons rfl .nil) q)

/-! ### an own exception over ValueError, its __init__ a def -/
/-- C(e, ..) that is raised -/
def zMkO (C : Addr) (sp : Sp) (ta : TA) : St → Hp → XK → Prop := fun σ H Q =>
  ta σ H fun vs H1 => vs.length ≤ 1000 ∧ ∀ a, H1 a = none → sp (.ref a :: vs) (upd H1 a (exo a C none))
    (fun v H2 => v = .non ∧ ∃ (d : Addr) (fs : List (Str × V)), H2 a = some (exo a C (some d)) ∧ H2 d = some (exd d fs) ∧ H1 d = none ∧ Q (.ref C) (some d) (upd (del H2 a) d (.xd fs))) E0
theorem pmk_Z {fI : Addr} (T : OexC X.K C) (iC : PySem.W.findIn X.K (.ref C) "__init__" = some (some (.ref fI))) (tI : PySem.W.typeIn X.K (.ref fI) = some (.type "function"))
    (F : FnG gd X.prog X.w X.K X.mg X.base k fI fd ps sp) (hr : Room (k + 1) X.A) (hgu : gd = true → X.A.guards = some []) (hb : Binds X.K fd ps []) (hg : Gl X x)
    (hm : X.mg x = some (.ref C)) (ha : PA X (e :: es) t) (hdb : (x == ("__debug__" : Str)) = false := by decide)
    (he : starEach (e :: es) X.env = (false, eval e X.env) :: starEach es X.env := by rfl) (hpl : (backTo pos (starEach es X.env)).any (·.1) = false := by rfl) :
    PMk X (.Call (.Name x p) (e :: es) [] pos) (zMkO C sp t) := by
  intro pins s σ H Q I h
  obtain ⟨nm, q, N, bs, bm, sn, sub, ab, col, dd, k0, k1, k2, k3, k5, hC, hbm⟩ := T.cls
  refine wpAny_Call_Name_kw (ld_glob I hg hm ?_ hdb)
  refine PySem.W.callWith_K (h₀ := X.base) I.ok.mod.kin T.kC (thn (ha.run pos pins s σ H _ I h) ?_) he hpl
  rintro us s1 ⟨vs, H1, I1, r1, hz, q1⟩
  refine ⟨I1.kIn, ?_⟩
  show wpAny _ _ (call (.ref C) us) _ _ _
  obtain ⟨hp, g, dr, tk, os⟩ := s1
  have hsz : hp.objs.size ≤ hp.objs.size + 1 := Nat.le_succ _
  have hq := q1 (hp.objs.size + 1) (I1.hok.fresh hsz)
  have kk : ∀ b o, hp.get? b = some o → ((hp.push (PySem.W.kdv_tup us)).push (PySem.HandSPX.excO C hp.objs.size)).get? b = some o :=
    fun b o z => Heap.get?_push_of_some _ (Heap.get?_push_of_some _ z)
  have hget : ((hp.push (PySem.W.kdv_tup us)).push (PySem.HandSPX.excO C hp.objs.size)).get? (hp.objs.size + 1) =
      some (PySem.HandSPX.excO C hp.objs.size) := by heap_get
  have I2 := I1.laid (t' := tk) (a := hp.objs.size + 1) (o := exo (hp.objs.size + 1) C none)
    (h' := (hp.push (PySem.W.kdv_tup us)).push (PySem.HandSPX.excO C hp.objs.size)) kk hsz (exo_ok hget)
  have r2 : Vals (V.ref (hp.objs.size + 1) :: vs) (Value.ref (hp.objs.size + 1) :: us) := .cons rfl r1
  have hl : (Value.ref (hp.objs.size + 1) :: us).length = ps.length := r2.length.symm.trans (F.len _ _ _ _ hq)
  have hus : us.length ≤ sizeLine := by
    rw [← Paired.length r1, sizeLine_eq]
    omega
  have bb := hb ⟨(hp.push (PySem.W.kdv_tup us)).push (PySem.HandSPX.excO C hp.objs.size), g, dr, tk, os⟩ (Value.ref (hp.objs.size + 1) :: us) I2.kIn (by rw [List.append_nil]; exact hl)
  rw [List.append_nil] at bb
  refine wpAny_call (PySem.HandSPX.call_own PySem.F.excBase_ValueError (fun Y => PySem.HandSPX.refsVE_contains Y bm hbm) (I1.kIn _ _ hC)
    (PySem.W.looks_findIn I1.kIn iC) (fun self => PySem.W.bind_fn I1.kIn self tI) hus
    (codeAny_mono (F.run _ X.stack _ _ ⟨Value.ref (hp.objs.size + 1) :: us, []⟩ _ _ _ E0 (hr.make C us []) (fun z => guards_make (hgu z)) (I2.env0.make C us []) bb r2 hq) fun r s' hq' => ?_))
  rcases r with er | fl
  · exact (show False by
      obtain ⟨_, _, _, _, _, _, _, _, _, _, _, _, z⟩ := hq'
      exact z).elim
  · cases fl with
    | ret u =>
      obtain ⟨v, H2, os2, bare2, un2, hok2, rv, ev, d, fs, ea, ed, hd1, q2⟩ := hq'
      subst ev
      obtain ⟨h2, g2, d2, t2, os'⟩ := s'
      exact ⟨rv, mk_end (raises_own T.exC T.tyC) I1 hsz kk un2 hok2 os2 bare2 ea ed hd1 q2⟩
    | next => exact hq'.elim
    | brk => exact hq'.elim
    | cont => exact hq'.elim
end
end Z
namespace Z
open PySem PySem.Spec PyProof.Rows L2

/-! ### isinstance by a built-in class -/
def knC (c : String) : Bool := c == "int" || c == "str" || c == "bool" || c == "list" || c == "tuple" || c == "dict"
/-- the kind of an object -/
def TyR (K : PySem.W.Frag) (H : Hp) (a : Addr) (t : String) : Prop :=
  (t = "list" ∧ ∃ xs, SqL K H a xs) ∨ (t = "tuple" ∧ ∃ xs, SqT K H a xs) ∨ (t = "dict" ∧ ((∃ kvs, H a = some (.dK kvs)) ∨ ∃ kvs, H a = some (.dT kvs)))
def zIsi (K : PySem.W.Frag) : List V → Hp → VK → Prop := fun xs H Q => match xs with
  | [.non, .ty c] => knC c = true ∧ Q (.bl false) H
  | [.bl _, .ty c] => knC c = true ∧ Q (.bl (c == "bool" || c == "int")) H
  | [.int _, .ty c] => knC c = true ∧ Q (.bl (c == "int")) H
  | [.str _, .ty c] => knC c = true ∧ Q (.bl (c == "str")) H
  | [.ref a, .ty c] => knC c = true ∧ ∃ t, TyR K H a t ∧ Q (.bl (c == t)) H
  | _ => False
theorem knC_cases {c : String} (h : knC c = true) : c = "int" ∨ c = "str" ∨ c = "bool" ∨ c = "list" ∨ c = "tuple" ∨ c = "dict" := by
  simpa [knC, or_assoc] using h
theorem TyR.ty {K : PySem.W.Frag} {H : Hp} {a : Addr} {t : String} (h : TyR K H a t) : TyX K H (.ref a) (.type t) ∧ (t = "list" ∨ t = "tuple" ∨ t = "dict") := by
  rcases h with ⟨rfl, xs, (h | ⟨o, h⟩) | ⟨o, its, n, h, h2, _⟩⟩ | ⟨rfl, xs, (h | ⟨o, h⟩) | ⟨o, its, n, h, h2, _⟩⟩ | ⟨rfl, ⟨kvs, h⟩ | ⟨kvs, h⟩⟩
  · exact ⟨.base (.lst h), .inl rfl⟩
  · exact ⟨.base (.frz h), .inl rfl⟩
  · exact ⟨.kList h h2, .inl rfl⟩
  · exact ⟨.base (.tup h), .inr (.inl rfl)⟩
  · exact ⟨.fTuple h, .inr (.inl rfl)⟩
  · exact ⟨.kTuple h h2, .inr (.inl rfl)⟩
  · exact ⟨.base (.dK h), .inr (.inr rfl)⟩
  · exact ⟨.base (.dT h), .inr (.inr rfl)⟩
theorem kit_tab (t c : String) (ht : t = "NoneType" ∨ t = "bool" ∨ t = "int" ∨ t = "str" ∨ t = "list" ∨ t = "tuple" ∨ t = "dict") (hc : knC c = true) :
    kitB t c = some (c == t || (c == "int" && t == "bool")) := by
  rcases ht with rfl | rfl | rfl | rfl | rfl | rfl | rfl <;> rcases knC_cases hc with rfl | rfl | rfl | rfl | rfl | rfl <;> decide +kernel
section
variable {X : Cx}
theorem call_isiZ : CallR X (.builtin "isinstance") (zIsi X.K) := by
  intro pins s σ H xs us Q I r h
  have go : ∀ (x : V) (c t : String), xs = [x, .ty c] → knC c = true → TyX X.K H x (.type t) →
      (t = "NoneType" ∨ t = "bool" ∨ t = "int" ∨ t = "str" ∨ t = "list" ∨ t = "tuple" ∨ t = "dict") →
      Q (.bl (c == t || (c == "int" && t == "bool"))) H → wpAny (model X.prog X.w) X.A (PySem.call (.builtin "isinstance") us) (EP X pins σ Q) X.xe s :=
    fun x c t e hc ty ht q => call_isi pins s σ H xs us Q I r ⟨x, .ty c, .type t, .type c, _, e, .ty c, ty, kit_ty (kit_tab t c ht hc), q⟩
  unfold zIsi at h
  split at h
  · rename_i c
    refine go _ c "NoneType" rfl h.1 (.base .non) (by simp) ?_
    have e : (c == "NoneType" || (c == "int" && "NoneType" == "bool")) = false := by rcases knC_cases h.1 with rfl | rfl | rfl | rfl | rfl | rfl <;> decide
    rw [e]; exact h.2
  · rename_i b c
    refine go _ c "bool" rfl h.1 (.base (.bl b)) (by simp) ?_
    have e : (c == "bool" || (c == "int" && "bool" == "bool")) = (c == "bool" || c == "int") := by rcases knC_cases h.1 with rfl | rfl | rfl | rfl | rfl | rfl <;> decide
    rw [e]; exact h.2
  · rename_i i c
    refine go _ c "int" rfl h.1 (.base (.int i)) (by simp) ?_
    have e : (c == "int" || (c == "int" && "int" == "bool")) = (c == "int") := by rcases knC_cases h.1 with rfl | rfl | rfl | rfl | rfl | rfl <;> decide
    rw [e]; exact h.2
  · rename_i z c
    refine go _ c "str" rfl h.1 (.base (.str z)) (by simp) ?_
    have e : (c == "str" || (c == "int" && "str" == "bool")) = (c == "str") := by rcases knC_cases h.1 with rfl | rfl | rfl | rfl | rfl | rfl <;> decide
    rw [e]; exact h.2
  · rename_i a c
    obtain ⟨hc, t, ty, q⟩ := h
    obtain ⟨ty, ht⟩ := ty.ty
    refine go _ c t rfl hc ty (by rcases ht with rfl | rfl | rfl <;> simp) ?_
    have e : (c == t || (c == "int" && t == "bool")) = (c == t) := by
      rcases ht with rfl | rfl | rfl <;> rcases knC_cases hc with rfl | rfl | rfl | rfl | rfl | rfl <;> decide
    rw [e]; exact q
  · exact h.elim
end

/-! ### repr of data -/
/-- a flat thing as data -/
def flatD : V → Option PyData
  | .non => some .none | .bl b => some (.bool b) | .int i => some (.int i) | .str x => some (.str x) | _ => none
theorem flatD_reads {h : Heap} {v : V} {u : Value} {d : PyData} (e : flatD v = some d) (r : RelV v u) : Reads h u d [] := by
  cases v <;> simp [flatD] at e <;> subst e
  · cases r; exact .none
  · cases r; exact .bool _
  · obtain ⟨t, rfl⟩ := r; exact .int _ _
  · obtain ⟨t, rfl⟩ := r; exact .str _ _
def keyD : Key → PyData
  | .inl i => .int i
  | .inr x => .str x
/-- data without dicts, or a dict of flat things -/
def DpR (K : PySem.W.Frag) (H : Hp) (x : V) (d : PyData) : Prop :=
  (Dp K H x d ∧ d.hasDict = false) ∨ ∃ a kvs kds, x = .ref a ∧ H a = some (.dK kvs) ∧ d = .dict kds ∧
    Paired (fun (p : Key × V) (q : PyData × PyData) => keyD p.1 = q.1 ∧ flatD p.2 = some q.2) kvs kds
theorem dict_reads {P : Program} {w : World} {h : Heap} {es : List DictEntry} {vs : List (Key × Value)} (hp : Pairs (mixKind P w) es vs) :
    ∀ {kvs : List (Key × V)} {kds : List (PyData × PyData)}, KV kvs vs → Paired (fun (p : Key × V) (q : PyData × PyData) => keyD p.1 = q.1 ∧ flatD p.2 = some q.2) kvs kds →
      ReadsAll h (es.map (·.key)) (kds.map (·.1)) [] ∧ ReadsAll h (es.map (·.val)) (kds.map (·.2)) [] := by
  induction hp with
  | nil =>
    intro kvs kds r q
    cases r
    cases q
    exact ⟨.nil, .nil⟩
  | cons h1 hv _ ih =>
    intro kvs kds r q
    cases r with
    | cons r1 r2 =>
      cases q with
      | cons q1 q2 =>
        obtain ⟨i1, i2⟩ := ih r2 q2
        obtain ⟨e1, rv⟩ := r1
        obtain ⟨e2, e3⟩ := q1
        rename_i en kv es' kvs' hpp p ps q qs
        have k1 : Reads h en.key q.1 [] := by
          rw [← e2, e1]
          rcases keyIs_shape h1 with ⟨i, t, ek, ev⟩ | ⟨x, t, ek, ev⟩
          · rw [ek, ev]
            exact .int _ _
          · rw [ek, ev]
            exact .str _ _
        have k2 : Reads h en.val q.2 [] := by
          rw [hv]
          exact flatD_reads e3 rv
        exact ⟨ReadsAll.cons (as := []) (bs := []) k1 i1, ReadsAll.cons (as := []) (bs := []) k2 i2⟩
section
variable {X : Cx} {pins : List (Addr × Obj)} {σ : St} {H : Hp} {s : Shared}
theorem DpR.reads (I : Inv X pins σ H s) {d : PyData} {v : V} {u : Value} (h : DpR X.K H v d) (r : RelV v u) : ∃ as, Reads s.heap u d as ∧ (d.hasDict = true → sysModules ∉ as) := by
  rcases h with ⟨h, hd⟩ | ⟨a, kvs, kds, rfl, ha, rfl, hp⟩
  · obtain ⟨as, q⟩ := Dp.reads I d v u h r
    exact ⟨as, q, fun z => by rw [hd] at z; exact absurd z Bool.false_ne_true⟩
  · cases r
    obtain ⟨_, hy, vs, rv, o, es, ep, e1, e2, e3, _, e5, _⟩ := (show ObjOk X.prog X.w H s.heap a (.dK kvs) from I.hok a _ ha)
    obtain ⟨r1, r2⟩ := dict_reads (h := s.heap) e5 rv hp
    refine ⟨_, Reads.dict e1 e2.1 e3 r1 r2, fun _ z => ?_⟩
    have z' : sysModules = a := by simpa using z
    rw [z'] at hy
    simp at hy
def zRepr (K : PySem.W.Frag) : List V → Hp → VK → Prop := fun xs H Q => ∃ x d, xs = [x] ∧ DpR K H x d ∧ d.showable = true ∧ d.depth ≤ 32 ∧ d.shown.length ≤ sizeLine ∧ Q (.str d.shown) H
theorem call_reprZ (hg : X.A.guards = some []) (hu : X.A.units + 64 < cLine) : CallR X (.builtin "repr") (zRepr X.K) := by
  intro pins s σ H xs us Q I r h
  obtain ⟨x, d, rfl, hd, hs, hdp, hz, q⟩ := h
  obtain ⟨u, rfl, ru⟩ := vals1 r
  obtain ⟨as, hr, hsm⟩ := hd.reads I ru
  cases hr with
  | none => exact PySem.P.repr_of_none ⟨.str _, H, I.tok _, ⟨_, rfl⟩, q⟩
  | bool b => exact PySem.P.repr_of_bool ⟨.str _, H, I.tok _, ⟨_, rfl⟩, q⟩
  | int i t => exact PySem.P.repr_of_int (by simpa [PyData.showable] using hs) ⟨.str _, H, I.tok _, ⟨_, rfl⟩, q⟩
  | str y t => exact PySem.P.repr_of_str ⟨.str _, H, I.tok _, ⟨_, rfl⟩, q⟩ (by simpa only [PyData.shown] using hz)
  | list h1 h2 h3 h4 =>
    exact PySem.repr_of_reads' (.list h1 h2 h3 h4) hs hsm hg (by omega) (fun _ _ z => z) (fun h' u tk hk => ⟨.str _, H, I.kept (t' := tk) hk, ⟨_, rfl⟩, q⟩) hz
  | tuple h1 h2 h3 h4 =>
    exact PySem.repr_of_reads' (.tuple h1 h2 h3 h4) hs hsm hg (by omega) (fun _ _ z => z) (fun h' u tk hk => ⟨.str _, H, I.kept (t' := tk) hk, ⟨_, rfl⟩, q⟩) hz
  | dict h1 h2 h3 h4 h5 =>
    exact PySem.repr_of_reads' (.dict h1 h2 h3 h4 h5) hs hsm hg (by omega) (fun _ _ z => z) (fun h' u tk hk => ⟨.str _, H, I.kept (t' := tk) hk, ⟨_, rfl⟩, q⟩) hz
end
end Z
namespace Z
open PySem PySem.Spec PyProof.Rows L2

/-! ### readings that reckon by themselves -/
theorem PE.to {X : Cx} {e : Expr} {t t' : TE} (h : PE X e t) (k : ∀ σ H Q, t' σ H Q → t σ H Q) : PE X e t' := ⟨fun pins s σ H Q I q => h.run pins s σ H Q I (k σ H Q q)⟩
theorem PT.to {X : Cx} {e : Expr} {t t' : TT} (h : PT X e t) (k : ∀ σ H Q, t' σ H Q → t σ H Q) : PT X e t' := ⟨fun pins s σ H Q I q => h.run pins s σ H Q I (k σ H Q q)⟩
theorem PS.to {X : Cx} {e : Stmt} {t t' : TS} (h : PS X e t) (k : ∀ D σ H, t' D σ H → t D σ H) : PS X e t' := ⟨fun pins s σ H D I q => h.run pins s σ H D I (k D σ H q)⟩
theorem CallR.to {X : Cx} {f : Value} {r r' : List V → Hp → VK → Prop} (h : CallR X f r) (k : ∀ xs H Q, r' xs H Q → r xs H Q) : CallR X f r' :=
  fun pins s σ H xs us Q I rv q => h pins s σ H xs us Q I rv (k xs H Q q)
def zVar (i : Nat) : TE := fun σ H Q => match σ[i]? with
  | some (some v) => Q v H
  | _ => False
def zTest (t : TE) : TT := fun σ H Q => t σ H fun x H' => match x with
  | .bl k => Q k H'
  | _ => False
def zTru (K : PySem.W.Frag) (t : TE) : TT := fun σ H Q => t σ H fun x H' => match x with
  | .non => Q false H'
  | .bl k => Q k H'
  | .int i => Q (i != 0) H'
  | x => ∃ k, TruV K x H' k ∧ Q k H'
def zAndV (ta tb : TE) : TE := fun σ H Q => ta σ H fun x H1 => match x with
  | .bl c => if c = true then tb σ H1 Q else Q (.bl false) H1
  | _ => False
def zOrV (ta tb : TE) : TE := fun σ H Q => ta σ H fun x H1 => match x with
  | .bl c => if c = true then Q (.bl true) H1 else tb σ H1 Q
  | _ => False
def zNotV (ta : TE) : TE := fun σ H Q => ta σ H fun x H1 => match x with
  | .bl c => Q (.bl (!c)) H1
  | _ => False
def zChain (r r' : R2) (ta tb tc : TE) : TE := fun σ H Q => ta σ H fun x H1 => tb σ H1 fun y H2 => r x y H2 fun z H3 => match z with
  | .bl k => if k = true then tc σ H3 fun w' H4 => r' y w' H4 Q else Q (.bl false) H3
  | _ => False
def zNeg (ta : TE) : TE := fun σ H Q => ta σ H fun x H1 => match x with
  | .int i => Q (.int (-i)) H1
  | _ => False
def zLen (K : PySem.W.Frag) : List V → Hp → VK → Prop := fun xs H Q => match xs with
  | [.str z] => z.length ≤ sizeLine ∧ Q (.int z.length) H
  | [.ref p] => ∃ ys, (SqL K H p ys ∨ SqT K H p ys) ∧ Q (.int ys.length) H
  | _ => False
def rAbs : List V → Hp → VK → Prop := fun xs H Q => match xs with
  | [.int i] => Q (.int (if i < 0 then -i else i)) H
  | _ => False
def rMx2 : List V → Hp → VK → Prop := fun xs H Q => match xs with
  | [.int i, .int j] => Q (.int (if j > i then j else i)) H
  | _ => False
def rMn2 : List V → Hp → VK → Prop := fun xs H Q => match xs with
  | [.int i, .int j] => Q (.int (if j < i then j else i)) H
  | _ => False
def rInt1 : List V → Hp → VK → Prop := fun xs H Q => match xs with
  | [.int i] => Q (.int i) H
  | [.bl k] => Q (.int (if k then 1 else 0)) H
  | _ => False
def rListOf (K : PySem.W.Frag) : List V → Hp → VK → Prop := fun xs H Q => match xs with
  | [.ref p] => ∃ ys, (SqL K H p ys ∨ SqT K H p ys) ∧ ∀ l, H l = none → Q (.ref l) (upd H l (.lst ys))
  | _ => False
def zRaise (W : WX) (C : Addr) (sp : Sp) (ta : TA) : TS := fun _ σ H => zMkO C sp ta σ H fun cls d H' => W cls d σ H'

/-! ### isinstance by a built-in class, the class known -/
inductive Kd where
  | int | str | bool | list | tuple | dict
  deriving DecidableEq
def Kd.nm : Kd → String
  | .int => "int" | .str => "str" | .bool => "bool" | .list => "list" | .tuple => "tuple" | .dict => "dict"
def Kd.isB : Kd → Bool
  | .bool => true | .int => true | _ => false
def Kd.isI : Kd → Bool
  | .int => true | _ => false
def Kd.isS : Kd → Bool
  | .str => true | _ => false
def KndR (K : PySem.W.Frag) (H : Hp) (a : Addr) : Kd → Prop
  | .list => ∃ xs, SqL K H a xs
  | .tuple => ∃ xs, SqT K H a xs
  | .dict => (∃ kvs, H a = some (.dK kvs)) ∨ ∃ kvs, H a = some (.dT kvs)
  | _ => False
def zIsiV (K : PySem.W.Frag) (k : Kd) (x : V) (H : Hp) (Q : VK) : Prop := match x with
  | .non => Q (.bl false) H
  | .bl _ => Q (.bl k.isB) H
  | .int _ => Q (.bl k.isI) H
  | .str _ => Q (.bl k.isS) H
  | .ref a => ∃ t, KndR K H a t ∧ Q (.bl (decide (t = k))) H
  | _ => False
def zIsiT (K : PySem.W.Frag) (k : Kd) (te : TE) : TE := fun σ H Q => te σ H fun x H1 => zIsiV K k x H1 Q
theorem KndR.ty {K : PySem.W.Frag} {H : Hp} {a : Addr} {t : Kd} (h : KndR K H a t) : TyR K H a t.nm := by
  cases t <;> first | exact h.elim | exact .inl ⟨rfl, h⟩ | exact .inr (.inl ⟨rfl, h⟩) | exact .inr (.inr ⟨rfl, h⟩)
theorem nm_kn (k : Kd) : knC k.nm = true := by cases k <;> decide +kernel
theorem nm_eq (k t : Kd) : (k.nm == t.nm) = decide (t = k) := by cases k <;> cases t <;> decide +kernel
theorem zIsiV_to {K : PySem.W.Frag} {k : Kd} {x : V} {H : Hp} {Q : VK} (h : zIsiV K k x H Q) : zIsi K [x, .ty k.nm] H Q := by
  cases x with
  | non => exact ⟨nm_kn k, h⟩
  | bl b =>
    refine ⟨nm_kn k, ?_⟩
    have e : (k.nm == "bool" || k.nm == "int") = k.isB := by cases k <;> decide +kernel
    rw [e]
    exact h
  | int i =>
    refine ⟨nm_kn k, ?_⟩
    have e : (k.nm == "int") = k.isI := by cases k <;> decide +kernel
    rw [e]
    exact h
  | str z =>
    refine ⟨nm_kn k, ?_⟩
    have e : (k.nm == "str") = k.isS := by cases k <;> decide +kernel
    rw [e]
    exact h
  | ref a =>
    obtain ⟨t, ht, q⟩ := h
    refine ⟨nm_kn k, t.nm, ht.ty, ?_⟩
    rw [nm_eq]
    exact q
  | byt _ => exact h.elim
  | flt _ => exact h.elim
  | ty _ => exact h.elim
section
variable {X : Cx} {x y : Str} {pos p p1 p2 : Pos} {e a b c : Expr} {rest : List Expr} {te ta tb tc : TE}
theorem zv (i : Nat) (hN : X.N[i]? = some x := by rfl) (hv : Vis X.env.scope x := by first | exact Or.inl rfl | exact Or.inr (Or.inl rfl) | exact Or.inr (Or.inr rfl))
    (hd : (x == ("__debug__" : Str)) = false := by decide) (hcd : (x == ("__classdict__" : Str)) = false := by decide) : PE X (.Name x pos) (zVar i) :=
  PE.to (pe_var hN hv hd hcd) fun σ H Q h => by
    unfold zVar at h
    split at h
    · rename_i v e
      exact ⟨v, e, h⟩
    · exact h.elim
theorem bl_eq {x : V} {R : Bool → Prop} : (match x with | .bl k => R k | _ => False) = ∃ k, x = .bl k ∧ R k := by
  apply propext
  constructor
  · intro h
    split at h
    · exact ⟨_, rfl, h⟩
    · exact h.elim
  · rintro ⟨k, rfl, h⟩
    exact h
theorem zTest_eq (t : TE) : zTest t = tTest t := by
  funext σ H Q
  exact congrArg (t σ H) (funext fun x => funext fun H' => bl_eq)
theorem zAndV_eq : zAndV ta tb = tAndV ta tb := by
  funext σ H Q
  exact congrArg (ta σ H) (funext fun x => funext fun H' => bl_eq)
theorem zOrV_eq : zOrV ta tb = tOrV ta tb := by
  funext σ H Q
  exact congrArg (ta σ H) (funext fun x => funext fun H' => bl_eq)
theorem zNotV_eq : zNotV ta = tNotV ta := by
  funext σ H Q
  exact congrArg (ta σ H) (funext fun x => funext fun H' => bl_eq)
theorem zChain_eq {r r' : R2} : zChain r r' ta tb tc = tChain r r' ta tb tc := by
  funext σ H Q
  refine congrArg (ta σ H) (funext fun x => funext fun H1 => congrArg (tb σ H1) (funext fun y => funext fun H2 => congrArg (r x y H2) (funext fun z => funext fun H3 => ?_)))
  exact bl_eq
theorem zTru_eq {K : PySem.W.Frag} : zTru K te = fun σ H Q => te σ H fun x H' => ∃ k, TruV K x H' k ∧ Q k H' := by
  funext σ H Q
  refine congrArg (te σ H) (funext fun x => funext fun H' => propext ?_)
  cases x with
  | non => exact ⟨fun h => ⟨_, rfl, h⟩, fun ⟨k, e, h⟩ => by cases e; exact h⟩
  | bl b => exact ⟨fun h => ⟨_, rfl, h⟩, fun ⟨k, e, h⟩ => by cases e; exact h⟩
  | int i => exact ⟨fun h => ⟨_, rfl, h⟩, fun ⟨k, e, h⟩ => by cases e; exact h⟩
  | str _ => exact Iff.rfl
  | byt _ => exact Iff.rfl
  | flt _ => exact Iff.rfl
  | ref _ => exact Iff.rfl
  | ty _ => exact Iff.rfl
theorem ptz_cmp {op : CmpOp} {r : R2} (ho : OpR X (compareOp op) r) (ha : PE X a ta) (hb : PE X b tb) (hm : behindInMarks op b = false) : PT X (.Compare a [op] [b] pos) (zTest (tOp r ta tb)) := by
  rw [zTest_eq]
  exact pt_cmpR ho ha hb hm
theorem pez_chain {op op' : CmpOp} {r r' : R2} (ho : OpR X (compareOp op) r) (ho' : OpR X (compareOp op') r') (ha : PE X a ta) (hb : PE X b tb) (hc : PE X c tc)
    (hm : lastMarks [op, op'] [b, c] = false := by with_unfolding_all rfl) : PE X (.Compare a [op, op'] [b, c] pos) (zChain r r' ta tb tc) := by
  rw [zChain_eq]
  exact pe_chain ho ho' ha hb hc hm
theorem ptz_chain {op op' : CmpOp} {r r' : R2} (ho : OpR X (compareOp op) r) (ho' : OpR X (compareOp op') r') (ha : PE X a ta) (hb : PE X b tb) (hc : PE X c tc)
    (hm : lastMarks [op, op'] [b, c] = false := by with_unfolding_all rfl) : PT X (.Compare a [op, op'] [b, c] pos) (zTest (zChain r r' ta tb tc)) := by
  rw [zTest_eq, zChain_eq]
  exact pt_chain ho ho' ha hb hc hm
theorem ptz_truth (ha : PE X a ta) (he : ∀ whole, isTrue a X.env whole = (do let v ← whole; standAt a.pos; holding [v] (truthy v))) : PT X a (zTru X.K ta) := by
  rw [zTru_eq]
  exact pt_truth ha he
theorem pez_and (ha : PE X a ta) (hb : PE X (.BoolOp .And (b :: rest) pos) tb) : PE X (.BoolOp .And (a :: b :: rest) pos) (zAndV ta tb) := by
  rw [zAndV_eq]
  exact pe_and ha hb
theorem pez_or (ha : PE X a ta) (hb : PE X (.BoolOp .Or (b :: rest) pos) tb) : PE X (.BoolOp .Or (a :: b :: rest) pos) (zOrV ta tb) := by
  rw [zOrV_eq]
  exact pe_or ha hb
theorem pez_not (ha : PE X a ta) : PE X (.UnaryOp .Not a pos) (zNotV ta) := by
  rw [zNotV_eq]
  exact pe_not ha
theorem pez_neg (ha : PE X a ta) : PE X (.UnaryOp .USub a pos) (zNeg ta) := by
  have e : zNeg ta = tUn (rU fun i => .int (-i)) ta := by
    funext σ H Q
    refine congrArg (ta σ H) (funext fun x => funext fun H1 => propext ⟨fun h => ?_, fun ⟨i, ei, h⟩ => by cases ei; exact h⟩)
    cases x with
    | int i => exact ⟨i, rfl, h⟩
    | _ => exact h.elim
  rw [e]
  exact pe_un un_neg ha
theorem pe_isi {kd : Kd} {fx cx : Str} (he : PE X e te) (hg : Gl X fx) (hm : X.mg fx = none) (hv : bootBuiltins fx = some (.builtin "isinstance"))
    (hc : Gl X cx) (hcm : X.mg cx = none) (hcv : bootBuiltins cx = some (.type kd.nm)) (h1 : fx ≠ "__name__" := by decide) (h2 : (fx == ("__debug__" : Str)) = false := by decide)
    (h3 : cx ≠ "__name__" := by decide) (h4 : (cx == ("__debug__" : Str)) = false := by decide)
    (h5 : starEach [e, .Name cx p2] X.env = (false, eval e X.env) :: starEach [.Name cx p2] X.env := by rfl) (h6 : (backTo pos (starEach [.Name cx p2] X.env)).any (·.1) = false := by rfl)
    (h7 : starEach [.Name cx p2] X.env = (false, eval (.Name cx p2) X.env) :: starEach [] X.env := by rfl) :
    PE X (.Call (.Name fx p1) [e, .Name cx p2] [] pos) (zIsiT X.K kd te) :=
  PE.to (pe_callB call_isiZ hg hm hv (pa_cons he (pa_cons (pe_bltn (v := .ty kd.nm) hc hcm hcv rfl h3 h4) pa_nil h7) h5) h1 h2 h5 h6) fun σ H Q h => by
    have e1 : (fun x H1 => zIsiV X.K kd x H1 Q) = fun x H1 => zIsi X.K [x, .ty kd.nm] H1 Q := by
      funext x H1
      refine propext ⟨zIsiV_to, fun h => ?_⟩
      cases x with
      | non => exact h.2
      | bl b =>
        have e : (kd.nm == "bool" || kd.nm == "int") = kd.isB := by cases kd <;> decide +kernel
        have q := h.2
        rw [e] at q
        exact q
      | int i =>
        have e : (kd.nm == "int") = kd.isI := by cases kd <;> decide +kernel
        have q := h.2
        rw [e] at q
        exact q
      | str i =>
        have e : (kd.nm == "str") = kd.isS := by cases kd <;> decide +kernel
        have q := h.2
        rw [e] at q
        exact q
      | ref i =>
        obtain ⟨_, t, ty, q⟩ := h
        rcases ty with ⟨rfl, z⟩ | ⟨rfl, z⟩ | ⟨rfl, z⟩
        · refine ⟨.list, z, ?_⟩
          rw [← nm_eq]
          exact q
        · refine ⟨.tuple, z, ?_⟩
          rw [← nm_eq]
          exact q
        · refine ⟨.dict, z, ?_⟩
          rw [← nm_eq]
          exact q
      | byt _ => exact h.elim
      | flt _ => exact h.elim
      | ty _ => exact h.elim
    show te σ H fun x H1 => zIsi X.K [x, .ty kd.nm] H1 Q
    rw [← e1]
    exact h
theorem pe_cint {i : Int} (hg : Gl X x) (h : ∃ t, X.mg x = some (.int i t)) (hd : (x == ("__debug__" : Str)) = false := by decide) : PE X (.Name x pos) (tC (.int i)) := by
  obtain ⟨t, h⟩ := h
  exact pe_glob hg h ⟨t, rfl⟩ hd
theorem pe_cstr {z : Str} (hg : Gl X x) (h : ∃ t, X.mg x = some (.str z t)) (hd : (x == ("__debug__" : Str)) = false := by decide) : PE X (.Name x pos) (tC (.str z)) := by
  obtain ⟨t, h⟩ := h
  exact pe_glob hg h ⟨t, rfl⟩ hd
theorem call_lenZ : CallR X (.builtin "len") (zLen X.K) := by
  intro pins s σ H xs us Q I r h
  unfold zLen at h
  split at h
  · exact call_len_str pins s σ H _ us Q I r ⟨_, rfl, h.1, h.2⟩
  · obtain ⟨ys, hq, q⟩ := h
    exact call_len_seq pins s σ H _ us Q I r ⟨_, ys, rfl, hq, q⟩
  · exact h.elim
theorem call_absZ : CallR X (.builtin "abs") rAbs := by
  intro pins s σ H xs us Q I r h
  unfold rAbs at h
  split at h
  · exact call_abs pins s σ H _ us Q I r ⟨_, rfl, h⟩
  · exact h.elim
theorem call_mx2 (hc : X.calm = true) : CallR X (.builtin "max") rMx2 := by
  intro pins s σ H xs us Q I r h
  unfold rMx2 at h
  split at h
  · exact call_max2 hc pins s σ H _ us Q I r ⟨_, _, rfl, h⟩
  · exact h.elim
theorem call_mn2 (hc : X.calm = true) : CallR X (.builtin "min") rMn2 := by
  intro pins s σ H xs us Q I r h
  unfold rMn2 at h
  split at h
  · exact call_min2 hc pins s σ H _ us Q I r ⟨_, _, rfl, h⟩
  · exact h.elim
theorem call_intZ : CallR X (.type "int") rInt1 := by
  intro pins s σ H xs us Q I r h
  unfold rInt1 at h
  split at h
  · exact call_int1 pins s σ H _ us Q I r (.inl ⟨_, rfl, h⟩)
  · exact call_int1 pins s σ H _ us Q I r (.inr ⟨_, rfl, h⟩)
  · exact h.elim
theorem call_listZ : CallR X (.type "list") (rListOf X.K) := by
  intro pins s σ H xs us Q I r h
  unfold rListOf at h
  split at h
  · obtain ⟨ys, hq, q⟩ := h
    exact call_list_of pins s σ H _ us Q I r ⟨_, ys, rfl, hq, q⟩
  · exact h.elim
end
end Z
namespace Z
open PySem PySem.Spec PyProof.Rows L2

/-! ### heaps -/
theorem Same.put {H : Hp} {p : Addr} {o : HO} (n : H p = none) : Same H (upd H p o) := fun b u e => by
  rw [upd_ne (ne_of_none e n)]
  exact e
/-- all stands but what is at p -/
def But (p : Addr) (H H' : Hp) : Prop := ∀ b o, H b = some o → b ≠ p → H' b = some o
theorem But.refl (p : Addr) (H : Hp) : But p H H := fun _ _ e _ => e
theorem But.same {p : Addr} {H H' : Hp} (s : Same H H') : But p H H' := fun b o e _ => s b o e
theorem But.trans {p : Addr} {H H1 H2 : Hp} (a : But p H H1) (b : But p H1 H2) : But p H H2 := fun c o e n => b c o (a c o e n) n
theorem But.put {p : Addr} {H : Hp} {o : HO} : But p H (upd H p o) := fun b u e n => by
  rw [upd_ne n]
  exact e
/-- behind a change of p alone, p being new since H0 -/
theorem But.old {p : Addr} {H0 H H' : Hp} (b : But p H H') (s : Same H0 H) (n : H0 p = none) : Same H0 H' := fun c o e => b c o (s c o e) (ne_of_none e n)

/-! ### tests -/
theorem zite {b : Bool} {A B : Prop} (h1 : b = true → A) (h2 : b = false → B) : if b = true then A else B := by
  cases b
  · exact h2 rfl
  · exact h1 rfl

/-! ### loops and comprehensions, what is walked once reckoned -/
def forGo (J : It) (g : TG) (tb : TS) (D : Ends) (σ : St) (H1 : Hp) : Prop := ∃ W : Nat → Nat → St → Hp → Prop, (∃ m, W 0 m σ H1) ∧ ∀ i m σ H, W i m σ H →
  (J.stop i H ∧ D.nx σ H) ∨ (J.go i H ∧ ∃ N : St → Hp → Prop, (∀ σ' H', N σ' H' → ∃ m', m' < m ∧ W (i + 1) m' σ' H') ∧
    ∀ x H', J.yld i H x H' → g x σ H' fun σ2 H2 => tb { D with nx := N, ct := N, bk := D.nx } σ2 H2)
def zFor (wi : TI) (g : TG) (tb : TS) : TS := fun D σ H => wi σ H fun J H1 => forGo J g tb D σ H1
def lcGo (J : It) (g : TG) (tt : TT) (te : TE) (vs : List Nat) (σ : St) (H1 : Hp) (Q : VK) : Prop := ∀ D, H1 D = none →
  ∃ W : Nat → Nat → Hp → Prop, (∃ m, W 0 m (upd H1 D (.lst []))) ∧ ∀ i m H, W i m H →
    (J.stop i H ∧ Q (.ref D) H) ∨ (J.go i H ∧ ∃ Nx : Hp → Prop, (∀ H', Nx H' → ∃ m', m' < m ∧ W (i + 1) m' H') ∧
      ∀ x H', J.yld i H x H' → g x (wipe σ vs) H' fun σ2 H2 => wipe σ2 vs = wipe σ vs ∧ tt σ2 H2 fun b H3 =>
        if b = true then te σ2 H3 fun y H4 => ∃ acc, H4 D = some (.lst acc) ∧ acc.length < sizeLine ∧ Nx (upd H4 D (.lst (acc ++ [y]))) else Nx H3)
def zLc (wi : TI) (g : TG) (tt : TT) (te : TE) (vs : List Nat) : TE := fun σ H Q => wi σ H fun J H1 => lcGo J g tt te vs σ H1 Q
section
variable {X : Cx}
theorem psz_for {tg iter : Expr} {body : List Stmt} {wi : TI} {g : TG} {tb : TS} {pos : Pos} (hp : PassesOwn (model X.prog X.w) X.A X.env X.xe) (hc : X.calm = true) (hi : PI X tg iter wi) (hg : PG X tg g)
    (hb : PSs X body tb) (hs : ∀ x, foldedSetIterable iter X.env x = pure x := by intro _; rfl) : PS X (.For tg iter body [] pos) (zFor wi g tb) :=
  ps_for hp hc hi hg hb hs
theorem pez_lc {elt tg iter : Expr} {ifs : List Expr} {scope : Scope} {own : List (Str × Nat)} {pos : Pos} {wi : TI} {g : TG} {tt : TT} {te : TE} (hc : X.calm = true) (hN : X.N.Nodup) (hi : PI X tg iter wi)
    (ok : BlkOk X.N X.env.scope scope own)
    (hg : ∀ (s : Shared) (H : Hp) (C : Addr) (cl : List (Str × Addr)) (fp : List Addr), PG (X.blk s H scope (compEnvC scope cl C X.env) fp) tg g)
    (ht : ∀ (s : Shared) (H : Hp) (C : Addr) (cl : List (Str × Addr)) (fp : List Addr), PTs (X.blk s H scope (compEnvC scope cl C X.env) fp) ifs tt)
    (he : ∀ (s : Shared) (H : Hp) (C : Addr) (cl : List (Str × Addr)) (fp : List Addr), PE (X.blk s H scope (compEnvC scope cl C X.env) fp) elt te)
    (hs : ∀ x, foldedSetIterable iter X.env x = pure x := by intro _; rfl) :
    PE X (.ListComp elt [⟨tg, iter, ifs, 0⟩] scope pos) (zLc wi g tt te (own.map (·.2))) := pe_lc hc hN hi ok hg ht he hs
theorem psz_setLc {i : Nat} {y : Str} {py : Pos} {elt tg iter : Expr} {ifs : List Expr} {scope : Scope} {own : List (Str × Nat)} {pos spos : Pos} {wi : TI} {g : TG} {tt : TT} {te : TE}
    (hc : X.calm = true) (hN : X.N.Nodup) (hy : X.N[i]? = some y) (hyl : X.env.scope.names.lookup y = some .local)
    (hsw : swapsWith (.ListComp elt [⟨tg, iter, ifs, 0⟩] scope pos) (some (.Name y py)) spos.line X.env = pure true) (hi : PI X tg iter wi) (ok : BlkOk X.N X.env.scope scope own)
    (hg : ∀ (s : Shared) (H : Hp) (C : Addr) (cl : List (Str × Addr)) (fp : List Addr), PG (X.blk s H scope (compEnvC scope cl C X.env) fp) tg g)
    (ht : ∀ (s : Shared) (H : Hp) (C : Addr) (cl : List (Str × Addr)) (fp : List Addr), PTs (X.blk s H scope (compEnvC scope cl C X.env) fp) ifs tt)
    (he : ∀ (s : Shared) (H : Hp) (C : Addr) (cl : List (Str × Addr)) (fp : List Addr), PE (X.blk s H scope (compEnvC scope cl C X.env) fp) elt te)
    (hs : ∀ x, foldedSetIterable iter X.env x = pure x := by intro _; rfl) :
    PS X (.Assign [.Name y py] (.ListComp elt [⟨tg, iter, ifs, 0⟩] scope pos) spos) (tAsg (zLc wi g tt te (own.map (·.2))) (gName i)) :=
  ps_setLc hc hN hy hyl hsw hi ok hg ht he hs
end
section
variable {J : It} {n : Nat} {G : Hp → Prop} {Y : Nat → Hp → V → Hp → Prop}
/-- a for by its invariant -/
theorem for_z (w : Walk J n G Y) {g : TG} {tb : TS} {D : Ends} {σ : St} {H : Hp} (Pv : Nat → St → Hp → Prop) (h0 : Pv 0 σ H) (hG : ∀ i σ H, i ≤ n → Pv i σ H → G H)
    (hs : ∀ i x σ H H', i < n → Pv i σ H → Y i H x H' → g x σ H' fun σ2 H2 => tb { D with nx := Pv (i + 1), ct := Pv (i + 1), bk := D.nx } σ2 H2) (hd : ∀ σ H, Pv n σ H → D.nx σ H) :
    forGo J g tb D σ H := for_it w Pv h0 hG hs hd
/-- a comprehension by an invariant of the heap -/
theorem lc_z (w : Walk J n G Y) {g : TG} {tt : TT} {te : TE} {vs : List Nat} {σ : St} {H1 : Hp} {Q : VK} (Pv : Addr → Nat → Hp → Prop) (h0 : ∀ D, H1 D = none → Pv D 0 (upd H1 D (.lst [])))
    (hG : ∀ D i H, H1 D = none → i ≤ n → Pv D i H → G H)
    (hs : ∀ D i x H H', H1 D = none → i < n → Pv D i H → Y i H x H' → g x (wipe σ vs) H' fun σ2 H2 => wipe σ2 vs = wipe σ vs ∧ tt σ2 H2 fun b H3 =>
      if b = true then te σ2 H3 fun y H4 => ∃ acc, H4 D = some (.lst acc) ∧ acc.length < sizeLine ∧ Pv D (i + 1) (upd H4 D (.lst (acc ++ [y]))) else Pv D (i + 1) H3)
    (hd : ∀ D H, H1 D = none → Pv D n H → Q (.ref D) H) : lcGo J g tt te vs σ H1 Q :=
  fun D hD => lc_it w (Qd := fun H => Q (.ref D) H) (Pv D) (h0 D hD) (fun i H => hG D i H hD) (fun i x H H' => hs D i x H H' hD) fun H => hd D H hD
/-- a comprehension whose elements change nothing -/
theorem lc_map (w : Walk J n G Y) {g : TG} {tt : TT} {te : TE} {vs : List Nat} {σ : St} {H1 : Hp} {Q : VK} (f : Nat → V) (hn : n ≤ sizeLine) (hG : ∀ H', Same H1 H' → G H')
    (hs : ∀ i x H H', i < n → Same H1 H → Y i H x H' → H' = H ∧ ∃ σ2, (∀ R : St → Hp → Prop, R σ2 H → g x (wipe σ vs) H R) ∧ wipe σ2 vs = wipe σ vs ∧
      (∀ R : Bool → Hp → Prop, R true H → tt σ2 H R) ∧ (∀ R : VK, R (f i) H → te σ2 H R))
    (hd : ∀ D, H1 D = none → Q (.ref D) (upd H1 D (.lst ((List.range n).map f)))) : lcGo J g tt te vs σ H1 Q := by
  refine lc_z w (fun D i H => H = upd H1 D (.lst ((List.range i).map f))) (fun D hD => rfl) (fun D i H hD _ e => ?_) (fun D i x H H' hD hi e y => ?_) (fun D H hD e => ?_)
  · subst e
    exact hG _ (Same.put hD)
  · subst e
    obtain ⟨e2, σ2, h1, h2, h3, h4⟩ := hs i x _ H' hi (Same.put hD) y
    subst e2
    refine h1 _ ⟨h2, h3 _ ?_⟩
    show te σ2 _ _
    refine h4 _ ⟨_, upd_same, by simp; omega, ?_⟩
    rw [upd_upd, List.range_succ, List.map_append]
    rfl
  · subst e
    exact hd D hD
end
end Z
namespace Z
open PySem PySem.Spec PyProof.Rows L2

/-! ### the law's end, for defs of this layer -/
theorem law_callZ {P : Program} {w : World} {K : PySem.W.Frag} {mg mb : Str → Option Value} {k : Nat} {fa a : Addr} {fd : FuncData} {x : Str} {sp : Sp} {s₁ : Shared} {vs : List Value} {ns : List Int}
    (KX : K.In s₁.heap) (hns : s₁.heap.Ns mainGlobals mg) (hb : s₁.heap.Ns builtinsNs mb) (hbb : ∀ x : Str, x ≠ "__name__" → mb x = bootBuiltins x) (hlim : s₁.heap.NoLimit) (hg : s₁.gens = #[])
    (ha : s₁.heap.get? a = some { cls := .type "list", data := .seq vs.toArray }) (hi : IntsAre vs ns) (hl : ns.length ≤ sizeLine) (hr : Room k callerA)
    (F : ∀ base : Heap, K.In base → base.Ns mainGlobals mg → FnZ P w K mg base k fa fd [x] sp) (hbind : ∀ (s : Shared) (u : Value), BindsTo s fd ⟨[u], []⟩ [(x, u)])
    (hsp : ∀ H : Hp, Only H → SqL K H a (ns.map V.int) → sp [.ref a] H (fun v _ => v = .bl true) fun _ _ _ => False) :
    codeAny (model P w) callerA (.call (.ref fa) ⟨[.ref a], []⟩) (fun r s' => r = .ok (.ret (.bool true)) ∧ OldK s₁.heap s'.heap ∧ s'.os = s₁.os ∧ AllBare s'.gens) s₁ := by
  have rv := vals_ints hi
  have lenV := hi.length
  have core : ∀ H : Hp, Only H → SqL K H a (ns.map V.int) → HOk P w H s₁.heap → (∀ b, H b ≠ none → b = a) → (H a ≠ none → K.lookup a = none) →
      codeAny (model P w) callerA (.call (.ref fa) ⟨[.ref a], []⟩) (fun r s' => r = .ok (.ret (.bool true)) ∧ OldK s₁.heap s'.heap ∧ s'.os = s₁.os ∧ AllBare s'.gens) s₁ := by
    intro H hO hS hok hA hK
    have base_of : ∀ {b : Addr} {o : Obj}, s₁.heap.get? b = some o → H b = none → (hidT s₁.heap H).get? b = some o := fun e n => hidT_get e n
    have noA : ∀ {b : Addr} {o : Obj} {es : Array DictEntry} {ep : Nat}, s₁.heap.get? b = some o → o.data = .dict es ep → H b = none := fun {b o es ep} e d => by
      cases q : H b with
      | none => rfl
      | some u =>
        have e' : b = a := hA b (by rw [q]; simp)
        subst e'
        rw [ha] at e; cases e
        have d' : Data.seq vs.toArray _ = Data.dict es ep := d
        cases d'
    have nsK : ∀ {b : Addr} {m : Str → Option Value}, s₁.heap.Ns b m → (hidT s₁.heap H).Ns b m := fun {b m} ⟨o, es, ep, e, d, r⟩ => ⟨o, es, ep, base_of e (noA e d), d, r⟩
    have hKb : K.In (hidT s₁.heap H) := fun b o e => base_of (KX b o e) (by
      cases q : H b with
      | none => rfl
      | some u =>
        have e' : b = a := hA b (by rw [q]; simp)
        subst e'
        rw [hK (by rw [q]; simp)] at e; cases e)
    have hM : Mod K mg (hidT s₁.heap H) := ⟨hKb, nsK hns, ⟨mb, nsK hb, hbb⟩, let ⟨mc, h1, h2⟩ := hlim; ⟨mc, nsK h1, h2⟩⟩
    have e0 : Env0 P w K mg (hidT s₁.heap H) callerA [] s₁ H := ⟨rfl, hM, fun b o e => of_hidT e, Nat.le_of_eq (hidT_size _ _), trivial, fun b hb => absurd (show b ∈ ([] : List Addr) from hb) (by simp), hok, .of_eq hg⟩
    refine codeAny_mono ((F _ hKb (nsK hns)).run callerA [] s₁ H ⟨[.ref a], []⟩ [.ref a] [.ref a] _ _ hr (fun _ => rfl) e0 (hbind s₁ (.ref a)) (.cons rfl .nil) (hsp H hO hS)) fun r s' h => ?_
    cases r with
    | error e =>
      obtain ⟨_, _, _, _, _, _, _, _, _, _, _, _, z⟩ := h
      exact False.elim z
    | ok fl =>
      cases fl with
      | next => exact False.elim h
      | brk => exact False.elim h
      | cont => exact False.elim h
      | ret u =>
        obtain ⟨v, H', os, bare, un, hok', r', q⟩ := h
        have q' : v = .bl true := q
        subst q'
        obtain rfl : u = Value.bool true := r'
        refine ⟨rfl, OldK.of_keep fun b o e => ?_, os, bare⟩
        cases q : H b with
        | none => exact un.keep b o e q (by intro z; exact absurd (show b ∈ ([] : List Addr) from z) (by simp)) (by simp)
        | some u =>
          rcases hO b with z | ⟨ob, xs, z⟩
          · rw [q] at z; cases z
          · have z2 := un.frzs b ob _ z
            obtain ⟨e1, _⟩ := hok b _ z
            obtain ⟨e2, _⟩ := hok' b _ z2
            rw [e] at e1; cases e1
            exact e2
  cases hk : K.lookup a with
  | some o =>
    have e := KX a o hk
    rw [ha] at e
    cases e
    refine core (fun _ => none) (fun _ => .inl rfl) (.inr ⟨_, vs.toArray, _, hk, rfl, rfl, rfl, by rw [List.size_toArray, lenV]; exact hl, by simpa using rv⟩) (fun b u z => by have z' : (none : Option HO) = some u := z; cases z') (fun b z => absurd rfl z) fun z => absurd rfl z
  | none =>
    refine core (fun b => if b = a then some (.frz { cls := .type "list", data := .seq vs.toArray } (.lst (ns.map V.int))) else none) (fun b => ?_) (.inl (.inr ⟨{ cls := .type "list", data := .seq vs.toArray }, if_pos rfl⟩)) (fun b u z => ?_) (fun b z => ?_) fun _ => hk
    · by_cases hb : b = a
      · exact .inr ⟨_, _, if_pos hb⟩
      · exact .inl (if_neg hb)
    · by_cases hb : b = a
      · have z' := (if_pos hb).symm.trans z
        cases z'
        subst hb
        exact ⟨ha, by rw [List.length_map]; exact hl, vs, _, rv, ha⟩
      · have z' := (if_neg hb).symm.trans z
        cases z'
    · by_cases hb : b = a
      · exact hb
      · exact absurd (if_neg hb) z
theorem walk_ofZ {l : PySem.W.OpenLaw} {n k : Nat} {q : Program} {loose : List Str} {XP : (Str → Option Value) → Heap → Prop} {YP : World → Heap → Prop} {d : DefRec} {K : Params → PySem.W.Frag} {sp : PySem.W.Frag → Sp} {x : Str}
    (hn : l.most = some n) (hn2 : n ≤ sizeLine) (hdf : d.params.defaults = []) (hr : Room k callerA)
    (hY : ∀ (w : World) (h : Heap), YP w h → (K w.params).In h)
    (F : ∀ (w : World) (mg : Str → Option Value) (fa : Addr) (h : Heap), (K w.params).In h → h.Ns mainGlobals mg → mg d.name = some (.ref fa) →
      ∃ fd : FuncData, (∀ (s : Shared) (u : Value), BindsTo s fd ⟨[u], []⟩ [(x, u)]) ∧
        ∀ base : Heap, (K w.params).In base → base.Ns mainGlobals mg → FnZ l.prog w (K w.params) mg base k fa fd [x] (sp (K w.params)))
    (hsp : ∀ (K : PySem.W.Frag) (H : Hp) (a : Addr) (ns : List Int), ns.length ≤ n → Only H → SqL K H a (ns.map V.int) → sp K [.ref a] H (fun v _ => v = .bl true) fun _ _ _ => False) :
    PySem.W.WalkO q loose XP YP l.row.toRowW d [] (fun f vs => PySem.call f vs) := by
  refine Att.attach_call hn hdf fun w s₀ s₁ mg mb fa o pm cd doc a vs ns G Y ho hd hcd hmg hobj hints hlen hg => ?_
  have KX := hY w _ Y
  obtain ⟨fd, hb, hF⟩ := F w mg fa _ KX G.T.g hmg
  exact law_callZ KX G.T.g G.T.b G.T.builtins G.T.nolimit hg hobj hints (Nat.le_trans hlen hn2) hr hF hb (fun H hO hS => hsp (K w.params) H a ns hlen hO hS)
/-- the promise of a law: whatever the script, True -/
def spLaw (K : PySem.W.Frag) : Sp := fun vs H Q E => ∃ (a : Addr) (ns : List Int), vs = [.ref a] ∧ SqL K H a (ns.map V.int) ∧ ns.length ≤ 63 ∧ ∀ H', Q (.bl true) H'
theorem law_walk {l : PySem.W.OpenLaw} {k : Nat} {q : Program} {loose : List Str} {XP : (Str → Option Value) → Heap → Prop} {YP : World → Heap → Prop} {d : DefRec} {K : Params → PySem.W.Frag} (hn : l.most = some 63) (hdf : d.params.defaults = []) (hr : Room k callerA)
    (hY : ∀ (w : World) (h : Heap), YP w h → (K w.params).In h)
    (F : ∀ (w : World) (mg : Str → Option Value) (fa : Addr) (h : Heap), (K w.params).In h → h.Ns mainGlobals mg → mg d.name = some (.ref fa) →
      ∃ fd : FuncData, (∀ (s : Shared) (u : Value), BindsTo s fd ⟨[u], []⟩ [("script", u)]) ∧
        ∀ base : Heap, (K w.params).In base → base.Ns mainGlobals mg → FnZ l.prog w (K w.params) mg base k fa fd ["script"] (spLaw (K w.params))) :
    PySem.W.WalkO q loose XP YP l.row.toRowW d [] (fun f vs => PySem.call f vs) :=
  walk_ofZ (n := 63) (k := k) (x := "script") (sp := spLaw) hn (by decide) hdf hr hY F fun _ _ a ns hl _ hS => ⟨a, ns, rfl, hS, hl, fun _ => rfl⟩
/-- «except C» names an error of the class at C itself -/
theorem exm_own {K : PySem.W.Frag} {C : Addr} (b : PySem.W.subIn K (.ref C) (.type "BaseException") = some true) (c : PySem.W.isClsIn K C = true) (t : PySem.W.typeIn K (.ref C) = some (.type "type")) (u : PySem.W.subIn K (.ref C) (.ref C) = some true) :
    PySem.W.exmOne K (.ref C) (.ref C) = some true := by
  have c' : (PySem.W.clsIn K C).isSome = true := c
  simp [PySem.W.exmOne, PySem.W.kitCls, b, c', t, u]
end Z
namespace Z
open PySem PySem.Spec PyProof.Rows L2

/-! ### enumerate(tuple) -/
theorem enum1_meets {v : Value} {o : Obj} {G : Heap → Prop} (B : Begins v o G) :
    Meets (Builtin.«enumerate.__new__» ⟨[.type "enumerate", v], []⟩) (fun _ R s => G s.heap ∧
      R (.ok (.ret (.ref (s.heap.push o).objs.size))) { s with heap := (s.heap.push o).push { cls := .type "enumerate", data := .fields #[.none, .bool false, .ref s.heap.objs.size, rawInt 0, .none, .none] } }) :=
  .of_wp fun prog w A R s hh => by
    obtain ⟨hp, g, d, tk, os⟩ := s
    obtain ⟨hG, hR⟩ := hh
    have hsub := sub_enumerate
    have it1 : ∀ {A' : Around} {E : Value → Shared → Prop} {Q : Value → Shared → Prop}, Q (.ref hp.objs.size) ⟨hp.push o, g, d, tk, os⟩ → wpAny (model prog w) A' (pyIter v) Q E ⟨hp, g, d, tk, os⟩ :=
      fun q => B.iter prog w _ _ _ _ hG q
    wp_walk using it1
    refine wpAny_stack_any fun _ => wpAny_pure ?_
    split
    · rename_i c _ _ _ _ _
      cases (c == Value.type "enumerate") <;>
      · wp_walk using it1
        exact ⟨_, rfl, hR⟩
    · wp_walk using it1
      exact ⟨_, rfl, hR⟩
theorem enum1_call {prog : Program} {w : World} {A : Around} {E : Value → Shared → Prop} {s : Shared} {v : Value} {o : Obj} {G : Heap → Prop} {Q : Value → Shared → Prop} (B : Begins v o G) (hG : G s.heap)
    (k : ∀ h', IsEnum h' (s.heap.objs.size + 1) s.heap.objs.size 0 .none → h'.get? s.heap.objs.size = some o → (∀ b u, s.heap.get? b = some u → h'.get? b = some u) → Q (.ref (s.heap.objs.size + 1)) { s with heap := h' }) :
    wpAny (model prog w) A (call (.type "enumerate") [v]) Q E s := by
  have z1 : (s.heap.push o).objs.size = s.heap.objs.size + 1 := Heap.size_push ..
  have e1 : IsEnum ((s.heap.push o).push { cls := .type "enumerate", data := .fields #[.none, .bool false, .ref s.heap.objs.size, rawInt 0, .none, .none] }) (s.heap.objs.size + 1) s.heap.objs.size 0 .none := by
    rw [← z1]
    exact Heap.get?_push_size _ rfl
  refine callType_new F.called_enumerate (by decide) (F.typeCall_enumerate_1 _) (F.newCall_enumerate_1 _) (fun obj => F.args_object_init_2 obj _) F.entry_enumerate_new (enum1_meets B) ⟨hG, ?_⟩
  show _ ∧ _
  rw [z1]
  exact ⟨⟨_, e1, rfl⟩, k _ e1 (Heap.get?_push_of_some _ (Heap.get?_push_size _ B.free)) fun b u x => Heap.get?_push_of_some _ (Heap.get?_push_of_some _ x)⟩
/-- the tuple at a, each item with its index in a new pair -/
def ZeT (K : PySem.W.Frag) (a : Addr) : It where
  go := fun i H => ∃ (xs : List V) (x : V), SqT K H a xs ∧ xs[i]? = some x
  yld := fun i H v H' => ∃ T x, v = .ref T ∧ H T = none ∧ H' = upd H T (.tup [.int (i : Nat), x]) ∧ ∀ xs, SqT K H a xs → xs[i]? = some x
  stop := fun i H => ∃ xs : List V, SqT K H a xs ∧ xs.length ≤ i
theorem isTup_tuple {h : Heap} {a : Addr} {its : Array Value} (p : IsTup h a its) : h.IsTuple a its := by
  obtain ⟨o, e, c, n, d⟩ := p
  exact ⟨o, e, c, n, d⟩
theorem turn_zeT {P : Program} {w : World} {K : PySem.W.Frag} {elts : List Expr} {kk : Nat} {tpos : Pos} (a e it : Addr) :
    Turn P w K (.Tuple elts kk tpos) (ZeT K a) [e, it] e (fun i h => (∃ old, IsEnum h e it ((i : Nat) : Int) old) ∧ h.IsTupleIter it a i ∧ e ≠ it) where
  mem := by simp
  obj := fun i h st b hb => by
    obtain ⟨⟨old, he⟩, ⟨o, ho, hc, hd⟩, _⟩ := st
    simp only [List.mem_cons, List.not_mem_nil, or_false] at hb
    rcases hb with rfl | rfl
    · exact ⟨_, he, fun v q => nomatch q⟩
    · exact ⟨o, ho, fun v q => by rw [hd] at q; cases q⟩
  keep := fun i h h' st k => by
    obtain ⟨⟨old, he⟩, hi, hne⟩ := st
    exact ⟨⟨old, k e (by simp) _ he⟩, hi.at fun o q => k it (by simp) o q, hne⟩
  item := by
    intro X hP hw hK hc i pins s σ H E I hf st hg
    subst hP hw hK
    obtain ⟨⟨old, he⟩, hit, hne⟩ := st
    obtain ⟨xs, x, hq, hx⟩ := hg
    obtain ⟨its, rv, p, _⟩ := I.tuple hq
    obtain ⟨u, hu, ru⟩ := rv.get hx
    have pt := isTup_tuple p
    have nai : a ≠ it := fun z => by
      obtain ⟨o1, e1, c1, _⟩ := pt
      obtain ⟨o2, e2, c2, _⟩ := hit
      rw [z, e2] at e1
      cases e1
      rw [c2] at c1
      exact absurd c1 (by decide)
    have nea : e ≠ a := fun z => by
      obtain ⟨o1, e1, c1, _⟩ := pt
      have e2 : s.heap.get? e = _ := he
      rw [z, e1] at e2
      obtain rfl := Option.some.inj e2
      exact absurd (show Value.type "enumerate" = Value.type "tuple" from c1) (by decide)
    have lte : e < s.heap.objs.size := Heap.lt_size he
    have lti : it < s.heap.objs.size := by obtain ⟨_, q, _⟩ := hit; exact Heap.lt_size q
    have lts : i < its.toArray.size := by
      have := (List.getElem?_eq_some_iff.mp hu).1
      simpa using this
    refine wpAny_pyNext_enum_itemC (Draws.tuple (A := X.A.in1) (I.ok.hd hc) it a nai its.toArray) he ⟨hit, pt⟩ lts hne (by simp [hne, nea]) fun y h' tk hy ho hst hT hsz hk => ?_
    obtain rfl : y = u := by
      have hy' : its[i]? = some y := by simpa using hy
      rw [hu] at hy'
      exact (Option.some.inj hy').symm
    refine ⟨_, rfl, wpAny_letOwnedTupleGo_enum (s := { s with heap := h', toks := tk + 1 }) ho fun h2 he2 sb => ?_⟩
    have hT2 : h2.get? s.heap.objs.size = some { cls := .type "tuple", data := .seq #[.int i tk, y] } := (sb.2 _ (Nat.ne_of_gt lte)).trans hT
    have new : ObjOk X.prog X.w (upd H s.heap.objs.size (.tup [.int (i : Nat), x])) h2 s.heap.objs.size (.tup [.int (i : Nat), x]) :=
      ⟨show 2 ≤ sizeLine by decide, [.int i tk, y], .cons ⟨_, rfl⟩ (.cons ru .nil), ⟨_, hT2, rfl, _, rfl⟩⟩
    have I1 : Inv X pins σ (upd H s.heap.objs.size (.tup [.int (i : Nat), x])) { s with heap := h2, toks := tk + 1 } :=
      I.turnedNew (ch := [e, it]) (fun b ob hb q => (sb.2 b (fun z => hb (by simp [z]))).trans (hk b ob (fun z => hb (by simp [z])) (fun z => hb (by simp [z])) q)) hf (Nat.le_refl _) new
    refine ⟨.ref s.heap.objs.size, _, I1, rfl, ⟨_, x, rfl, I.hok.fresh (Nat.le_refl _), rfl, fun ys hy2 => by rw [I.tuple_inj hy2 hq]; exact hx⟩, ⟨⟨y, ?_⟩, hst.1.at fun o q => (sb.2 it (Ne.symm hne)).trans q, hne⟩, fun b hb => ?_⟩
    · have e1 : ((i + 1 : Nat) : Int) = (i : Int) + 1 := by omega
      rw [e1]
      exact he2
    · have lt : b < s.heap.objs.size := by
        simp only [List.mem_cons, List.not_mem_nil, or_false] at hb
        rcases hb with rfl | rfl
        · exact lte
        · exact lti
      rw [upd_ne (Nat.ne_of_lt lt)]
      exact (hf b hb).1
  done := by
    intro X hP hw hK hc i pins s σ H E I hf st hg
    subst hP hw hK
    obtain ⟨⟨old, he⟩, hit, hne⟩ := st
    obtain ⟨xs, hq, hx⟩ := hg
    obtain ⟨its, rv, p, _⟩ := I.tuple hq
    have pt := isTup_tuple p
    obtain ⟨f0, f1, f2, f3, f4, f5⟩ := hf it (by simp)
    have hl := rv.length
    have T := I.ok.hd hc
    have fin : ∀ h', Heap.ExtBut it s.heap h' → Inv X pins σ H { s with heap := h' } := fun h' eb => I.turned (t' := s.toks) (fun b o hb q => eb b o hb q) f0 f1 f3 f4 f5
    have D : Draws X.prog X.w X.A.in1 it [it, a] i (fun _ _ => True) (fun k h => k = i ∧ h.IsTupleIter it a i ∧ h.IsTuple a its.toArray) := {
      live := fun _ _ z => let ⟨o, ho, _⟩ := z.2.1; ⟨o, ho⟩
      frame := fun _ _ _ z hk => ⟨z.1, z.2.1.at fun o q => hk it (by simp) o q, z.2.2.at fun o q => hk a (by simp) o q⟩
      item := fun k _ _ _ lt z _ => absurd z.1 (Nat.ne_of_lt lt)
      done := fun s' Q' E' z hE => wpAny_nextOf_tuple_end (A := X.A.in1) T z.2.1 z.2.2 (by simp; omega) hE }
    exact wpAny_pyNext_enum_endD D he ⟨rfl, hit, pt⟩ fun h' eb => ⟨rfl, fin h' eb⟩
  self := fun A i s Q E st h => by
    obtain ⟨⟨_, he⟩, _⟩ := st
    exact wpAny_pyIter_enum he h
/-- enumerate of a list or of a tuple -/
def zEnum (K : PySem.W.Frag) (ta : TA) : TI := fun σ H R => ta σ H fun vs H1 => ∃ a xs, vs = [.ref a] ∧ ((SqL K H1 a xs ∧ R (Ite K a) H1) ∨ (SqT K H1 a xs ∧ R (ZeT K a) H1))
theorem pi_zEnum {X : Cx} {e : Expr} {ta : TA} {p pos tpos : Pos} {elts : List Expr} {kk : Nat} (hg : Gl X "enumerate") (hm : X.mg "enumerate" = none) (ha : PA X [e] ta) (hs : starEach [e] X.env = [(false, eval e X.env)] := by rfl) :
    PI X (.Tuple elts kk tpos) (.Call (.Name "enumerate" p) [e] [] pos) (zEnum X.K ta) := by
  constructor
  intro pins s σ H R I h
  refine Call_ (ld_blt I hg hm boot_enumerate (PyProof.Rows.callWith_type1 (thn (ha.run pos pins s σ H _ I h) ?_) hs rfl))
  rintro us s1 ⟨vs, H1, I1, r1, a, xs, rfl, q⟩
  cases r1 with
  | cons r rr =>
    cases rr
    cases r
    have foot : ∀ b ∈ [s1.heap.objs.size + 1, s1.heap.objs.size], FpOk X pins H1 b := fun b hb => by
      have le : s1.heap.objs.size ≤ b := by
        simp only [List.mem_cons, List.not_mem_nil, or_false] at hb
        omega
      exact I1.fpOk le (I1.hok.fresh le)
    rcases q with ⟨hq, q⟩ | ⟨hq, q⟩
    · obtain ⟨its, rv, p', hz⟩ := I1.list hq
      refine call_enumerate_list p'.isList fun h' he hit hsz hk => wpAny_pyIter_enum he ?_
      exact ⟨s1.heap.objs.size + 1, [s1.heap.objs.size + 1, s1.heap.objs.size], _, _, H1, rfl, I1.kept (t' := s1.toks) hk, turn_enum a (s1.heap.objs.size + 1) s1.heap.objs.size, ⟨⟨.none, he⟩, hit, Nat.succ_ne_self _⟩, foot, q⟩
    · obtain ⟨its, rv, p', hz⟩ := I1.tuple hq
      refine enum1_call (begins_tuple a its.toArray) (isTup_tuple p') fun h' he hit hk => wpAny_pyIter_enum he ?_
      exact ⟨s1.heap.objs.size + 1, [s1.heap.objs.size + 1, s1.heap.objs.size], _, _, H1, rfl, I1.kept (t' := s1.toks) hk, turn_zeT a (s1.heap.objs.size + 1) s1.heap.objs.size, ⟨⟨.none, he⟩, ⟨_, hit, rfl, rfl⟩, Nat.succ_ne_self _⟩, foot, q⟩
theorem walk_zeT {K : PySem.W.Frag} {a : Addr} {xs : List V} : Walk (ZeT K a) xs.length (fun H => SqT K H a xs) (YPair (fun i => some (.int (i : Nat))) (fun i => xs[i]?)) := by
  refine ⟨fun i _ hi q => ⟨xs, xs[i], q, by simp [hi]⟩, fun _ q => ⟨xs, q, Nat.le_refl _⟩, fun i H v H' _ q y => ?_⟩
  obtain ⟨T, x, h1, h2, h3, h4⟩ := y
  exact ⟨T, .int (i : Nat), x, h1, h2, h3, rfl, h4 xs q⟩
end Z
namespace Z
open PySem PySem.Spec PyProof.Rows L2

/-! ### {e for x in xs if t}: a set of keys (texts, ints) -/
def scGo (P : Program) (w : World) (J : It) (g : TG) (tt : TT) (te : TE) (vs : List Nat) (σ : St) (H1 : Hp) (Q : VK) : Prop := ∀ D, H1 D = none →
  ∃ W : Nat → Nat → Hp → Prop, (∃ m, W 0 m (upd H1 D (SetK P w D (fun _ => false) 0))) ∧ ∀ i m H, W i m H →
    (J.stop i H ∧ Q (.ref D) H) ∨ (J.go i H ∧ ∃ Nx : Hp → Prop, (∀ H', Nx H' → ∃ m', m' < m ∧ W (i + 1) m' H') ∧
      ∀ x H', J.yld i H x H' → g x (wipe σ vs) H' fun σ2 H2 => wipe σ2 vs = wipe σ vs ∧ tt σ2 H2 fun b H3 =>
        if b = true then te σ2 H3 fun y H4 => rSAddK P w (.ref D) [y] H4 fun _ H5 => Nx H5 else Nx H3)
def zSc (P : Program) (w : World) (wi : TI) (g : TG) (tt : TT) (te : TE) (vs : List Nat) : TE := fun σ H Q => wi σ H fun J H1 => scGo P w J g tt te vs σ H1 Q
/-- an empty set -/
abbrev set0 (w : World) : Obj := { cls := .type "set", dict := none, data := .set #[] 0 (.fresh 0 0 (!w.params.followText "set-order")) }
theorem set0_key {P : Program} {w : World} {h : Heap} : (h.push (set0 w)).SetOf (mixKind P w) h.objs.size (fun _ => false) 0 := by
  refine ⟨_, #[], 0, _, Heap.get?_push_size _ rfl, ⟨rfl, rfl, rfl⟩, rfl, ?_, ?_, by decide, rfl, rfl⟩
  · intro e he
    simp at he
  · intro k
    simp
section
variable {X : Cx} {elt tg iter : Expr} {ifs : List Expr} {scope : Scope} {own : List (Str × Nat)} {wi : TI} {g : TG} {tt : TT} {te : TE}
/-- where the block runs -/
abbrev blkAt (X : Cx) (s : Shared) (H : Hp) (scope : Scope) (fp : List Addr) : Cx :=
  X.blk s H scope (compEnvC scope (cellsFrom (s.heap.objs.size + 1) scope.names (cloFrom X.env.cells scope.names [])) s.heap.objs.size X.env) fp
abbrev InBlk (X : Cx) (scope : Scope) (e : Expr → Cx → Prop) (a : Expr) : Prop := ∀ (s : Shared) (H : Hp) (C : Addr) (cl : List (Str × Addr)) (fp : List Addr), e a (X.blk s H scope (compEnvC scope cl C X.env) fp)
theorem sc_turns {s3 : Shared} {fp : List Addr} {it D : Addr} {ce : Env} {J : It} {tn : Nat → Heap → Prop} {vs : List Nat} {σ : St} {Q : VK} {pos : Pos} {s4 : Shared} {m0 : Nat} {H3 : Hp} {R : Result → Shared → Prop} {W : Nat → Nat → Hp → Prop}
    (hc : X.calm = true) (T : Turn X.prog X.w X.K tg J fp it tn) (hg : PG (X.blk s3 H3 scope ce fp) tg g) (ht : PTs (X.blk s3 H3 scope ce fp) ifs tt) (he : PE (X.blk s3 H3 scope ce fp) elt te)
    (turn : ∀ i m H, W i m H → (J.stop i H ∧ Q (.ref D) H) ∨ (J.go i H ∧ ∃ Nx : Hp → Prop, (∀ H', Nx H' → ∃ m', m' < m ∧ W (i + 1) m' H') ∧
      ∀ x H', J.yld i H x H' → g x (wipe σ vs) H' fun σ2 H2 => wipe σ2 vs = wipe σ vs ∧ tt σ2 H2 fun b H3 =>
        if b = true then te σ2 H3 fun y H4 => rSAddK X.prog X.w (.ref D) [y] H4 fun _ H5 => Nx H5 else Nx H3))
    (I4 : Inv (X.blk s3 H3 scope ce fp) [] (wipe σ vs) H3 s4) (st4 : tn 0 s4.heap) (nfp : ∀ b ∈ fp, H3 b = none) (w0 : W 0 m0 H3)
    (out : ∀ H5 s6, Inv (X.blk s3 H3 scope ce fp) [] (wipe σ vs) H5 s6 → Q (.ref D) H5 → R (.ok .next) s6) :
    codeAny (model X.prog X.w) X.A (.compLoop (.SetComp elt [⟨tg, iter, ifs, 0⟩] scope pos) 0 (.ref it) (.ref D) ce) R s4 := by
  refine PpSet.compLoopS_any (fun n s' => ∃ i H', Inv (X.blk s3 H3 scope ce fp) [] (wipe σ vs) H' s' ∧ tn i s'.heap ∧ (∀ b ∈ fp, H' b = none) ∧ W i n H') ?_ m0 ⟨0, H3, I4, st4, nfp, w0⟩
  have stat : ∀ {σ' : St} {H' : Hp} {s' : Shared}, Inv (X.blk s3 H3 scope ce fp) [] σ' H' s' → (∀ b ∈ fp, H' b = none) → ∀ b ∈ fp, FpOk (X.blk s3 H3 scope ce fp) [] H' b := by
    intro σ' H' s' I' hn b hb
    obtain ⟨x1, x2⟩ := I'.ok.exf b hb
    refine ⟨hn b hb, x1, I'.ok.exfs b hb, .inl hb, fun x c e => x2 x c e, fun p hp => ?_⟩
    simp at hp
  rintro n s5 ⟨i, H5, I5, st5, n5, w5⟩
  rcases turn i n H5 w5 with ⟨stop, qq⟩ | ⟨go, Nx, hNx, step⟩
  · refine thnF (T.done (X.blk s3 H3 scope ce fp) rfl rfl rfl hc i [] s5 _ H5 (fun _ _ => False) I5 (stat I5 n5) st5 stop) ?_
    rintro r s6 ⟨rfl, I6⟩
    exact out H5 s6 I6 qq
  · refine thnF (T.item (X.blk s3 H3 scope ce fp) rfl rfl rfl hc i [] s5 _ H5 (fun _ _ => False) I5 (stat I5 n5) st5 go) ?_
    rintro r s6 ⟨u, rfl, h6⟩
    refine thnF h6 ?_
    rintro _ s7 ⟨x, H7, I7, r7, y7, st7, n7⟩
    have I7' := I7.pinned (stat I7 n7) (T.obj _ _ st7)
    refine thnF (hg.run _ s7 _ H7 x u _ I7' r7 (step x H7 y7)) ?_
    rintro _ s8 ⟨σ8, H8, I8, hw8, q8⟩
    refine thnF (ht.run _ s8 σ8 H8 _ I8 q8) ?_
    rintro b s9 ⟨H9, I9, q9⟩
    have fin : ∀ {s' : Shared} {H' : Hp}, Inv (X.blk s3 H3 scope ce fp) ([] ++ pinsAt fp s7.heap) σ8 H' s' → Nx H' →
        ∃ m, m < n ∧ ∃ i H', Inv (X.blk s3 H3 scope ce fp) [] (wipe σ vs) H' s' ∧ tn i s'.heap ∧ (∀ b ∈ fp, H' b = none) ∧ W i m H' := by
      intro s' H' I' nx
      obtain ⟨m', hm, w'⟩ := hNx H' nx
      have pin' : ∀ b ∈ fp, ∀ o, s7.heap.get? b = some o → s'.heap.get? b = some o ∧ H' b = none := fun b hb o e => by
        obtain ⟨z1, z2, _⟩ := I'.pin (b, o) (List.mem_append_right _ (List.mem_append_right _ (mem_pinsAt hb e)))
        exact ⟨z1, z2⟩
      have hl : (wipe σ vs).length = σ8.length := by rw [← hw8, wipe_length]
      refine ⟨m', hm, i + 1, H', (I'.unpinned (pins := [])).weak hl ?_, T.keep _ _ _ st7 fun b hb o e => (pin' b hb o e).1, ?_, w'⟩
      · intro j v e
        rw [← hw8] at e
        exact (wipe_some e).1
      · intro b hb
        obtain ⟨o, e, _⟩ := T.obj _ _ st7 b hb
        exact (pin' b hb o e).2
    cases b
    · simp only [Bool.false_eq_true, if_false] at q9 ⊢
      exact fin I9 q9
    · simp only [if_true] at q9 ⊢
      refine thnF (he.run _ s9 σ8 H9 _ I9 q9) ?_
      rintro z s10 ⟨yv, H10, I10, r10, q10⟩
      refine thnF (mt_saddK _ s10 σ8 H10 (.ref D) [yv] (.ref D) [z] _ I10 rfl (.cons r10 .nil) q10) ?_
      rintro _ s11 ⟨_, H11, I11, _, nx⟩
      exact fin I11 nx
theorem sc_run {pins : List (Addr × Obj)} {s : Shared} {σ : St} {H : Hp} {Q : VK} {pos pos' : Pos} {use : Option (Value → Sem Unit)} {Qf : Value → Shared → Prop} (hc : X.calm = true) (hN : X.N.Nodup) (I : Inv X pins σ H s) (hi : PI X tg iter wi) (ok : BlkOk X.N X.env.scope scope own)
    (hg : ∀ (s : Shared) (H : Hp) (C : Addr) (cl : List (Str × Addr)) (fp : List Addr), PG (X.blk s H scope (compEnvC scope cl C X.env) fp) tg g)
    (ht : ∀ (s : Shared) (H : Hp) (C : Addr) (cl : List (Str × Addr)) (fp : List Addr), PTs (X.blk s H scope (compEnvC scope cl C X.env) fp) ifs tt)
    (he : ∀ (s : Shared) (H : Hp) (C : Addr) (cl : List (Str × Addr)) (fp : List Addr), PE (X.blk s H scope (compEnvC scope cl C X.env) fp) elt te)
    (hs : ∀ x, foldedSetIterable iter X.env x = pure x) (h : zSc X.prog X.w wi g tt te (own.map (·.2)) σ H Q)
    (done : ∀ D C s' m H', Inv X pins σ H' s' → Q (.ref D) H' → s'.heap.Ns C m → FpOk X pins H' C → compPost (model X.prog X.w) X.A X.xe use Qf (.ref D) C (.ok .next) s') :
    wpAny (model X.prog X.w) X.A (comprehension (.SetComp elt [⟨tg, iter, ifs, 0⟩] scope pos) scope X.env pos' (newSet (.type "set")) false (eval iter X.env) use) Qf X.xe s := by
  have hfree : ∀ y ∈ scope.names, y.2 = .free → ∃ c, X.env.cells.lookup y.1 = some c := by
    intro y hy e
    rcases ok.free y hy e with k | k
    · exact I.ok.has _ (.inl k)
    · exact I.ok.has _ (.inr k)
  refine wpAny_comprehension_free (use := use) rfl hs (closure_ok hfree) ok.kind (fun y hy e => by rw [ok.uniq y hy, e]) (thn (hi.run pins s σ H _ I h) fun xv s1 hx => thn hx ?_)
  rintro itv s2 ⟨it, fp, tn, J, H2, rfl, I2, T, st2, f2, q⟩
  refine PpSet.newSet_ok (newEnv_comp ?_)
  have hDn : H2 s2.heap.objs.size = none := I2.hok.fresh (Nat.le_refl _)
  obtain ⟨W, ⟨m0, w0⟩, turn⟩ := q _ hDn
  -- the new set is known
  have I3 : Inv X pins σ (upd H2 s2.heap.objs.size (SetK X.prog X.w s2.heap.objs.size (fun _ => false) 0)) { s2 with heap := s2.heap.push (set0 X.w) } :=
    I2.laid (t' := s2.toks) (fun b o e => Heap.get?_push_of_some _ e) (Nat.le_refl _) (setK_new set0_key)
  have f3 : ∀ b ∈ fp, FpOk X pins (upd H2 s2.heap.objs.size (SetK X.prog X.w s2.heap.objs.size (fun _ => false) 0)) b ∧ b < (s2.heap.push (set0 X.w)).objs.size := by
    intro b hb
    obtain ⟨o, e, _⟩ := T.obj _ _ st2 b hb
    have lt := Heap.lt_size e
    refine ⟨⟨?_, (f2 b hb).2⟩, by rw [Heap.size_push]; exact Nat.lt_succ_of_lt lt⟩
    rw [upd_ne (Nat.ne_of_lt lt)]
    exact (f2 b hb).1
  have st3 : tn 0 (s2.heap.push (set0 X.w)) := T.keep _ _ _ st2 fun b _ o e => Heap.get?_push_of_some _ e
  generalize hs3 : ({ s2 with heap := s2.heap.push (set0 X.w) } : Shared) = s3 at I3
  have h3 : s3.heap = s2.heap.push (set0 X.w) := by rw [← hs3]
  rw [← h3] at f3 st3
  generalize hH3 : upd H2 s2.heap.objs.size (SetK X.prog X.w s2.heap.objs.size (fun _ => false) 0) = H3 at I3 f3 w0
  have I4 := block_start I3 ok hN f3
  show codeAny _ _ (.compStart (.SetComp elt [⟨tg, iter, ifs, 0⟩] scope pos) 0 (.ref it) (.ref s2.heap.objs.size) (compEnvC scope (cellsFrom (s3.heap.objs.size + 1) scope.names (cloFrom X.env.cells scope.names [])) s3.heap.objs.size X.env)) (compPost (model X.prog X.w) X.A X.xe use Qf (.ref s2.heap.objs.size) s3.heap.objs.size) { s3 with heap := pushCells (s3.heap.push { cls := .type "dict", data := .dict #[] }) scope.names }
  have st4 : tn 0 (pushCells (s3.heap.push { cls := .type "dict", data := .dict #[] }) scope.names) := T.keep _ _ _ st3 fun b _ o e => pushCells_keeps _ _ _ _ (Heap.get?_push_of_some _ e)
  have nfp : ∀ b ∈ fp, H3 b = none := fun b hb => (f3 b hb).1.1
  have pg := hg s3 H3 s3.heap.objs.size (cellsFrom (s3.heap.objs.size + 1) scope.names (cloFrom X.env.cells scope.names [])) fp
  have pt := ht s3 H3 s3.heap.objs.size (cellsFrom (s3.heap.objs.size + 1) scope.names (cloFrom X.env.cells scope.names [])) fp
  have pe := he s3 H3 s3.heap.objs.size (cellsFrom (s3.heap.objs.size + 1) scope.names (cloFrom X.env.cells scope.names [])) fp
  generalize hce : compEnvC scope (cellsFrom (s3.heap.objs.size + 1) scope.names (cloFrom X.env.cells scope.names [])) s3.heap.objs.size X.env = ce at I4 pg pt pe ⊢
  have cL : ce.locals = s3.heap.objs.size := by
    rw [← hce]
    rfl
  have out : ∀ H5 s6, Inv (X.blk s3 H3 scope ce fp) [] (wipe σ (own.map (·.2))) H5 s6 → Q (.ref s2.heap.objs.size) H5 →
      compPost (model X.prog X.w) X.A X.xe use Qf (.ref s2.heap.objs.size) s3.heap.objs.size (.ok .next) s6 := by
    intro H5 s6 I6 qq
    have I7 : Inv X pins σ H5 s6 := I3.call' (ch := fp) I6.os I6.base I6.hok I6.bare fun b hb => by
      obtain ⟨⟨_, g1, _, g3, g4, g5⟩, _⟩ := f3 b hb
      exact ⟨g3, g1, g4, g5⟩
    have nC : H5 s3.heap.objs.size = none := by
      have z : H5 ce.locals = none := I6.free
      rwa [cL] at z
    obtain ⟨m, hn, _⟩ := I6.loc
    have hn : s6.heap.Ns ce.locals m := hn
    rw [cL] at hn
    exact done _ _ s6 m H5 I7 qq hn (I3.fpOk (Nat.le_refl _) nC)
  have loop := sc_turns (elt := elt) (iter := iter) (pos := pos) hc T pg pt pe turn I4 st4 nfp w0 out
  exact PpSet.codeAny_compStart_set loop (T.self X.A 0 _ _ _ st4 loop)
theorem pez_sc {pos : Pos} (hc : X.calm = true) (hN : X.N.Nodup) (hi : PI X tg iter wi) (ok : BlkOk X.N X.env.scope scope own)
    (hg : ∀ (s : Shared) (H : Hp) (C : Addr) (cl : List (Str × Addr)) (fp : List Addr), PG (X.blk s H scope (compEnvC scope cl C X.env) fp) tg g)
    (ht : ∀ (s : Shared) (H : Hp) (C : Addr) (cl : List (Str × Addr)) (fp : List Addr), PTs (X.blk s H scope (compEnvC scope cl C X.env) fp) ifs tt)
    (he : ∀ (s : Shared) (H : Hp) (C : Addr) (cl : List (Str × Addr)) (fp : List Addr), PE (X.blk s H scope (compEnvC scope cl C X.env) fp) elt te)
    (hs : ∀ x, foldedSetIterable iter X.env x = pure x := by intro _; rfl) :
    PE X (.SetComp elt [⟨tg, iter, ifs, 0⟩] scope pos) (zSc X.prog X.w wi g tt te (own.map (·.2))) := by
  constructor
  intro pins s σ H Q I h
  rw [PpSet.eval_SetComp]
  refine sc_run hc hN I hi ok hg ht he hs h fun D C s' m H' I' q hn f => ⟨m, hn, fun h2 sb => ?_⟩
  obtain ⟨g0, g1, g2, g3, g4, g5⟩ := f
  exact ⟨.ref D, H', I'.turned (t' := s'.toks) (fun b o hb e => (sb.2 b hb).trans e) g0 g1 g3 g4 g5, rfl, q⟩
/-- name = {..} on one line -/
theorem psz_setSc {i : Nat} {y : Str} {py pos spos : Pos} (hc : X.calm = true) (hN : X.N.Nodup) (hy : X.N[i]? = some y) (hyl : X.env.scope.names.lookup y = some .local)
    (hsw : swapsWith (.SetComp elt [⟨tg, iter, ifs, 0⟩] scope pos) (some (.Name y py)) spos.line X.env = pure true) (hi : PI X tg iter wi) (ok : BlkOk X.N X.env.scope scope own)
    (hg : ∀ (s : Shared) (H : Hp) (C : Addr) (cl : List (Str × Addr)) (fp : List Addr), PG (X.blk s H scope (compEnvC scope cl C X.env) fp) tg g)
    (ht : ∀ (s : Shared) (H : Hp) (C : Addr) (cl : List (Str × Addr)) (fp : List Addr), PTs (X.blk s H scope (compEnvC scope cl C X.env) fp) ifs tt)
    (he : ∀ (s : Shared) (H : Hp) (C : Addr) (cl : List (Str × Addr)) (fp : List Addr), PE (X.blk s H scope (compEnvC scope cl C X.env) fp) elt te)
    (hs : ∀ x, foldedSetIterable iter X.env x = pure x := by intro _; rfl) :
    PS X (.Assign [.Name y py] (.SetComp elt [⟨tg, iter, ifs, 0⟩] scope pos) spos) (tAsg (zSc X.prog X.w wi g tt te (own.map (·.2))) (gName i)) := by
  constructor
  intro pins s σ H D I h
  rw [exec_Assign_Name_used _ _ _ _ hsw]
  refine wpAny_bind (wpAny_standAt (wpAny_bind ?_))
  have h : zSc X.prog X.w wi g tt te (own.map (·.2)) σ H (fun x H1 => gName i x σ H1 D.nx) := h
  show wpAny _ X.A (do let _ ← comprehension (.SetComp elt [⟨tg, iter, ifs, 0⟩] scope pos) scope X.env (firstIterPos [⟨tg, iter, ifs, 0⟩] pos) (newSet (.type "set")) false (eval iter X.env) (some (assign (.Name y py) X.env))) _ _ s
  refine wpAny_bind (thn (sc_run (Qf := fun _ s' => SP X pins D .next s') hc hN I hi ok hg ht he hs h ?_) fun _ s' hq => wpAny_pure (wpAny_pure hq))
  intro L C s' m H' I' q hn f
  show wpAny _ _ (assign (.Name y py) X.env (.ref L)) _ _ _
  refine wpAny_assign_Name (store_ok2 (v := V.ref L) I' hN hy (.inl hyl) rfl (fun s2 I2 ha => ?_) (.inr hyl))
  obtain ⟨a, sb, ha⟩ := ha
  obtain ⟨g0, g1, g2, g3, g4, g5⟩ := f
  have nCa : C ≠ a := by
    rcases ha with z | z
    · rw [z]
      exact g1
    · exact fun e => g4 y a z e.symm
  exact ⟨m, hn.sameBut sb nCa, fun h3 sb3 => ⟨_, H', I2.turned (t' := s2.toks) (fun b o hb e => (sb3.2 b hb).trans e) g0 g1 g3 g4 g5, q⟩⟩
theorem sw_sc {gs : List Comprehension} {pos py : Pos} {y : Str} {l : Nat} {env : Env} (hk : env.scope.kind = .function) (hy : env.scope.names.lookup y = some .local) (hl : (py.line == pos.line) = true)
    (ha : (scope.names.any fun (n, k) => n == y && (k == .local || k == .cell)) = false) : swapsWith (.SetComp elt gs scope pos) (some (.Name y py)) l env = pure true := by
  have e1 : env.kindOf y = some .local := hy
  have e2 : env.blockKind = .function := by
    unfold Env.blockKind
    rw [hk]
    rfl
  unfold swapsWith
  simp only [e1, e2, ha, Expr.pos, hl]
  rfl
end
end Z
namespace Z
open PySem PySem.Spec PyProof.Rows L2

theorem passN {X : Cx} : Passes (L2.CX X.prog X.w) X (fun _ _ _ => False) := fun pins σ H s e s' I h => by
  obtain ⟨_, _, _, _, _, _, _, _, _, _, _, _, z⟩ := h
  exact False.elim z
section
variable {X : Cx}
/-! ### k in d, d a dict -/
def zDIn (neg : Bool) : R2 := fun x y H Q => ∃ a o, y = .ref a ∧ DGet H a x o ∧ Q (.bl (if neg = true then !o.isSome else o.isSome)) H
theorem op_zDIn (hu : X.A.units + 1 < cLine) : OpR X (compareOp .In) (zDIn false) := by
  intro pins s σ H x y v u Q I rx ry h
  obtain ⟨a, o, rfl, g, q⟩ := h
  obtain rfl : u = Value.ref a := ry
  exact d_in hu I g rx fun s2 I2 => ⟨.bl o.isSome, H, I2, rfl, q⟩
theorem op_zDNin (hu : X.A.units + 1 < cLine) : OpR X (compareOp .NotIn) (zDIn true) := by
  intro pins s σ H x y v u Q I rx ry h
  obtain ⟨a, o, rfl, g, q⟩ := h
  obtain rfl : u = Value.ref a := ry
  exact d_notIn hu I g rx fun s2 I2 => ⟨.bl (!o.isSome), H, I2, rfl, q⟩

/-! ### == and in of own instances -/
variable {n : Nat} {C f : Addr} {sp : Sp}
/-- one == other, both instances of the class at C -/
def zEqO (C : Addr) (sp : Sp) : R2 := fun x y H Q => ∃ a b dx dy fs gs, x = .ref a ∧ y = .ref b ∧ H a = some (.ins C dx fs) ∧ H b = some (.ins C dy gs) ∧
  sp [x, y] H (fun v H1 => ∃ c, v = .bl c ∧ Q v H1) fun _ _ _ => False
theorem op_zEqO (F : FnR X.prog X.w X.K X.mg X.base (L2.CX X.prog X.w) n f sp) (hs : PySem.W.findIn X.K (.ref C) "__eq__" = some (some (.ref f))) (hf : PySem.W.isFn X.K (.ref f) = true) (hr : Room n X.A) :
    OpR X (compareOp .Eq) (zEqO C sp) := by
  intro pins s σ H x y v u Q I rx ry h
  obtain ⟨a, b, dx, dy, fs, gs, rfl, rfl, ha, hb, h⟩ := h
  obtain rfl : v = Value.ref a := rx
  obtain rfl : u = Value.ref b := ry
  obtain ⟨mA, J1, _⟩ := ins_get I.hok ha
  obtain ⟨mB, J2, _⟩ := ins_get I.hok hb
  obtain ⟨od1, J1, _⟩ := J1.look
  obtain ⟨od2, J2, _⟩ := J2.look
  obtain ⟨m, hF⟩ := I.fr
  show wpAny (model X.prog X.w) X.A (richCompare .Eq (.ref a) (.ref b)) (EP X pins σ Q) X.xe s
  refine PySem.W.cmp_K (op := .Eq) (tb := .ref C) hr.units0 hF I.ok.mod.kin J1 J2.type (by simp [PySem.W.notFirst]) hs hf ?_
  refine thn (wpAny_call (run_fnR (us := [.ref a, .ref b]) (vs := [.ref a, .ref b]) F hr passN I (.cons rfl (.cons rfl .nil)) h)) ?_
  rintro w s2 ⟨z, H2, I2, rz, c, rfl, q⟩
  obtain rfl : w = Value.bool c := rz
  exact ⟨.bl c, H2, I2, rfl, q⟩
/-- x in o, o an instance of the class at C -/
def zInO (C : Addr) (sp : Sp) : R2 := fun x y H Q => ∃ b dy gs, y = .ref b ∧ H b = some (.ins C dy gs) ∧ sp [y, x] H (fun v H1 => ∃ c, v = .bl c ∧ Q v H1) fun _ _ _ => False
theorem op_zInO (F : FnR X.prog X.w X.K X.mg X.base (L2.CX X.prog X.w) n f sp) (hs : PySem.W.findIn X.K (.ref C) "__contains__" = some (some (.ref f))) (hf : PySem.W.isFn X.K (.ref f) = true) (hr : Room n X.A) :
    OpR X (compareOp .In) (zInO C sp) := by
  intro pins s σ H x y v u Q I rx ry h
  obtain ⟨b, dy, gs, rfl, hb, h⟩ := h
  obtain rfl : u = Value.ref b := ry
  obtain ⟨mB, J2, _⟩ := ins_get I.hok hb
  obtain ⟨od2, J2, _⟩ := J2.look
  obtain ⟨m, hF⟩ := I.fr
  refine PySem.W.in_K hF I.ok.mod.kin J2 hs hf ?_
  refine thn (wpAny_call (run_fnR (us := [.ref b, v]) (vs := [.ref b, x]) F hr passN I (.cons rfl (.cons rx .nil)) h)) ?_
  rintro w s2 ⟨z, H2, I2, rz, c, rfl, q⟩
  obtain rfl : w = Value.bool c := rz
  exact wpAny_pure ⟨.bl c, H2, I2, rfl, q⟩

/-! ### C(*xs), C in a local name -/
variable {k i : Nat} {x : Str} {e : Expr} {te : TE} {p pos sp_ : Pos} {E : XK}
def zNewL (K : PySem.W.Frag) (i : Nat) (C : Addr) (sp : Sp) (E : XK) (te : TE) : TE := fun σ H Q => σ[i]? = some (some (.ref C)) ∧ te σ H fun y H1 => ∃ a xs, y = .ref a ∧ (SqT K H1 a xs ∨ SqL K H1 a xs) ∧
  ∀ o dx, H1 o = none → H1 dx = none → dx ≠ o → sp (.ref o :: xs) (upd (upd H1 dx (.own o)) o (.ins C dx [])) (fun v H2 => v = .non ∧ Q (.ref o) H2) E
theorem pe_zNewL (M : Mk X.K C f) (F : FnR X.prog X.w X.K X.mg X.base (L2.CX X.prog X.w) k f sp) (hr : Room (k + 1) X.A) (hN : X.N[i]? = some x) (hv : Vis X.env.scope x) (hx : Passes (L2.CX X.prog X.w) X E) (he : PE X e te)
    (hdb : (x == ("__debug__" : Str)) = false := by decide) (hcd : (x == ("__classdict__" : Str)) = false := by decide) (hst : starEach [.Starred e sp_] X.env = [(true, eval e X.env)] := by rfl) :
    PE X (.Call (.Name x p) [.Starred e sp_] [] pos) (zNewL X.K i C sp E te) := by
  constructor
  intro pins s σ H Q I h
  obtain ⟨hs, ht⟩ := h
  refine wpAny_Call_Name_kw (thn ((pe_var (pos := p) hN hv hdb hcd).run pins s σ H (fun v H1 => v = .ref C ∧ H1 = H) I ⟨.ref C, hs, rfl, rfl⟩) ?_)
  rintro u s1 ⟨v, H1, I1, r1, rfl, rfl⟩
  cases r1
  refine PySem.W.callWith_S (h₀ := X.base) I.ok.mod.kin M.kp (thn (he.run pins s1 σ _ _ I1 ht) ?_) hst
  rintro w s2 ⟨y, H2, I2, ry, a, xs, rfl, hxs, q⟩
  obtain rfl : w = Value.ref a := ry
  exact StX.star_any I2 hxs fun us s3 I3 rv => ⟨I3.kIn, StX.run_makeR M F hr hx I3 rv q⟩

/-! ### isinstance of an own instance -/
structure CIns (K : PySem.W.Frag) (C : Addr) : Prop where
  cl : Cls K C
  ha : PySem.W.findIn K (.ref C) "__class__" = some (some (.builtin "object.__class__"))
  hn : PySem.W.specialIn K (.builtin "object.__class__") "__get__" = some (some (.builtin "getset_descriptor.__get__"))
  ht : PySem.W.takesIn K (.builtin "object.__class__") = some true
  hm : PySem.W.mroIn K C (.type "object") = some true
theorem isi_own {K : PySem.W.Frag} {C : Addr} {H : Hp} {Q : VK} {a dx : Addr} {fs : List (Str × V)} (c : CIns K C) (ea : H a = some (.ins C dx fs)) (q : Q (.bl true) H) : rIsi K [.ref a, .ref C] H Q :=
  ⟨_, _, .ref C, .ref C, true, rfl, .own C, .base (.ins ea c.cl c.ha c.hn c.ht c.hm), by simp [PySem.W.kitOne], q⟩
end
section
variable {X : Cx}
/-! ### tuple(x) -/
def zTupOf (K : PySem.W.Frag) : List V → Hp → VK → Prop := fun xs H Q => match xs with
  | [.ref p] => ∃ ys, (SqL K H p ys ∧ ∀ l, H l = none → Q (.ref l) (upd H l (.tup ys))) ∨ (SqT K H p ys ∧ Q (.ref p) H)
  | _ => False
theorem call_tupZ : CallR X (.type "tuple") (zTupOf X.K) := by
  intro pins s σ H xs us Q I r h
  unfold zTupOf at h
  split at h
  · obtain ⟨ys, h⟩ := h
    exact call_tuple_of pins s σ H _ us Q I r ⟨_, ys, rfl, h⟩
  · exact h.elim
end

/-! ### def f(a, *xs) -/
def spStar (n : Nat) (sp : Sp) : Sp := fun vs H Q E => ∃ ws rest, vs = ws ++ rest ∧ ws.length = n ∧ rest.length ≤ sizeLine ∧ ∀ p, H p = none → sp (ws ++ [.ref p]) (upd H p (.tup rest)) Q E
section
variable {P : Program} {w : World} {K : PySem.W.Frag} {mg : Str → Option Value} {base : Heap}
theorem okStar {x qual pv : Str} {st : Stmt} {f : Addr} {fd : FuncData} {N ps : List Str} {k : Nat} {sp : Sp} (F : Fun K x qual st f fd) (S : FnScope N (ps ++ [pv]) (defScope st))
    (hb : ∀ (kV doc pm : Value) (an : Option Addr) (cdv ct : Value) (us rest : List Value), us.length = ps.length →
      bindArgs (PySem.W.fnOf x qual (defArgs st) (defBody st) (defScope st) .none kV doc pm an cdv ct) ⟨us ++ rest, []⟩ = (newTuple rest >>= fun t => pure (ps.zip us ++ [(pv, t)])))
    (hbody : ∀ (cdv : Value) (A : Around) (outer : List Env) (s : Shared) (H : Hp) (vs : List V) (Q : VK) (E : XK),
      Room k (A.deeper (envOfC qual (defScope st) s.heap.objs.size f cdv)) → sp vs H Q E →
      ∃ t, PSs (cxOf (L2.CX P w) P w K mg base N qual (defScope st) f cdv A outer s H E) (defBody st) t ∧ t { nx := fun _ H' => Q .non H', rt := Q } (start N vs) H) :
    FnR P w K mg base (L2.CX P w) (k + 1) f (spStar ps.length sp) := by
  obtain ⟨oc, od, kV, doc, pm, an, cdv, ct, osl, rfl, lk, hcd⟩ := F.ex
  exact StX.fn_star (sp := sp) lk hcd S StX.cxUp (hb kV doc pm an cdv ct) fun A outer s H vs Q E hr hs => hbody cdv A outer s H vs Q E hr hs
end

/-- a set of keys over a walk -/
theorem sc_z {P : Program} {w : World} {J : It} {n : Nat} {G : Hp → Prop} {Y : Nat → Hp → V → Hp → Prop} (wk : Walk J n G Y) {g : TG} {tt : TT} {te : TE} {vs : List Nat} {σ : St} {H1 : Hp} {Q : VK} (Pv : Addr → Nat → Hp → Prop)
    (h0 : ∀ D, H1 D = none → Pv D 0 (upd H1 D (SetK P w D (fun _ => false) 0))) (hG : ∀ D i H, H1 D = none → i ≤ n → Pv D i H → G H)
    (hs : ∀ D i x H H', H1 D = none → i < n → Pv D i H → Y i H x H' → g x (wipe σ vs) H' fun σ2 H2 => wipe σ2 vs = wipe σ vs ∧ tt σ2 H2 fun b H3 =>
      if b = true then te σ2 H3 fun y H4 => rSAddK P w (.ref D) [y] H4 fun _ H5 => Pv D (i + 1) H5 else Pv D (i + 1) H3)
    (hd : ∀ D H, H1 D = none → Pv D n H → Q (.ref D) H) : scGo P w J g tt te vs σ H1 Q := by
  intro D hD
  refine ⟨fun i m H => m = n - i ∧ i ≤ n ∧ Pv D i H, ⟨n, by simp, Nat.zero_le _, h0 D hD⟩, ?_⟩
  rintro i m H ⟨rfl, hi, p⟩
  have q := hG D i H hD hi p
  rcases Nat.lt_or_ge i n with lt | ge
  · exact .inr ⟨wk.goes i H lt q, Pv D (i + 1), fun H' p' => ⟨n - (i + 1), by omega, rfl, lt, p'⟩, fun x H' y => hs D i x H H' hD lt p (wk.yields i H x H' lt q y)⟩
  · obtain rfl : i = n := Nat.le_antisymm hi ge
    exact .inl ⟨wk.stops H q, hd D H hD p⟩

theorem seq_of {a b : TS} {D : Ends} {σ : St} {H : Hp} (h : a { D with nx := b D } σ H) : tSeq a b D σ H := h
theorem ifS_of {t : TT} {a b : TS} {D : Ends} {σ : St} {H : Hp} (c : Bool) (ht : ∀ Q : Bool → Hp → Prop, Q c H → t σ H Q) (h1 : c = true → a D σ H) (h2 : c = false → b D σ H) : tIfS t a b D σ H := ht _ (zite h1 h2)
end Z
namespace Z
open PySem PySem.Spec PyProof.Rows L2
open AutoSeq1 (wpAny_loadPart')
open MeetsSeq

/-! ### x in a list, each question at its own state -/
section
variable {prog : Program} {w : World} {A : Around} {E : Value → Shared → Prop}
/-- at each turn the list is read anew; the items up to here were not it -/
def HasI (prog : Program) (w : World) (A : Around) (E : Value → Shared → Prop) (l : Addr) (x : Value) (N : Nat) (I : Nat → Shared → Prop) : Prop :=
  ∀ i s, I i s → ∃ (items : Array Value) (n : Nat), s.heap.get? l = some { cls := .type "list", data := .seq items n } ∧ items.size = N ∧
    ∀ h1 : i < items.size, wpAny (model prog w) A.in1 (eqBool items[i] x) (fun r s' => r = false ∧ I (i + 1) s') E s
theorem has_loop {R : Result → Shared → Prop} (l : Addr) (x : Value) (N : Nat) (I : Nat → Shared → Prop) (hl : HasI prog w A (fun e s' => R (.error e) s') l x N I) (fin : ∀ s, I N s → R (.ok (.ret (.bool false))) s) (k : Nat) :
    ∀ i : Nat, N - i = k → i ≤ N → ∀ s, I i s → wpAny (model prog w) A.in1 (Builtin.«list.__contains__.loop» ⟨[.ref l, x, rawInt i], []⟩) (GQ.FinOf prog w A R) (fun e s' => R (.error e) s') s := by
  induction k with
  | zero =>
    intro i hk hi s h
    obtain ⟨items, n, hg, hs, _⟩ := hl _ _ h
    obtain rfl : i = N := by omega
    have hR := fin s h
    obtain ⟨hp, g, d, tk, os⟩ := s
    wp_walk using wpAny_loadPart' hg
    have e1 : items[((i : Nat) : Int).toNat]? = none := by simp; omega
    rw [e1]
    wp_walk
    exact hR
  | succ k ih =>
    intro i hk hi s h
    obtain ⟨items, n, hg, hs, turn⟩ := hl _ _ h
    have lt : i < items.size := by omega
    have ht := turn lt
    obtain ⟨hp, g, d, tk, os⟩ := s
    wp_walk using wpAny_loadPart' hg
    have e1 : items[((i : Nat) : Int).toNat]? = some items[i] := by simp [lt]
    rw [e1]
    refine wpAny_bind (wpAny_mono ht ?_ fun _ _ z => z)
    rintro r s2 ⟨rfl, h2⟩
    have hrec := ih (i + 1) (by omega) (by omega) s2 h2
    obtain ⟨hp2, g2, d2, tk2, os2⟩ := s2
    have hc : ((i : Int) + 1) = ((i + 1 : Nat) : Int) := by omega
    wp_walk
    rw [hc]
    exact ⟨plainId_quiet plain_contains_loop _, codeAny_builtin entry_contains_loop (by
      rw [Around.under_plainId plain_contains_loop _]
      exact hrec)⟩
theorem in_none {l : Addr} {x : Value} {N : Nat} {s : Shared} {Q : Value → Shared → Prop} (I : Nat → Shared → Prop) (hl : HasI prog w A E l x N I) (h : I 0 s) (fin : ∀ s, I N s → Q (.bool false) s) :
    wpAny (model prog w) A (compareOp .In x (.ref l)) Q E s := by
  obtain ⟨items, n, hg, hs, _⟩ := hl _ _ h
  have hT : s.TypeIs (.ref l) "list" := ⟨_, hg, rfl⟩
  show wpAny _ A (do return .bool (← contains (.ref l) x)) Q E s
  refine wpAny_bind (wpAny_contains_slot hT F.slot_list_contains (wpAny_mono (GQ.call_here (Q := fun v s' => v = .bool false ∧ Q (.bool false) s') F.slot_list_contains hT F.entry_list_contains (F.args_list_contains_2 _ _) ?_) ?_ fun _ _ z => z))
  · have loop := has_loop (prog := prog) (w := w) (A := A) (R := wants (fun v s' => v = .bool false ∧ Q (.bool false) s') E) l x N I hl (fun s' h' => ⟨rfl, fin s' h'⟩) (N - 0) 0 rfl (Nat.zero_le _) s h
    obtain ⟨hp, g, d, tk, os⟩ := s
    wp_walk using wpAny_loadPart' hg
    exact ⟨plainId_quiet plain_contains_loop _, codeAny_builtin entry_contains_loop (by
      rw [Around.under_plainId plain_contains_loop _]
      exact loop)⟩
  · rintro v s' ⟨rfl, q⟩
    exact wpAny_truthy_bool (wpAny_pure q)
end
/-! ### == of another thing and an own instance -/
section
variable {prog : Program} {w : World} {A : Around} {E : Value → Shared → Prop} {s : Shared} {K : PySem.W.Frag} {x C f : Addr} {ox : Obj} {od : Option Obj} {v : Value} {T ida : String}
theorem rc_other {Q : Value → Shared → Prop} (hT : s.TypeIs v T) (slot : Slot T "__eq__" ida) (J : PySem.W.InstAt s.heap x ox C od) (X : K.In s.heap) (hsub : PySem.W.subIn K (.ref C) (.type T) = some false)
    (hs : PySem.W.findIn K (.ref C) "__eq__" = some (some (.ref f))) (hf : PySem.W.isFn K (.ref f) = true) (hu : A.units < cLine)
    (dec : ∀ Q' : Value → Shared → Prop, Q' .notImplemented s → wpAny (model prog w) A (call (.builtin ida) [v, .ref x]) Q' E s)
    (h : wpAny (model prog w) A (call (.ref f) [.ref x, v]) (PySem.W.CmpBack Q) E s) : wpAny (model prog w) A (richCompare .Eq v (.ref x)) Q E s := by
  have one : wpAny (model prog w) A (tryCompare (.ref x) "__eq__" v) (fun r s' => ∃ u, r = some u ∧ Q u s') E s := by
    unfold tryCompare
    refine wpAny_bind (PySem.W.ifBound_K X J hs hf (wpAny_mono h (fun u s' hv => ?_) fun _ _ e => e))
    cases u <;> first | exact hv.elim | exact wpAny_pure ⟨_, rfl, hv⟩
  rcases hi : cmpInfo CmpOp.Eq with ⟨sym, f', r⟩
  have e1 : f' = "__eq__" := by cases hi; rfl
  have e2 : r = "__eq__" := by cases hi; rfl
  subst e1 e2
  simp only [richCompare, hi, hT.oneThing_none]
  try with_reducible refine wpAny_holding ?_
  refine wpAny_bind (wpAny_cRoomFor hu ?_)
  refine wpAny_bind (wpAny_typeOf hT (wpAny_bind (J.type.here ?_)))
  have ne : (Value.type T != Value.ref C) = true := by simp
  simp only [ne, if_true]
  refine wpAny_bind ((PySem.W.looks_subIn X hsub).here ?_)
  simp only [Bool.false_eq_true, if_false, Bool.not_false, if_true]
  refine wpAny_bind (m := tryCompare v _ (.ref x)) (wpAny_tryCompare_declines hT slot (dec _ ⟨rfl, ?_⟩))
  refine wpAny_bind (wpAny_mono one (fun r s' z => ?_) fun _ _ e => e)
  obtain ⟨u, rfl, q⟩ := z
  exact wpAny_pure q
end

section
variable {prog : Program} {w : World} {A : Around} {E : Value → Shared → Prop} {s : Shared} {x : Addr} {ox : Obj}
theorem dec_none {Q : Value → Shared → Prop} (h : Q .notImplemented s) : wpAny (model prog w) A (call (.builtin "NoneType.__eq__") [.none, .ref x]) Q E s :=
  call_gives F.slot_NoneType_eq rfl F.entry_NoneType_eq (F.args_NoneType_eq_2 _ _) (SeqAt.NoneType___eq___none_ref_0 x) h
theorem dec_str {z : Str} {t : Tok} {Q : Value → Shared → Prop} (hx : s.heap.get? x = some ox) (hd : ox.data = .plain) (h : Q .notImplemented s) : wpAny (model prog w) A (call (.builtin "str.__eq__") [.str z t, .ref x]) Q E s := by
  refine GQ.call_here F.slot_str_eq (typeIs_str s z t) F.entry_str_eq (F.args_str_eq_2 _ _) ?_
  obtain ⟨cls, dd, data, sl⟩ := ox
  simp only at hd
  subst hd
  obtain ⟨hp, g, d, tk, os⟩ := s
  wp_walk using wpAny_load hx
  exact h
theorem dec_list {l : Addr} {items : Array Value} {n : Nat} {Q : Value → Shared → Prop} (hl : s.heap.get? l = some { cls := .type "list", data := .seq items n })
    (hi : ∀ (A' : Around) (Q' : Bool → Shared → Prop) (E' : Value → Shared → Prop), Q' false s → wpAny (model prog w) A' (isInstance (.ref x) (.type "list")) Q' E' s) (h : Q .notImplemented s) :
    wpAny (model prog w) A (call (.builtin "list.__eq__") [.ref l, .ref x]) Q E s := by
  refine GQ.call_here F.slot_list_eq ⟨_, hl, rfl⟩ F.entry_list_eq (F.args_list_eq_2 _ _) ?_
  obtain ⟨hp, g, d, tk, os⟩ := s
  have hi' : ∀ {A' : Around} {Q' : Bool → Shared → Prop} {E' : Value → Shared → Prop}, Q' false ⟨hp, g, d, tk, os⟩ → wpAny (model prog w) A' (isInstance (.ref x) (.type "list")) Q' E' ⟨hp, g, d, tk, os⟩ := fun q => hi _ _ _ q
  wp_walk using wpAny_loadPart' hl, hi'
  exact h
theorem dec_tuple {l : Addr} {items : Array Value} {n : Nat} {dd : Option Addr} {sl : Array (Option Value)} {Q : Value → Shared → Prop} (hl : s.heap.get? l = some { cls := .type "tuple", dict := dd, data := .seq items n, slots := sl })
    (hi : ∀ (A' : Around) (Q' : Bool → Shared → Prop) (E' : Value → Shared → Prop), Q' false s → wpAny (model prog w) A' (isInstance (.ref x) (.type "tuple")) Q' E' s) (h : Q .notImplemented s) :
    wpAny (model prog w) A (call (.builtin "tuple.__eq__") [.ref l, .ref x]) Q E s := by
  refine GQ.call_here F.slot_tuple_eq ⟨_, hl, rfl⟩ F.entry_tuple_eq (F.args_tuple_eq_2 _ _) ?_
  obtain ⟨hp, g, d, tk, os⟩ := s
  have hi' : ∀ {A' : Around} {Q' : Bool → Shared → Prop} {E' : Value → Shared → Prop}, Q' false ⟨hp, g, d, tk, os⟩ → wpAny (model prog w) A' (isInstance (.ref x) (.type "tuple")) Q' E' ⟨hp, g, d, tk, os⟩ := fun q => hi _ _ _ q
  wp_walk using wpAny_loadPart' hl, hi'
  exact h
end

theorem eqBool_of {prog : Program} {w : World} {A : Around} {E : Value → Shared → Prop} {s : Shared} {u : Value} {x : Addr} {Q : Bool → Shared → Prop} (hu : u = .none ∨ (∃ z t, u = .str z t) ∨ ∃ b, u = .ref b ∧ b ≠ x)
    (h : wpAny (model prog w) A (richCompare .Eq u (.ref x)) (fun v s' => ∃ r, v = .bool r ∧ Q r s') E s) : wpAny (model prog w) A (eqBool u (.ref x)) Q E s := by
  have fin : ∀ v s', (∃ r, v = .bool r ∧ Q r s') → wpAny (model prog w) A (truthOfDropped v) Q E s' := by
    rintro v s' ⟨r, rfl, q⟩
    exact wpAny_truthy_bool q
  rcases hu with rfl | ⟨z, t, rfl⟩ | ⟨b, rfl, hb⟩
  · unfold eqBool
    refine wpAny_holding (wpAny_ite_split (fun e => ?_) fun _ => wpAny_bind (wpAny_mono h fin fun _ _ z => z))
    exact absurd (eq_of_beq e) (fun z => by cases z)
  · unfold eqBool
    refine wpAny_holding (wpAny_ite_split (fun e => ?_) fun _ => wpAny_bind (wpAny_mono h fin fun _ _ z => z))
    exact absurd (eq_of_beq e) (fun z => by cases z)
  · unfold eqBool
    refine wpAny_holding (wpAny_ite_split (fun e => ?_) fun _ => wpAny_bind (wpAny_mono h fin fun _ _ z => z))
    exact absurd (eq_of_beq e) (fun z => by cases z; exact hb rfl)
/-- None, a text, a list, a tuple -/
def Oth (K : PySem.W.Frag) (H : Hp) (v : V) : Prop := v = .non ∨ (∃ z, v = .str z) ∨ (∃ b ys, v = .ref b ∧ H b = some (.lst ys)) ∨ ∃ b ys, v = .ref b ∧ SqT K H b ys
structure OwnNe (K : PySem.W.Frag) (C f : Addr) : Prop where
  none : PySem.W.subIn K (.ref C) (.type "NoneType") = some false
  str : PySem.W.subIn K (.ref C) (.type "str") = some false
  list : PySem.W.subIn K (.ref C) (.type "list") = some false
  tup : PySem.W.subIn K (.ref C) (.type "tuple") = some false
  at_ : PySem.W.findIn K (.ref C) "__eq__" = some (some (.ref f))
  fn : PySem.W.isFn K (.ref f) = true
def zInL (K : PySem.W.Frag) (C : Addr) (sp : Sp) : R2 := fun x y H Q => ∃ a dx fs l xs, x = .ref a ∧ y = .ref l ∧ H a = some (.ins C dx fs) ∧ H l = some (.lst xs) ∧
  (∀ v ∈ xs, Oth K H v ∧ ∀ H', Same H H' → sp [.ref a, v] H' (fun r H2 => r = .bl false ∧ Same H' H2) fun _ _ _ => False) ∧ ∀ H', Same H H' → Q (.bl false) H'
section
variable {X : Cx} {n : Nat} {C f : Addr} {sp : Sp}
theorem op_zInL (F : FnR X.prog X.w X.K X.mg X.base (L2.CX X.prog X.w) n f sp) (o : OwnNe X.K C f) (hr : Room (n + 1) X.A) : OpR X (compareOp .In) (zInL X.K C sp) := by
  intro pins s σ H x y v u Q I rx ry h
  obtain ⟨a, dx, fs, l, xs, rfl, rfl, ha, hl, hv, q⟩ := h
  obtain rfl : v = Value.ref a := rx
  obtain rfl : u = Value.ref l := ry
  refine in_none (N := xs.length) (fun i s' => ∃ H', Inv X pins σ H' s' ∧ Same H H') ?_ ⟨H, I, Same.refl H⟩ ?_
  · rintro i s1 ⟨H1, I1, z1⟩
    obtain ⟨_, its, m, rv, ln, hg⟩ := I1.lstM (z1 _ _ hl)
    refine ⟨its.toArray, m, hg, by simp [ln], fun h1 => ?_⟩
    have k1 : i < xs.length := by
      rw [ln]
      simpa using h1
    obtain ⟨u, hu, ru⟩ := rv.get (List.getElem?_eq_getElem k1)
    have eu : its.toArray[i] = u := by
      have h1' : i < its.length := by simpa using h1
      rw [List.getElem?_eq_getElem h1'] at hu
      simpa using Option.some.inj hu
    rw [eu]
    obtain ⟨ot, sp1⟩ := hv _ (List.getElem_mem k1)
    have ha1 := z1 _ _ ha
    obtain ⟨ox, od, J, hp⟩ := StX.insC_at I1 (.inr ⟨dx, fs, ha1⟩)
    have room : Room n X.A.in1 := hr.in1
    have hun : X.A.in1.units < cLine := room.units0
    -- the question itself
    have ask : ∀ Q' : Value → Shared → Prop, (∀ s2 H2, Inv X pins σ H2 s2 → Same H H2 → Q' (.bool false) s2) → wpAny (model X.prog X.w) X.A.in1 (call (.ref f) [.ref a, u]) (PySem.W.CmpBack Q') X.xe s1 := by
      intro Q' hQ
      have e := I1.env0
      have e0 : Env0 X.prog X.w X.K X.mg X.base X.A.in1 X.stack s1 H1 := ⟨e.frames, e.mod, e.bs, e.bsz, e.funs, e.frf, e.hok, e.bare⟩
      refine wpAny_call (codeAny_mono (F X.A.in1 X.stack s1 H1 [.ref a, u] [.ref a, xs[i]] _ _ room e0 (.cons (show RelV (.ref a) (.ref a) from rfl) (.cons ru .nil)) (sp1 H1 z1)) fun r s2 hq => ?_)
      rcases r with er | fl
      · exact passN pins σ H1 s1 er s2 I1 hq
      · cases fl with
        | ret w =>
          obtain ⟨z, H2, I2, rz, ez, z2⟩ := I1.after hq
          subst ez
          obtain rfl : w = Value.bool false := rz
          exact hQ s2 H2 I2 (z1.trans z2)
        | next => exact hq.elim
        | brk => exact hq.elim
        | cont => exact hq.elim
    have inst : ∀ T : String, PySem.W.subIn X.K (.ref C) (.type T) = some false → ∀ (A' : Around) (Q' : Bool → Shared → Prop) (E' : Value → Shared → Prop), Q' false s1 → wpAny (model X.prog X.w) A' (isInstance (.ref a) (.type T)) Q' E' s1 := by
      intro T hT A' Q' E' q'
      simp only [isInstance]
      exact wpAny_bind (J.type.here ((PySem.W.looks_subIn I1.kIn hT).here q'))
    have back : ∀ s2 H2, Inv X pins σ H2 s2 → Same H H2 → ∃ r, Value.bool false = .bool r ∧ r = false ∧ ∃ H', Inv X pins σ H' s2 ∧ Same H H' := fun s2 H2 I2 z2 => ⟨false, rfl, rfl, H2, I2, z2⟩
    generalize xs[i] = v at ot sp1 ru
    rcases ot with rfl | ⟨z, rfl⟩ | ⟨b, ys, rfl, hb⟩ | ⟨b, ys, rfl, hb⟩
    · obtain rfl : u = Value.none := ru
      exact eqBool_of (.inl rfl) (rc_other (T := "NoneType") rfl PySem.F.slot_NoneType_eq J I1.kIn o.none o.at_ o.fn hun (fun Q' q' => dec_none q') (ask _ back))
    · obtain ⟨t, rfl⟩ := ru
      exact eqBool_of (.inr (.inl ⟨_, _, rfl⟩)) (rc_other (T := "str") rfl PySem.F.slot_str_eq J I1.kIn o.str o.at_ o.fn hun (fun Q' q' => dec_str J.at_ hp q') (ask _ back))
    · obtain rfl : u = Value.ref b := ru
      have hb1 := z1 _ _ hb
      obtain ⟨_, its2, m2, _, _, hg2⟩ := I1.lstM hb1
      have ne : b ≠ a := fun z => by rw [z, ha1] at hb1; cases hb1
      exact eqBool_of (.inr (.inr ⟨_, rfl, ne⟩)) (rc_other (T := "list") ⟨_, hg2, rfl⟩ PySem.F.slot_list_eq J I1.kIn o.list o.at_ o.fn hun (fun Q' q' => dec_list hg2 (inst "list" o.list) q') (ask _ back))
    · obtain rfl : u = Value.ref b := ru
      obtain ⟨its2, _, p2, _⟩ := I1.tuple (show SqT X.K H1 b ys from by
        rcases hb with (h | ⟨o, h⟩) | h
        · exact .inl (.inl (z1 _ _ h))
        · exact .inl (.inr ⟨o, z1 _ _ h⟩)
        · exact .inr h)
      obtain ⟨ob, e1, c1, m2, d1⟩ := p2
      obtain ⟨cls, dd, data, sl⟩ := ob
      simp only at c1 d1
      subst c1 d1
      have ne : b ≠ a := fun z => by
        rw [z, J.at_] at e1
        cases e1
        have := J.cls
        cases this
      exact eqBool_of (.inr (.inr ⟨_, rfl, ne⟩)) (rc_other (T := "tuple") ⟨_, e1, rfl⟩ PySem.F.slot_tuple_eq J I1.kIn o.tup o.at_ o.fn hun (fun Q' q' => dec_tuple e1 (inst "tuple" o.tup) q') (ask _ back))
  · rintro s2 ⟨H2, I2, z2⟩
    exact ⟨.bl false, H2, I2, rfl, q H2 z2⟩
end

/-! ### C() of a class whose __init__ takes any number; str(int) -/
theorem pe_zMakeR0 {X : Cx} {k : Nat} {f C : Addr} {sp : Sp} {E : XK} {x : Str} {p pos : Pos} (M : Mk X.K C f) (F : FnR X.prog X.w X.K X.mg X.base (L2.CX X.prog X.w) k f sp) (hr : Room (k + 1) X.A) (hg : Gl X x) (hm : X.mg x = some (.ref C))
    (hx : Passes (L2.CX X.prog X.w) X E) (hdb : (x == ("__debug__" : Str)) = false := by decide) : PE X (.Call (.Name x p) [] [] pos) (StX.tMakeR C sp E tNil) := by
  constructor
  intro pins s σ H Q I h
  refine wpAny_Call_Name_kw (ld_glob I hg hm ?_ hdb)
  exact PySem.W.callWith_K0 I.kIn M.kp (StX.run_makeR (us := []) M F hr hx I .nil h)
def rStrI : List V → Hp → VK → Prop := fun xs H Q => ∃ i : Int, xs = [.int i] ∧ i.natAbs.log2 < 1920 ∧ Q (.str (toString i)) H
theorem call_strZ {X : Cx} : CallR X (.type "str") rStrI := call_str_int
end Z
namespace Z
open PySem PySem.Spec PyProof.Rows L2
/-! ### C.m(..), m a staticmethod of the class C -/
structure SMet (K : PySem.W.Frag) (C : Addr) (mc : Value) (m : Str) (p g : Addr) : Prop where
  at_ : PySem.W.findCls K (.ref C) mc m = some (.get (.builtin "staticmethod.__get__") (.ref p) .none (.ref C))
  rc : ∃ rest, PySem.W.recIn K p "staticmethod" = some (.ref g :: rest)
  kp : PySem.W.keepIn K (.ref g) = true
def tSMeth (C : Addr) (sp : Sp) (E : XK) (ta : TE) (t : TA) : TE := fun σ H Q => ta σ H fun x H1 => x = .ref C ∧ t σ H1 fun vs H2 => sp vs H2 Q E
section
variable {X : Cx} {CX : CXT} {k : Nat} {C p g : Addr} {mc : Value} {sp : Sp} {E : XK} {o e : Expr} {es : List Expr} {m : Str} {pos apos : Pos} {ta : TE} {t : TA} {pl : Sem Bool}
theorem pe_smeth (he : PE X o ta) (r : ClX.CRead X.K C mc) (c : SMet X.K C mc m p g) (F : FnR X.prog X.w X.K X.mg X.base CX k g sp) (hr : Room k X.A) (hx : Passes CX X E) (ha : PA X (e :: es) t)
    (hst : starEach (e :: es) X.env = (false, eval e X.env) :: starEach es X.env := by rfl) (hpl : (backTo pos (starEach es X.env)).any (·.1) = false := by rfl)
    (ht : eval (.Call (.Attribute o m apos) (e :: es) [] pos) X.env = (do
      let ov ← eval o X.env
      standAt apos.atName
      let (f, first) ← holding [ov] (getMethod ov m pl)
      callWith pos f first (backTo pos (starEach (e :: es) X.env)) (backToKw pos (keywordEach [] X.env))) := by rfl) :
    PE X (.Call (.Attribute o m apos) (e :: es) [] pos) (tSMeth C sp E ta t) := by
  refine ⟨fun pins s σ H Q I h => ?_⟩
  refine PySem.W.methodCall_KW (pl := pl) (thn (he.run pins s σ H _ I h) fun u s1 ⟨x, H1, I1, rx, ex, q⟩ => ?_) ht
  subst ex
  obtain rfl : u = Value.ref C := rx
  obtain ⟨rest, hp⟩ := c.rc
  refine PySem.W.method_cls I1.kIn r.ga (PySem.W.cls_bind I1.kIn r.rd c.at_ ?_)
  refine wpAny_call (PySem.W.sm_get (s := { s1 with toks := s1.toks + 1 }) (show X.K.In s1.heap from I1.kIn) hp (PySem.W.handed_on rfl ?_))
  have I2 := I1.tok (t := s1.toks + 1)
  refine PySem.W.callWith_K (h₀ := X.base) I2.ok.mod.kin c.kp (thn (ha.run pos pins _ σ H1 _ I2 q) ?_) hst hpl
  rintro us s3 ⟨vs, H2, I3, rv, q2⟩
  exact ⟨I3.kIn, wpAny_call (run_fnR (us := us) (vs := vs) F hr hx I3 rv q2)⟩
end
/-! ### int of a text, a cut of a text -/
def rIntS : List V → Hp → VK → Prop := fun xs H Q => match xs with
  | [.str a] => ∃ n, PySem.intText? a = some n ∧ a.length ≤ 640 ∧ Q (.int n) H
  | xs => rInt1 xs H Q
theorem call_intS {X : Cx} : CallR X (.type "int") rIntS := by
  intro pins s σ H xs us Q I r h
  unfold rIntS at h
  split at h
  · obtain ⟨n, h1, h2, q⟩ := h
    exact call_int_str pins s σ H _ us Q I r ⟨_, n, rfl, h1, h2, q⟩
  · exact call_intZ pins s σ H _ us Q I r h
end Z
namespace Z
open PySem PySem.Spec PyProof.Rows L2
/-! ### an exception as a thing that is tracked -/
def ExV (cls : Value) (d : Option Addr) (a : Addr) : HO := .ext fun h => ∃ (oe : Obj) (vs : Array Value), h.get? a = some oe ∧ Zc cls d oe ∧ oe.data = .fields vs
theorem exV_ok {P : Program} {w : World} {H : Hp} {h : Heap} {a : Addr} {cls : Value} {d : Option Addr} {oe : Obj} (e : h.get? a = some oe) (z : Zc cls d oe) (f : ∃ vs, oe.data = .fields vs) : ObjOk P w H h a (ExV cls d a) := by
  obtain ⟨vs, f⟩ := f
  exact ⟨⟨oe, vs, e, z, f⟩, ⟨oe, e⟩, fun _ _ ⟨o, v, q, r⟩ k => ⟨o, v, k o q, r⟩⟩
section
variable {X : Cx} {pins : List (Addr × Obj)} {σ : St} {H : Hp} {s : Shared} {a : Addr} {o : HO}
/-- what stands there, new since the entry, is tracked from now on -/
theorem track (I : Inv X pins σ H s) (hn : H a = none) (hc : ∃ ob vs, s.heap.get? a = some ob ∧ ob.data = .fields vs) (n0 : ∀ ob, X.s_0.heap.get? a = some ob → a ∉ X.ex → False) (nL : a ≠ X.env.locals)
    (np : ∀ p ∈ X.pn ++ pins, p.1 ≠ a) (new : ObjOk X.prog X.w (upd H a o) s.heap a o) : Inv X pins σ (upd H a o) s := by
  have ne : ∀ {b : Addr} {u : HO}, H b = some u → b ≠ a := fun e z => by rw [z, hn] at e; cases e
  have up : ∀ {b : Addr} {u : HO}, H b = some u → upd H a o b = some u := fun e => by rw [upd_ne (ne e)]; exact e
  have B := I.base
  refine ⟨I.ok, I.os, I.bare, ⟨B.keep, B.slot, ?_, B.there, ?_, ?_, ?_⟩, I.loc, I.cell, ?_, ?_, ?_, ?_, I.len⟩
  · intro b ob e n hx
    have nb : b ≠ a := fun z => n0 ob (z ▸ e) (z ▸ hx)
    rw [upd_ne nb]
    exact B.free b ob e n hx
  · intro b xs e
    exact up (B.tups b xs e)
  · intro b ob u e
    exact up (B.frzs b ob u e)
  · intro b ps e
    obtain ⟨m, q⟩ := B.tbls b ps e
    exact ⟨m, up q⟩
  · rw [upd_ne nL.symm]
    exact I.free
  · intro x c e
    have nc : c ≠ a := fun z => by
      obtain ⟨v, ob, e1, d1⟩ := I.cell x c e
      obtain ⟨ob2, vs, e2, d2⟩ := hc
      rw [z, e2] at e1
      cases e1
      rw [d2] at d1
      cases d1
    rw [upd_ne nc]
    exact I.freeC x c e
  · intro p hp
    obtain ⟨e, n, r⟩ := I.pin p hp
    exact ⟨e, by rw [upd_ne (np p hp)]; exact n, r⟩
  · intro b u e
    by_cases hb : b = a
    · subst hb
      rw [upd_same] at e
      cases e
      exact new
    · rw [upd_ne hb] at e
      exact (I.hok b u e).stay (fun _ _ _ q => q) (fun _ q => up q) fun _ _ q => up q
end
/-! ### its fields, its class -/
structure ExT (K : PySem.W.Frag) (C : Addr) : Prop where
  xf : XfC K C
  cl : (PySem.W.clsIn K C).isSome = true
  ha : PySem.W.findIn K (.ref C) "__class__" = some (some (.builtin "object.__class__"))
  hn : PySem.W.specialIn K (.builtin "object.__class__") "__get__" = some (some (.builtin "getset_descriptor.__get__"))
  ht : PySem.W.takesIn K (.builtin "object.__class__") = some true
  hm : PySem.W.mroIn K C (.type "object") = some true
/-- an exception of the class at C with these fields -/
def ExA (H : Hp) (a C : Addr) (fs : List (Str × V)) : Prop := ∃ dd, H a = some (ExV (.ref C) (some dd) a) ∧ H dd = some (.xd fs)
theorem ExA.same {H H' : Hp} {a C : Addr} {fs : List (Str × V)} (s : Same H H') (h : ExA H a C fs) : ExA H' a C fs := by
  obtain ⟨dd, h1, h2⟩ := h
  exact ⟨dd, s _ _ h1, s _ _ h2⟩
def tXv (C : Addr) (f : Str) (te : TE) : TE := fun σ H Q => te σ H fun x H1 => ∃ (a : Addr) (fs : List (Str × V)) (v : V), x = .ref a ∧ ExA H1 a C fs ∧ fs.lookup f = some v ∧ Q v H1
/-- isinstance(e, c) -/
def rIsV (K : PySem.W.Frag) : List V → Hp → VK → Prop := fun xs H Q => ∃ (a C : Addr) (fs : List (Str × V)) (c : V) (u : Value) (b : Bool), xs = [.ref a, c] ∧ ExA H a C fs ∧ ExT K C ∧ ClsV c u ∧ PySem.W.kitOne K (.ref C) u = some b ∧ Q (.bl b) H
def rIsVT (K : PySem.W.Frag) : List V → Hp → VK → Prop := fun xs H Q => ∃ (a C tp : Addr) (fs : List (Str × V)) (cs : List V) (us : List Value) (b : Bool), xs = [.ref a, .ref tp] ∧ H tp = some (.tup cs) ∧ Paired ClsV cs us ∧ ExA H a C fs ∧ ExT K C ∧
  PySem.W.kitAny K (.ref C) us = some b ∧ Q (.bl b) H
section
variable {X : Cx}
theorem exa_at {pins : List (Addr × Obj)} {σ : St} {H : Hp} {s : Shared} {a C : Addr} {fs : List (Str × V)} (I : Inv X pins σ H s) (h : ExA H a C fs) :
    ∃ (oe od : Obj) (mA : Str → Option Value), PySem.W.InstAt s.heap a oe C (some od) ∧ (∀ f, PySem.W.lookIn f od = some (mA f)) ∧ ∀ f, RelO (fs.lookup f) (mA f) := by
  obtain ⟨dd, e1, e2⟩ := h
  obtain ⟨⟨oe, vs, ho, hz, hd⟩, _, _⟩ := I.hok a _ e1
  obtain ⟨mA, ns, rel⟩ := (show ObjOk X.prog X.w H s.heap dd (.xd fs) from I.hok dd _ e2)
  obtain ⟨od, h1, h2⟩ := lookIn_ns ns
  refine ⟨oe, od, mA, ⟨ho, hz.1, ?_, ?_⟩, h2, rel⟩
  · unfold PySem.W.notCls
    rw [hd]
  · rw [hz.2]
    exact h1
theorem pe_xv {C : Addr} {e : Expr} {te : TE} {pos : Pos} {n : Str} (T : ExT X.K C) (hno : PySem.W.findIn X.K (.ref C) n = some none) (he : PE X e te) (hb : attributeBase e n X.env (eval e X.env) = eval e X.env := by rfl) :
    PE X (.Attribute e n pos) (tXv C n te) := by
  constructor
  intro pins s σ H Q I h
  refine attr_of hb (thn (he.run pins s σ H _ I h) ?_)
  rintro u s1 ⟨x, H1, I1, rx, a, fs, v, rfl, ha, hl, q⟩
  obtain rfl : u = Value.ref a := rx
  obtain ⟨oe, od, mA, J, lk, rel⟩ := exa_at I1 ha
  obtain ⟨u, hu, ru⟩ := RelO.some_of (v := v) (o := mA n) (by rw [← hl]; exact rel n)
  exact HandSPX.exc_get I1.kIn J T.xf.ga T.xf.gg T.xf.exC (PySem.W.findObj_own T.xf.hdC hno rfl (by rw [lk, hu])) (handed_of ru) ⟨v, H1, I1.tok _, ru, q⟩
theorem call_isV : CallR X (.builtin "isinstance") (rIsV X.K) := by
  intro pins s σ H xs us Q I r h
  obtain ⟨a, C, fs, c, cv, b, rfl, ha, T, k, e, q⟩ := h
  obtain ⟨u1, u2, rfl, r1, r2⟩ := vals2 r
  have e2 := k.eq r2
  subst e2
  obtain rfl : u1 = Value.ref a := r1
  obtain ⟨oe, od, mA, J, _⟩ := exa_at I ha
  exact PySem.W.kia_one (PySem.W.kitx_exc T.cl T.xf.ga T.xf.gg T.xf.exC T.ha T.hn T.ht T.hm) I.kIn J e (fun z => nomatch z) fun tk => ⟨.bl b, H, I.tok tk, rfl, q⟩
theorem call_isVT : CallR X (.builtin "isinstance") (rIsVT X.K) := by
  intro pins s σ H xs us Q I r h
  obtain ⟨a, C, tp, fs, cs, ws, b, rfl, hT, k, ha, T, e, q⟩ := h
  obtain ⟨u1, u2, rfl, r1, r2⟩ := vals2 r
  obtain rfl : u1 = Value.ref a := r1
  obtain rfl : u2 = Value.ref tp := r2
  obtain ⟨oe, od, mA, J, _⟩ := exa_at I ha
  obtain ⟨_, its, rv, ⟨oc, od2, dt, sl⟩, h1, h2, n, h3⟩ := (show ObjOk X.prog X.w H s.heap tp (.tup cs) from I.hok tp _ hT)
  have e3 := ClsV.all k rv
  simp only at h2 h3
  subst e3 h2 h3
  exact PySem.W.kia_tup (PySem.W.kitx_exc T.cl T.xf.ga T.xf.gg T.xf.exC T.ha T.hn T.ht T.hm) I.kIn J h1 e (fun z => nomatch z) fun tk => ⟨.bl b, H, I.tok tk, rfl, q⟩
end
theorem kit_cls {K : PySem.W.Frag} {t : Value} {C : Addr} {b : Bool} (ne : (t == Value.ref C) = b) (hc : (PySem.W.clsIn K C).isSome = true) (ht : PySem.W.typeIn K (.ref C) = some (.type "type")) (hs : PySem.W.subIn K t (.ref C) = some b) : PySem.W.kitOne K t (.ref C) = some b := by
  unfold PySem.W.kitOne PySem.W.kitCls
  cases b with
  | true => rw [if_pos ne]
  | false =>
    rw [ne]
    simp [hc, ht, hs]
theorem kit_bt {K : PySem.W.Frag} {C : Addr} {T : String} {b : Bool} (hm : PySem.W.kitMeta T = true) (hs : PySem.W.subIn K (.ref C) (.type T) = some b) : PySem.W.kitOne K (.ref C) (.type T) = some b := by
  unfold PySem.W.kitOne PySem.W.kitCls
  rw [if_neg (by simp)]
  show (if PySem.W.kitMeta T = true then PySem.W.subIn K (.ref C) (.type T) else none) = some b
  rw [if_pos hm]
  exact hs
theorem kit_one {K : PySem.W.Frag} {t : Value} : PySem.W.kitOne K t t = some true := by
  unfold PySem.W.kitOne
  rw [if_pos (beq_self_eq_true _)]
theorem kit_ne {K : PySem.W.Frag} {D C : Addr} (h1 : PySem.W.subIn K (.ref D) (.ref D) = some true) (h2 : PySem.W.subIn K (.ref D) (.ref C) = some false) : (Value.ref D == Value.ref C) = false := by
  rw [beq_eq_false_iff_ne]
  intro e
  rw [← e, h1] at h2
  cases h2
/-! ### try: body / except x as n: suite, what is caught always of that class -/
def wAsV (K : PySem.W.Frag) (c : Value) (i : Nat) (ts : TS) (D : Ends) : WX := fun cls d σ H => PySem.W.exmOne K cls c = some true ∧
  ∀ a, H a = none → ts { nx := fun σ' H' => D.nx (σ'.set i none) H', rt := D.rt, bk := fun σ' H' => D.bk (σ'.set i none) H', ct := fun σ' H' => D.ct (σ'.set i none) H' } (σ.set i (some (.ref a))) (upd H a (ExV cls d a))
/-- the exception on the ground, its name still to be given -/
structure Gr (X : Cx) (pins : List (Addr × Obj)) (σ : St) (H : Hp) (cls : Value) (d : Option Addr) (a : Addr) (B : Heap) (s : Shared) : Prop where
  inv : Inv X pins σ H s
  fl : HandSPX.FlyingZ B (X.env :: X.outer) a (Zc cls d) s.heap
  new : H a = none
  n0 : ∀ ob, X.s_0.heap.get? a = some ob → a ∉ X.ex → False
  nL : a ≠ X.env.locals
  np : ∀ p ∈ X.pn ++ pins, p.1 ≠ a
theorem Gr.of {X : Cx} {pins : List (Addr × Obj)} {σ : St} {H : Hp} {cls : Value} {d : Option Addr} {a : Addr} {B : Heap} {sI s : Shared} (hs : X.stack = X.env :: X.outer) (hf : X.env.frame = some X.env.locals) (J : Inv X pins σ H sI)
    (nb : ∀ b o, sI.heap.get? b = some o → b ∉ frs X.stack → B.get? b = some o) (fl : HandSPX.FlyingZ B (X.env :: X.outer) a (Zc cls d) s.heap) (up : sI.heap.UpToSlots s.heap) (os : s.os = sI.os) (ag : AllBare s.gens) (na : H a = none) : Gr X pins σ H cls d a B s := by
  obtain ⟨oe, vs, he, hz, hd⟩ := fl.there
  have nfr : a ∉ frs (X.env :: X.outer) := fun hm => by
    obtain ⟨_, o2, e2, hn⟩ := fl.2.2.1.mem hm
    rw [he] at e2
    cases e2
    exact hn _ hd
  have gone : ∀ o, sI.heap.get? a = some o → False := fun o e => by
    have := nb a o e (by rw [hs]; exact nfr)
    rw [fl.2.1] at this
    cases this
  refine ⟨J.landed nb fl.1 up os ag, fl, na, fun ob e hx => ?_, fun z => ?_, fun p hp z => ?_⟩
  · obtain ⟨o2, q⟩ := J.base.there a ob e hx
    exact gone _ q
  · exact nfr (List.mem_filterMap.mpr ⟨X.env, List.mem_cons_self, by rw [hf, z]⟩)
  · obtain ⟨e, _⟩ := J.pin p hp
    rw [z] at e
    exact gone _ e
/-- into the suite, the exception tracked -/
theorem Gr.suite {X : Cx} {pins : List (Addr × Obj)} {σ : St} {H : Hp} {cls : Value} {d : Option Addr} {a : Addr} {B : Heap} {s : Shared} (G : Gr X pins σ H cls d a B s) : Inv (X.suite a (X.pn ++ pins)) [] σ (upd H a (ExV cls d a)) s := by
  obtain ⟨oe, vs, he, hz, hd⟩ := G.fl.there
  have T := track G.inv G.new ⟨oe, vs, he, hd⟩ G.n0 G.nL G.np (exV_ok he hz ⟨vs, hd⟩)
  exact ⟨T.ok.suite _ _, T.os, T.bare, T.base, T.loc, T.cell, T.free, T.freeC, fun p hp => T.pin p (by simpa using hp), T.hok, T.len⟩
theorem unsuite {X : Cx} {pins : List (Addr × Obj)} {σ : St} {H : Hp} {a : Addr} {s : Shared} (ok : X.Ok) (I : Inv (X.suite a (X.pn ++ pins)) [] σ H s) : Inv X pins σ H s :=
  ⟨ok, I.os, I.bare, I.base, I.loc, I.cell, I.free, I.freeC, fun p hp => I.pin p (by simpa using hp), I.hok, I.len⟩
section
variable {X : Cx} {x n : Str} {c : Value} {i : Nat} {body suite : List Stmt} {b₀ : Stmt} {np pos pos' : Pos} {tb : WX → TS} {ts : TS}
theorem ps_try_asV (hs : X.stack = X.env :: X.outer) (hf : X.env.frame = some X.env.locals) (hN : X.N.Nodup) (hi : X.N[i]? = some n) (hln : X.env.kindOf n = some .local) (hc : Names X x c)
    (hb : ∀ (W : WX) (pn : List (Addr × Obj)) (xe : Value → Shared → Prop), Takes (X.tr pn xe) W → PassesOwn (model X.prog X.w) X.A X.env xe → PSs (X.tr pn xe) body (tb W))
    (hsu : ∀ (a : Addr) (pn : List (Addr × Obj)), PSs (X.suite a pn) (b₀ :: suite) ts) :
    PS X (.Try body [.ExceptHandler (some (.Name x np)) (some n) (b₀ :: suite) pos'] [] [] pos) (fun D σ H => tb (wAsV X.K c i ts D) D σ H) := by
  constructor
  intro pins s σ H D I h
  have ok := I.ok
  -- behind the suite
  have out : ∀ (a : Addr) (f : Flow) (s6 : Shared), SP (X.suite a (X.pn ++ pins)) [] { nx := fun σ' H' => D.nx (σ'.set i none) H', rt := D.rt, bk := fun σ' H' => D.bk (σ'.set i none) H', ct := fun σ' H' => D.ct (σ'.set i none) H' } f s6 →
      wpAny (model X.prog X.w) X.A (do bindName X.env n .none; unbindBehindTheSuite X.env n pos') (fun _ s7 => SP X pins D f s7) X.xe s6 := by
    intro a f s6 q
    cases f with
    | next =>
      obtain ⟨σ6, H6, S6, q6⟩ := q
      exact gone_ok (unsuite ok S6) hN hi hln fun s7 J7 => ⟨_, _, J7, q6⟩
    | brk =>
      obtain ⟨σ6, H6, S6, q6⟩ := q
      exact gone_ok (unsuite ok S6) hN hi hln fun s7 J7 => ⟨_, _, J7, q6⟩
    | cont =>
      obtain ⟨σ6, H6, S6, q6⟩ := q
      exact gone_ok (unsuite ok S6) hN hi hln fun s7 J7 => ⟨_, _, J7, q6⟩
    | ret u =>
      obtain ⟨v6, σ6, H6, S6, r6, q6⟩ := q
      exact gone_ok (unsuite ok S6) hN hi hln fun s7 J7 => ⟨_, _, _, J7, r6, q6⟩
  -- behind the body
  have done : ∀ (f : Flow) (s1 : Shared), SP (X.tr (X.pn ++ pins) (fun e s₁ => wpAny (model X.prog X.w) X.A (noteFrame e X.env) (fun _ s₂ => wpAny (model X.prog X.w) X.A (setFlight e none) (fun _ s₃ =>
      wpAny (model X.prog X.w) X.A (handleBy e X.env [.ExceptHandler (some (.Name x np)) (some n) (b₀ :: suite) pos']) (SP X pins D) X.xe s₃) X.xe s₂) X.xe s₁)) [] D f s1 →
      (match f with | .next => wpAny (model X.prog X.w) X.A (execs [] X.env) (SP X pins D) X.xe s1 | f => SP X pins D f s1) := by
    intro f s1 q
    cases f with
    | next =>
      obtain ⟨σ2, H2, J2, q2⟩ := q
      exact wpAny_execs_nil ⟨σ2, H2, J2.ofTry ok, q2⟩
    | brk =>
      obtain ⟨σ2, H2, J2, q2⟩ := q
      exact ⟨σ2, H2, J2.ofTry ok, q2⟩
    | cont =>
      obtain ⟨σ2, H2, J2, q2⟩ := q
      exact ⟨σ2, H2, J2.ofTry ok, q2⟩
    | ret u =>
      obtain ⟨v, σ2, H2, J2, r, q2⟩ := q
      exact ⟨v, σ2, H2, J2.ofTry ok, r, q2⟩
  refine wpAny_Try_except (wpAny_mono ((hb (wAsV X.K c i ts D) (X.pn ++ pins) _ ?_ PassesOwn.looking).run [] s σ H D (I.toTry _) h) done fun _ _ q => q)
  rintro u s1 ⟨a, B, sI, pins2, σ1, H1, cls, d, rfl, J2, nb, up, sky, na, os, ag, hm, hy⟩
  have J := J2.ofTry (pins := pins) ok
  have frames : X.A.frames = some (X.env :: X.outer) := by rw [ok.frames, hs]
  refine Sky.land Zc.steady frames hf (show Sky B (X.env :: X.outer) a (Zc cls d) X.env.locals s1.heap by rw [← hs]; exact sky) fun h3 fl3 up3 => ?_
  have G3 : Gr X pins σ1 H1 cls d a B { s1 with heap := h3 } := Gr.of hs hf J nb fl3 (up.trans up3) os ag na
  have S3 := G3.suite
  obtain ⟨oe, vs, he, hz, _⟩ := fl3.there
  refine wpAny_handleBy_cons (codeAny_handlers_test ?_) (by intro q; cases q)
  have ty : PySem.W.Looks (model X.prog X.w) h3 (typeOf (.ref a)) cls := fun A Q E s k q => wpAny_typeOf_ref (k _ _ he) (by rw [hz.1]; exact q)
  have mt := PySem.W.exm_one (M := model X.prog X.w) G3.inv.kIn ty hm
  have nm : ∀ {Q E : Value → Shared → Prop}, Q c { s1 with heap := h3 } → wpAny (model X.prog X.w) (X.A.mark (some (.ref a))) (eval (.Name x np) X.env) Q E { s1 with heap := h3 } := by
    intro Q E q
    obtain ⟨hg, hd, h1 | ⟨h1, h2, h3⟩⟩ := hc
    · exact ld_glob (X := X.suite a (X.pn ++ pins)) S3 hg h1 q hd
    · exact ld_blt (X := X.suite a (X.pn ++ pins)) S3 hg h1 h2 q h3 hd
  refine nm (mt.here (codeAny_handlers_suite_as (HandSPX.lands_againZ fl3 fun h4 fl4 up4 => ?_)))
  have G4 : Gr X pins σ1 H1 cls d a B { s1 with heap := h4 } := Gr.of hs hf J nb fl4 ((up.trans up3).trans up4) os ag na
  refine store_ok (X := X.suite a (X.pn ++ pins)) (v := .ref a) G4.suite hN hi (.inl hln) rfl (fun s5 S5 => ?_) (.inr hln)
  exact wpAny_mono ((hsu a (X.pn ++ pins)).run [] s5 _ _ _ S5 (hy a na)) (fun f s6 q => out a f s6 q) fun _ _ z => z.elim
end
/-! ### exceptions out of C.m(..) and C(..), by the state of the slots -/
def tCMethS (C : Addr) (sp : Sp) (E : St → XK) (ta : TE) (t : TA) : TE := fun σ H Q => ClX.tCMeth C sp (E σ) ta t σ H Q
def tMakeRS (C : Addr) (sp : Sp) (E : St → XK) (t : TA) : TE := fun σ H Q => StX.tMakeR C sp (E σ) t σ H Q
section
variable {X : Cx} {gd : Bool} {k : Nat} {C f g p : Addr} {fd : FuncData} {ps : List Str} {mc : Value} {sp : Sp} {E : St → XK} {o e : Expr} {es : List Expr} {x m : Str} {pos apos np : Pos} {ta : TE} {t : TA} {pl : Sem Bool}
theorem pe_cmethS (he : PE X o ta) (r : ClX.CRead X.K C mc) (c : ClX.CMet X.K C mc m p g) (F : FnG gd X.prog X.w X.K X.mg X.base k g fd ps sp) (hr : Room k X.A) (hgu : gd = true → X.A.guards = some []) (hb : Binds X.K fd ps []) (hx : ∀ σ, PassesAt (L2.CX X.prog X.w) X σ (E σ)) (ha : PA X (e :: es) t)
    (hst : starEach (e :: es) X.env = (false, eval e X.env) :: starEach es X.env := by rfl) (hpl : (backTo pos (starEach es X.env)).any (·.1) = false := by rfl)
    (ht : eval (.Call (.Attribute o m apos) (e :: es) [] pos) X.env = (do
      let ov ← eval o X.env
      standAt apos.atName
      let (f, first) ← holding [ov] (getMethod ov m pl)
      callWith pos f first (backTo pos (starEach (e :: es) X.env)) (backToKw pos (keywordEach [] X.env))) := by rfl) :
    PE X (.Call (.Attribute o m apos) (e :: es) [] pos) (tCMethS C sp E ta t) := by
  constructor
  intro pins s σ H Q I h
  refine PySem.W.methodCall_KW (pl := pl) (thn (he.run pins s σ H _ I h) ?_) ht
  rintro u s1 ⟨z, H1, I1, rz, rfl, q⟩
  obtain rfl : u = Value.ref C := rz
  refine ClX.getmethcm_ok I1 r c fun s2 I2 => ClX.callwith_cm I2 (ClX.base_none I1 (Nat.le_refl _)) c.fi (thn (ha.run pos _ s2 σ H1 _ I2 q) ?_) hst hpl
  rintro us s3 ⟨vs, H2, I3, rv, q2⟩
  have rc : Vals (V.ref C :: vs) (Value.ref C :: us) := .cons rfl rv
  have hl : (Value.ref C :: us).length = ps.length := rc.length.symm.trans (F.len _ _ _ _ q2)
  have z : wpAny (model X.prog X.w) X.A (call (.ref s1.heap.objs.size) us) (EP X ((s1.heap.objs.size, PySem.W.methodObj (.ref g) (.ref C)) :: pins) σ Q) X.xe s3 := by
    refine wpAny_call (PySem.W.method_call (ClX.pin_at I3) ?_)
    refine codeAny_mono (F.run X.A X.stack s3 H2 ⟨Value.ref C :: us, []⟩ (Value.ref C :: us) (V.ref C :: vs) Q (E σ) hr hgu I3.env0 (by simpa using hb s3 (Value.ref C :: us) I3.kIn (by simpa using hl)) rc q2) fun w s4 hq => ?_
    cases w with
    | error er => exact hx σ _ H2 s3 er s4 I3 hq
    | ok fl =>
      cases fl with
      | ret u => exact I3.after hq
      | next => exact hq.elim
      | brk => exact hq.elim
      | cont => exact hq.elim
  exact ⟨⟨ClX.pin_at I3, I3.kIn⟩, thn z fun _ _ y => ClX.unpinE y⟩
theorem pe_makeRS (M : Mk X.K C f) (F : FnR X.prog X.w X.K X.mg X.base (L2.CX X.prog X.w) k f sp) (hr : Room (k + 1) X.A) (hg : Gl X x) (hm : X.mg x = some (.ref C)) (hx : ∀ σ, PassesAt (L2.CX X.prog X.w) X σ (E σ)) (ha : PA X (e :: es) t)
    (hdb : (x == ("__debug__" : Str)) = false := by decide) (he : starEach (e :: es) X.env = (false, eval e X.env) :: starEach es X.env := by rfl) (hpl : (backTo pos (starEach es X.env)).any (·.1) = false := by rfl) :
    PE X (.Call (.Name x np) (e :: es) [] pos) (tMakeRS C sp E t) := by
  constructor
  intro pins s σ H Q I h
  refine wpAny_Call_Name_kw (ld_glob I hg hm ?_ hdb)
  refine PySem.W.callWith_K (h₀ := X.base) I.ok.mod.kin M.kp (thn (ha.run pos pins s σ H _ I h) ?_) he hpl
  rintro us s1 ⟨vs, H1, I1, rv, q⟩
  refine ⟨I1.kIn, wpAny_call ?_⟩
  have hq := q _ _ (I1.hok.fresh (Nat.le_succ s1.heap.objs.size)) (I1.hok.fresh (Nat.le_refl s1.heap.objs.size)) (Nat.ne_of_lt (Nat.lt_succ_self _))
  have I2 := Inv.made (C := C) I1
  have rc : Vals (V.ref (s1.heap.objs.size + 1) :: vs) (Value.ref (s1.heap.objs.size + 1) :: us) := .cons rfl rv
  refine make_map (f := f) I1.kIn M.makes M.init (beq_iff_eq.mp M.fn) (codeAny_mono (F _ X.stack _ _ _ _ _ (E σ) (hr.make C us []) (I2.env0.make C us []) rc hq) fun w s4 hw => ?_)
  cases w with
  | error er => exact hx σ pins _ _ er s4 I2 hw
  | ok fl =>
    cases fl with
    | ret u =>
      obtain ⟨v, H3, I3, r3, e3, q3⟩ := I2.after hw
      subst e3
      exact ⟨r3, ⟨V.ref (s1.heap.objs.size + 1), H3, I3, rfl, q3⟩⟩
    | next => exact hw.elim
    | brk => exact hw.elim
    | cont => exact hw.elim
end
end Z
namespace Z
open PySem PySem.Spec PyProof.Rows L2
open PySem.SeqAt PySem.MeetsSeq PySem.MeetsSeq2 PySem.MeetsSeq3 PySem.SeqRoads2
open PySem.AutoSeq1 (wpAny_loadPart')
/-! ### == of a flat thing and a dict -/
section
variable {A : Around} {s : Shared}
/-- a dict as it stands -/
def DictO (h : Heap) (l : Addr) : Prop := ∃ (dd : Option Addr) (es : Array DictEntry) (ep : Nat) (sl : Array (Option Value)), h.get? l = some { cls := .type "dict", dict := dd, data := .dict es ep, slots := sl }
theorem dict_declines {prog : Program} {w : World} {E : Value → Shared → Prop} {l : Addr} {v : Value} {Q : Value → Shared → Prop} (hl : DictO s.heap l) (hv : v = .none ∨ (∃ i t, v = .int i t) ∨ ∃ z t, v = .str z t) (q : Q .notImplemented s) :
    wpAny (model prog w) A (call (.builtin "dict.__eq__") [.ref l, v]) Q E s := by
  obtain ⟨dd, es, ep, sl, hl⟩ := hl
  refine GQ.call_here F.slot_dict_eq ⟨_, hl, rfl⟩ F.entry_dict_eq (F.args_dict_eq_2 _ _) ?_
  obtain ⟨hp, g, d, tk, os⟩ := s
  have f1 := F.sub_NoneType_dict
  have f2 := F.sub_int_dict
  have f3 := F.sub_str_dict
  rcases hv with rfl | ⟨i, t, rfl⟩ | ⟨z, t, rfl⟩
  · wp_walk using wpAny_loadPart' hl, wpAny_load hl
    exact q
  · wp_walk using wpAny_loadPart' hl, wpAny_load hl
    exact q
  · wp_walk using wpAny_loadPart' hl, wpAny_load hl
    exact q
theorem int_declines {prog : Program} {w : World} {E : Value → Shared → Prop} {l : Addr} {i : Int} {t : Tok} {Q : Value → Shared → Prop} (hl : DictO s.heap l) (q : Q .notImplemented s) : wpAny (model prog w) A (call (.builtin "int.__eq__") [.int i t, .ref l]) Q E s := by
  obtain ⟨dd, es, ep, sl, hl⟩ := hl
  refine GQ.call_here F.slot_int_eq (typeIs_int s i t) F.entry_int_eq (F.args_int_eq_2 _ _) ?_
  obtain ⟨hp, g, d, tk, os⟩ := s
  wp_walk using wpAny_loadPart' hl, wpAny_load hl
  exact q
theorem str_declines {prog : Program} {w : World} {E : Value → Shared → Prop} {l : Addr} {z : Str} {t : Tok} {Q : Value → Shared → Prop} (hl : DictO s.heap l) (q : Q .notImplemented s) : wpAny (model prog w) A (call (.builtin "str.__eq__") [.str z t, .ref l]) Q E s := by
  obtain ⟨dd, es, ep, sl, hl⟩ := hl
  refine GQ.call_here F.slot_str_eq (typeIs_str s z t) F.entry_str_eq (F.args_str_eq_2 _ _) ?_
  obtain ⟨hp, g, d, tk, os⟩ := s
  wp_walk using wpAny_loadPart' hl, wpAny_load hl
  exact q
theorem eq_dict {l : Addr} {v : Value} (hl : DictO s.heap l) (hu : A.units < cLine) (hv : v = .none ∨ (∃ i t, v = .int i t) ∨ ∃ z t, v = .str z t) : EqAt A s v (.ref l) false := by
  intro prog w E Q h
  have ty : s.TypeIs (.ref l) "dict" := by
    obtain ⟨dd, es, ep, sl, hl⟩ := hl
    exact ⟨_, hl, rfl⟩
  have rc : wpAny (model prog w) A (richCompare .Eq v (.ref l)) (fun u s' => u = .bool false ∧ s' = s) E s := by
    rcases hv with rfl | ⟨i, t, rfl⟩ | ⟨z, t, rfl⟩
    · exact rc_eq_decline_or (k := false) (Ta := "NoneType") rfl ty (by decide) F.sub_dict_NoneType F.slot_NoneType_eq F.slot_dict_eq_refl (fun _ hq => dec_none hq) (fun _ hq => dict_declines hl (.inl rfl) hq)
        (fun _ hq => wpAny_of_eq (rfl : isSame .none (.ref l) = pure false) hq) (.inr hu) ⟨rfl, rfl⟩
    · exact rc_eq_decline_or (k := false) (typeIs_int s i t) ty (by decide) F.sub_dict_int F.slot_int_eq F.slot_dict_eq_refl (fun _ hq => int_declines hl hq) (fun _ hq => dict_declines hl (.inr (.inl ⟨_, _, rfl⟩)) hq)
        (fun _ hq => wpAny_of_eq (rfl : isSame (.int i t) (.ref l) = pure false) hq) (.inr hu) ⟨rfl, rfl⟩
    · exact rc_eq_decline_or (k := false) (typeIs_str s z t) ty (by decide) F.sub_dict_str F.slot_str_eq F.slot_dict_eq_refl (fun _ hq => str_declines hl hq) (fun _ hq => dict_declines hl (.inr (.inr ⟨_, _, rfl⟩)) hq)
        (fun _ hq => wpAny_of_eq (rfl : isSame (.str z t) (.ref l) = pure false) hq) (.inr hu) ⟨rfl, rfl⟩
  have fin : ∀ (u : Value) (s' : Shared), u = .bool false ∧ s' = s → wpAny (model prog w) A (truthOfDropped u) Q E s' := by
    rintro u s' ⟨rfl, rfl⟩
    exact wpAny_truthy_bool h
  rcases hv with rfl | ⟨i, t, rfl⟩ | ⟨z, t, rfl⟩
  · unfold eqBool
    exact wpAny_holding (wpAny_ite_split (fun e => absurd (eq_of_beq e) fun z => by cases z) fun _ => wpAny_bind (wpAny_mono rc fin fun _ _ z => z))
  · unfold eqBool
    exact wpAny_holding (wpAny_ite_split (fun e => absurd (eq_of_beq e) fun z => by cases z) fun _ => wpAny_bind (wpAny_mono rc fin fun _ _ z => z))
  · unfold eqBool
    exact wpAny_holding (wpAny_ite_split (fun e => absurd (eq_of_beq e) fun z => by cases z) fun _ => wpAny_bind (wpAny_mono rc fin fun _ _ z => z))
end
/-! ### x in l, l a list of tuples of flat things, x a tuple that begins with a dict -/
def tflat (v : V) : Prop := v = .non ∨ (∃ i, v = .int i) ∨ ∃ z, v = .str z
def rInDict (K : PySem.W.Frag) : R2 := fun x y H Q => ∃ (a d l : Addr) (v : V) (rs : List V) (kvs : List (Key × V)), x = .ref a ∧ y = .ref l ∧ SqT K H a [.ref d, v] ∧ H d = some (.dK kvs) ∧ tflat v ∧ SqL K H l rs ∧
  (∀ r ∈ rs, ∃ (b : Addr) (p q : V), r = .ref b ∧ SqT K H b [p, q] ∧ tflat p ∧ tflat q) ∧ Q (.bl false) H
def zInD (K : PySem.W.Frag) : R2 := fun x y H Q => rInD K x y H Q ∨ rInDict K x y H Q
theorem tflat_flat {v : V} (h : tflat v) : flatV v = true := by
  rcases h with rfl | ⟨i, rfl⟩ | ⟨z, rfl⟩ <;> rfl
section
variable {X : Cx}
theorem op_inDict (hu : X.A.units + 65 < cLine) : OpR X (compareOp .In) (rInDict X.K) := by
  intro pins s σ H x y v u Q I rx ry h
  obtain ⟨a, d, l, v2, rs, kvs, rfl, rfl, ha, hd, fv, hl, hr, q⟩ := h
  obtain rfl : v = Value.ref a := rx
  obtain rfl : u = Value.ref l := ry
  obtain ⟨its, rv, hl', _⟩ := I.list hl
  obtain ⟨xs, rx, px, _⟩ := I.tuple ha
  have dO : DictO s.heap d := by
    obtain ⟨_, _, vs, _, ⟨oc, od, dt, sl⟩, es, ep, e1, e2, e3, _⟩ := (show ObjOk X.prog X.w H s.heap d (.dK kvs) from I.hok d _ hd)
    have c1 := e2.1
    simp only at c1 e3
    subst c1 e3
    exact ⟨od, es, ep, sl, e1⟩
  obtain ⟨u1, u2, rfl, r1, r2⟩ := vals2 rx
  obtain rfl : u1 = Value.ref d := r1
  have he : ∀ y, y ∈ its.toArray → EqAt X.A.in1 s y (.ref a) ((fun _ => false) y) := by
    intro y hy
    obtain ⟨i, hi⟩ := List.getElem?_of_mem (show y ∈ its by simpa using hy)
    have li : i < rs.length := by
      rw [rv.length]
      exact (List.getElem?_eq_some_iff.mp hi).1
    obtain ⟨y2, hy2, ry⟩ := rv.get (List.getElem?_eq_getElem li)
    rw [hi] at hy2
    cases hy2
    obtain ⟨b, p, w, er, hb, fp, fw⟩ := hr _ (List.getElem_mem li)
    rw [er] at ry
    obtain rfl : y = Value.ref b := ry
    obtain ⟨zs, rz, pz, _⟩ := I.tuple hb
    obtain ⟨w1, w2, rfl, k1, k2⟩ := vals2 rz
    have ne : b ≠ a := by
      intro z
      subst z
      obtain ⟨o1, e1, _, n1, d1⟩ := px
      obtain ⟨o2, e2, _, n2, d2⟩ := pz
      rw [e1] at e2
      cases e2
      rw [d1] at d2
      injection d2 with d2
      have d3 := congrArg Array.toList d2
      simp only [List.cons.injEq] at d3
      obtain ⟨d4, _⟩ := d3
      rw [← d4] at k1
      rcases fp with rfl | ⟨i, rfl⟩ | ⟨z, rfl⟩
      · cases k1
      · obtain ⟨_, k1⟩ := k1; cases k1
      · obtain ⟨_, k1⟩ := k1; cases k1
    have rc := RcAt.tuples (A := X.A.in1) (e := fun j => if j = 0 then false else eqU v2 w2) (isTup_tuple pz) (isTup_tuple px) (show X.A.units + 1 < cLine by omega) (fun j h1 h2 => by
      have hj : j = 0 ∨ j = 1 := by
        have : j < 2 := by simpa using h1
        omega
      rcases hj with rfl | rfl
      · refine eq_dict dO (show X.A.units + 2 < cLine by omega) ?_
        rcases fp with rfl | ⟨i, rfl⟩ | ⟨z, rfl⟩
        · exact .inl k1
        · obtain ⟨t, k1⟩ := k1; exact .inr (.inl ⟨_, _, k1⟩)
        · obtain ⟨t, k1⟩ := k1; exact .inr (.inr ⟨_, _, k1⟩)
      · exact mem_eqAt r2 (tflat_flat fv) (xs := [w]) (us := [w2]) (.cons k2 .nil) (by simp [tflat_flat fw]) w2 (by simp))
    have e0 : ((List.range (min (#[w1, w2] : Array Value).size (#[Value.ref d, u2] : Array Value).size)).all (fun j => if j = 0 then false else eqU v2 w2) && (#[w1, w2] : Array Value).size == (#[Value.ref d, u2] : Array Value).size) = false := by
      simp [List.range_succ]
    exact EqAt.of_refs ne (by
      have rc' := rc
      rw [show ([w1, w2].toArray) = #[w1, w2] from rfl, show ([Value.ref d, u2].toArray) = #[Value.ref d, u2] from rfl, e0] at rc'
      exact rc')
  refine in_listAt (fun _ => false) hl'.isList he ?_
  have : its.toArray.any (fun _ => false) = false := by simp
  rw [this]
  exact ⟨.bl false, H, I, rfl, q⟩
theorem op_zInD (hu : X.A.units + 65 < cLine) : OpR X (compareOp .In) (zInD X.K) := OpR.or (op_inD hu) (op_inDict hu)
end
end Z
namespace Z
open PySem PySem.Spec PyProof.Rows L2
/-- xs.insert(i, y) -/
def rInsZ : V → List V → Hp → VK → Prop := fun x vs H Q => ∃ (l : Addr) (xs : List V) (i : Int) (y : V), x = .ref l ∧ vs = [.int i, y] ∧ H l = some (.lst xs) ∧ xs.length < sizeLine ∧ 0 ≤ i ∧ i < 2 ^ 63 ∧ Q .non (upd H l (.lst (xs.take i.toNat ++ [y] ++ xs.drop i.toNat)))
theorem mt_insZ {X : Cx} : MtR X "list.insert" rInsZ := mt_insert
theorem room65 {k : Nat} {A : Around} (r : Room k A) : A.units + 65 < cLine := by
  have := r.un
  omega
/-! ### repr of a list of things of any kind, dicts among them -/
def DpR2 (K : PySem.W.Frag) (H : Hp) (v : V) (d : PyData) : Prop := DpR K H v d ∨ ∃ (a b : Addr) (u : V) (du : PyData), v = .ref a ∧ SqT K H a [.ref b, u] ∧ H b = some (.dK []) ∧ flatD u = some du ∧ d = .tuple [.dict [], du]
def Rdd (h : Heap) (u : Value) (d : PyData) : Prop := ∃ as, Reads h u d as ∧ (d.hasDict = true → sysModules ∉ as)
theorem DpR2.reads {X : Cx} {pins : List (Addr × Obj)} {σ : St} {H : Hp} {s : Shared} (I : Inv X pins σ H s) {d : PyData} {v : V} {u : Value} (h : DpR2 X.K H v d) (r : RelV v u) : Rdd s.heap u d := by
  rcases h with h | ⟨a, b, w, dw, rfl, ha, hb, fw, rfl⟩
  · exact h.reads I r
  · obtain rfl : u = Value.ref a := r
    obtain ⟨its, rv, ⟨o, e1, c1, n, d1⟩, _⟩ := I.tuple ha
    obtain ⟨u1, u2, rfl, r1, r2⟩ := vals2 rv
    obtain ⟨as, h1, h2⟩ := DpR.reads I (d := .dict []) (v := .ref b) (u := u1) (.inr ⟨b, [], [], rfl, hb, rfl, .nil⟩) r1
    have h3 := flatD_reads (h := s.heap) fw r2
    refine ⟨as ++ ([] ++ []), Reads.tuple e1 c1 d1 (.cons h1 (.cons h3 .nil)), fun _ z => h2 (by simp [PyData.hasDict]) (by simpa using z)⟩
section
variable {prog : Program} {w : World} {h₀ : Heap}
theorem repr_each : ∀ {vs : List Value} {ds : List PyData}, Paired (Rdd h₀) vs ds → PyData.showableAll ds = true → (∀ t ∈ PyData.shownAll ds, t.length ≤ sizeLine) →
    (∃ as, ReadsAll h₀ vs ds as) ∧ ∃ bs, ReadAtMost h₀ (PyData.depthAll ds) bs ∧ ReprAllK prog w bs h₀ (PyData.depthAll ds) vs (PyData.shownAll ds)
  | _, _, .nil, _, _ => ⟨⟨_, .nil⟩, [], (fun _ h => nomatch h), by simp only [PyData.shownAll]; exact .nil⟩
  | _, _, .cons ⟨as, r, hm⟩ t, hs, hz => by
    simp only [PyData.showableAll, Bool.and_eq_true] at hs
    obtain ⟨b1, h1, k1⟩ := ReprK.of_reads (prog := prog) (w := w) r hs.1 hm (hz _ (by simp only [PyData.shownAll]; exact List.mem_cons_self ..))
    obtain ⟨⟨as2, r2⟩, b2, h2, k2⟩ := repr_each t hs.2 fun x hx => hz x (by simp only [PyData.shownAll]; exact List.mem_cons_of_mem _ hx)
    refine ⟨⟨_, .cons r r2⟩, b1 ++ b2, ?_, ?_⟩
    · simp only [PyData.depthAll]
      exact (h1.mono (Nat.le_max_left _ _)).append (h2.mono (Nat.le_max_right _ _))
    · simp only [PyData.depthAll, PyData.shownAll]
      exact .cons ((k1.more fun _ q => List.mem_append_left _ q).level_le (Nat.le_max_left _ _)) (k2.more_le (fun _ q => List.mem_append_right _ q) (Nat.le_max_right _ _))
end
theorem rdds {X : Cx} {pins : List (Addr × Obj)} {σ : St} {H : Hp} {s : Shared} (I : Inv X pins σ H s) : ∀ {vs : List V} {us : List Value} {ds : List PyData}, Paired (DpR2 X.K H) vs ds → Vals vs us → Paired (Rdd s.heap) us ds
  | _, _, _, .nil, .nil => .nil
  | _, _, _, .cons h t, .cons r q => .cons (h.reads I r) (rdds I t q)
def rReprL (K : PySem.W.Frag) : List V → Hp → VK → Prop := fun xs H Q => ∃ (a : Addr) (vs : List V) (ds : List PyData), xs = [.ref a] ∧ SqL K H a vs ∧ Paired (DpR2 K H) vs ds ∧ PyData.showableAll ds = true ∧ PyData.depthAll ds ≤ 32 ∧
  (PyData.list ds).shown.length ≤ sizeLine ∧ Q (.str (PyData.list ds).shown) H
theorem call_reprL {X : Cx} (hg : X.A.guards = some []) (hu : X.A.units + 64 < cLine) : CallR X (.builtin "repr") (rReprL X.K) := by
  intro pins s σ H xs us Q I r h
  obtain ⟨a, vs, ds, rfl, hq, hp, hs, hd, hz, q⟩ := h
  obtain ⟨u, rfl, ru⟩ := vals1 r
  obtain rfl : u = Value.ref a := ru
  obtain ⟨its, rv, ⟨oa, n, e1, c1, _, d1⟩, _⟩ := I.list hq
  have hz2 : (listText (PyData.shownAll ds)).length ≤ sizeLine := by simpa only [PyData.shown] using hz
  obtain ⟨⟨as, ra⟩, bs, h1, h2⟩ := repr_each (prog := X.prog) (w := X.w) (rdds I hp rv) hs fun t ht => Nat.le_trans (listText_mem_le ht) hz2
  have hna : a ∉ bs := not_mem_of_deeper (Reads.list e1 c1 d1 ra) (by simp only [PyData.depth]; omega) h1
  have keep : ∀ b o, s.heap.get? b = some o → s.heap.get? b = some o := fun _ _ z => z
  simp only [PyData.shown] at q
  refine call_repr_slot (by omega) ⟨oa, e1, c1⟩ F.slot_list_repr.toG ?_
  cases its with
  | nil =>
    cases ra
    simp only [PyData.shownAll, listText_nil] at q
    exact call_list_repr_empty ⟨oa, e1, c1⟩ e1 d1 ⟨_, _, rfl, ⟨.str _, H, I.tok _, ⟨_, rfl⟩, q⟩⟩
  | cons x l =>
    exact call_list_reprK e1 c1 d1 hna (by simpa using h2.length_eq) (fun i y e => h2.item i y (by simpa using e)) (show X.A.in1.guards = some [] from hg) (fun b _ => Clear.nil b) (show X.A.units + 1 + (PyData.depthAll ds + 1) < cLine by omega) keep
      (fun h' u tk hk => ⟨_, _, rfl, ⟨.str _, H, I.kept (t' := tk) hk, ⟨_, rfl⟩, q⟩⟩) hz2
end Z
namespace Z
open PySem PySem.W PySem.Calls PyProof.Rows PySem.HandSPX
/-! ### type.__call__ on an own exception class, with keywords -/
section
variable {M : Model} {A : Around} {E : Value → Shared → Prop} {h : Heap} {g : Array GenState} {d : Drawn} {t : Nat} {os : OsState}
variable {nm q : Str} {C N : Addr} {bs bm bmB : List Value} {hdct : Bool} {sn : List Str} {sub : List Value} {ab : Bool} {col : Option Bool} {dd : Option Addr} {k0 k1 k2 k3 k5 : Option Value} {B newId initId : String}
theorem check_new_kw (F : ExcBaseFacts B newId initId bmB) (hT : ∀ X : String, bm.contains (.type X) = bmB.contains (.type X)) {rest : List Value} {kw : List (Str × Value)} {Q : Unit → Shared → Prop}
    (hC : h.get? C = some (excClassObj nm q C N bs bm hdct sn sub ab col dd k0 k1 k2 k3 k5 newId)) (hq : Q () ⟨h, g, d, t, os⟩) : wpAny M A (checkBuiltinCall newId ⟨.ref C :: rest, kw⟩) Q E ⟨h, g, d, t, os⟩ := by
  have hcont : (Value.ref C :: bm).contains (.type B) = true := by rw [List.contains_cons, hT, F.hasB, Bool.or_true]
  have hstar := F.noStar
  simp only [checkBuiltinCall, F.newKind, F.newSplit, F.newRow]
  repeat (first | refine wpAny_loadPart_at hC ?_ | (refine wpAny_isSubtype_exc hC ?_; rw [hcont]) | refine wpAny_staticBase_exc hC ?_ | refine wpAny_madeBy_exc hC ?_ | simp only [bne_self_eq_false, Bool.false_eq_true, if_false] | wp_step)
  exact hq
end
section
variable {prog : Program} {w : World} {A : Around} {E : Value → Shared → Prop} {R : Result → Shared → Prop} {h : Heap} {g : Array GenState} {d : Drawn} {t : Nat} {os : OsState}
variable {nm q : Str} {C N : Addr} {bs bm bmB : List Value} {hdct : Bool} {sn : List Str} {sub : List Value} {ab : Bool} {col : Option Bool} {dd : Option Addr} {k0 k1 k2 k3 k5 : Option Value} {B newId initId : String}
theorem new_kw (F : ExcBaseFacts B newId initId bmB) (hT : ∀ X : String, bm.contains (.type X) = bmB.contains (.type X)) {rest : List Value} {kw : List (Str × Value)}
    (hC : h.get? C = some (excClassObj nm q C N bs bm hdct sn sub ab col dd k0 k1 k2 k3 k5 newId))
    (hq : R (.ok (.ret (.ref (h.objs.size + 1)))) ⟨(h.push { cls := .type "tuple", data := .seq rest.toArray }).push
      { cls := .ref C, data := .fields #[.ref h.objs.size, .none, .none, .none, .bool false, .none] }, g, d, t, os⟩) (hrest : rest.length ≤ sizeLine) :
    codeAny (model prog w) A (.builtin newId ⟨.ref C :: rest, kw⟩) R ⟨h, g, d, t, os⟩ := by
  have hends := F.ends
  have hcB : (Value.ref C :: bm).contains (.type B) = true := by rw [List.contains_cons, hT, F.hasB, Bool.or_true]
  have hcA : (Value.ref C :: bm).contains (.type "AttributeError") = false := by rw [List.contains_cons, hT, F.noAttr]; rfl
  have hcN : (Value.ref C :: bm).contains (.type "NameError") = false := by rw [List.contains_cons, hT, F.noName]; rfl
  refine codeAny_builtinAt F.entry ?_
  unfold Builtin.«BaseException.__new__»
  refine PySem.wpAt_bind ?_
  show PySem.wpAt _ _ _ (stack >>= _) _ _ _
  refine PySem.wpAt_bind (PySem.wpAt_stack fun p below => PySem.wpAt_of_wpAny ?_)
  wp_walk
  refine PySem.wpAt_of_wpAny ?_
  rw [F.owner]
  repeat (first | with_reducible refine wpAny_madeHere_exc F.canon hC ?_ | with_reducible refine wpAny_loadPart_at hC ?_ | (with_reducible refine wpAny_isSubtype_exc hC ?_; first | rw [hcB] | rw [hcA] | rw [hcN]) | wp_step)
  show R _ _
  rw [Heap.size_push]
  exact hq
theorem type_call_kw (F : ExcBaseFacts B newId initId bmB) (hT : ∀ X : String, bm.contains (.type X) = bmB.contains (.type X)) {rest : List Value} {kw : List (Str × Value)} {fI : Addr} {Q : Fin → Shared → Prop}
    (hC : h.get? C = some (excClassObj nm q C N bs bm hdct sn sub ab col dd k0 k1 k2 k3 k5 newId))
    (hi : W.Looks (model prog w) h (typeLookup (.ref C) "__init__") (some (.ref fI))) (hb : ∀ self, W.Looks (model prog w) h (bindSpecial (.ref fI) self) (.ref fI, [self])) (hrest : rest.length ≤ sizeLine)
    (hq : codeAny (model prog w) A (.call (.ref fI) ⟨.ref (h.objs.size + 1) :: rest, kw⟩)
      (fun r s' => match r with | .ok (.ret v) => v = .none ∧ Q (.done (.ret (.ref (h.objs.size + 1)))) s' | .ok _ => False | .error e => E e s')
      ⟨(h.push (W.kdv_tup rest)).push (excO C h.objs.size), g, d, t, os⟩) :
    wpAny (model prog w) A (Builtin.«type.__call__» ⟨.ref C :: rest, kw⟩) Q E ⟨h, g, d, t, os⟩ := by
  repeat (first | with_reducible refine wpAny_loadPart_at hC ?_ | with_reducible refine wpAny_madeBy_exc hC ?_ | wp_step)
  refine codeAny_call_builtin_code (Code.quiet_builtin _ F.quiet) (check_new_kw F hT hC ?_)
  refine new_kw F hT hC ?_ hrest
  show wpAny _ _ _ _ _ _
  have k : ∀ b o, h.get? b = some o → ((h.push (W.kdv_tup rest)).push (excO C h.objs.size)).get? b = some o := fun b o e => Heap.get?_push_of_some _ (Heap.get?_push_of_some _ e)
  have hC₁ := k _ _ hC
  have hget : ((h.push (W.kdv_tup rest)).push (excO C h.objs.size)).get? (h.objs.size + 1) = some (excO C h.objs.size) := by heap_get
  have hcC : (Value.ref C :: bm).contains (.ref C) = true := by simp
  have i1 := hi.keeps k
  have b1 := (hb (.ref (h.objs.size + 1))).keeps k
  unfold isInstance
  repeat (first | with_reducible refine wpAny_loadPart_at hget ?_ | (with_reducible refine wpAny_isSubtype_exc hC₁ ?_; rw [hcC]) | wp_step)
  show wpAny _ _ (typeLookup (.ref C) _) _ _ _
  refine i1.at ?_
  refine wpAny_holding (wpAny_bind (b1.at ?_))
  refine wpAny_bind (wpAny_call (codeAny_mono hq fun r s' z => ?_))
  rcases r with e | (v | _ | _ | _) <;> first | exact z | exact z.elim | skip
  obtain ⟨rfl, z⟩ := z
  first
    | exact wpAny_pure (wpAny_pure z)
    | (wp_walk; exact z)
theorem call_kw (F : ExcBaseFacts B newId initId bmB) (hT : ∀ X : String, bm.contains (.type X) = bmB.contains (.type X)) {rest : List Value} {kw : List (Str × Value)} {fI : Addr}
    (hC : h.get? C = some (excClassObj nm q C N bs bm hdct sn sub ab col dd k0 k1 k2 k3 k5 newId))
    (hi : W.Looks (model prog w) h (typeLookup (.ref C) "__init__") (some (.ref fI))) (hb : ∀ self, W.Looks (model prog w) h (bindSpecial (.ref fI) self) (.ref fI, [self])) (hrest : rest.length ≤ sizeLine)
    (hq : codeAny (model prog w) (A.under (.builtin "type.__call__" ⟨.ref C :: rest, kw⟩)) (.call (.ref fI) ⟨.ref (h.objs.size + 1) :: rest, kw⟩) (W.InitBack (h.objs.size + 1) R)
      ⟨(h.push (W.kdv_tup rest)).push (excO C h.objs.size), g, d, t, os⟩) :
    codeAny (model prog w) A (.call (.ref C) ⟨rest, kw⟩) R ⟨h, g, d, t, os⟩ := by
  have f1 := tc_lookup
  have f2 := tc_bind (.ref C)
  have hTy : (⟨h, g, d, t, os⟩ : Shared).TypeIs (.ref C) "type" := ⟨_, hC, rfl⟩
  refine codeAny_of_tree ?_
  show wpAny _ _ (callAny (.ref C) _) _ _ _
  repeat (any_goals (first | assumption | with_reducible refine wpAny_loadPart_at hC ?_ | wp_step))
  refine ⟨rfl, ?_⟩
  refine codeAny_call_builtin_at (Code.quiet_builtin _ (by decide +kernel)) entry_typeCall (wpAny_check_type_call_sub hC (type_call_kw F hT hC hi hb hrest ?_))
  refine codeAny_mono hq fun r s' z => ?_
  rcases r with e | (v | _ | _ | _) <;> exact z
end
section
open Builtin Builtin.ObjectAttr
variable {prog : Program} {w : World} {A : Around} {E : Value → Shared → Prop} {R : Result → Shared → Prop} {hp : Heap} {g : Array GenState} {d : Drawn} {t : Nat} {os : OsState}
theorem isEmpty_of_contains {l : List Value} {v : Value} (h : l.contains v = true) : l.isEmpty = false := by
  cases l with
  | nil => exact absurd h (by simp)
  | cons _ _ => rfl
/-- self.name = v on an exception that has no dict yet -/
theorem osa_new {K : W.Frag} {name : Str} {tk : Tok} {v : Value} {x C : Addr} {fv : Array Value} {cd : ClassData}
    (X : K.In hp) (hx : hp.get? x = some { cls := .ref C, data := .fields fv }) (hcd : W.clsIn K C = some cd) (hm : ∀ self, refuseLoop self "__setattr__" cd.mro = pure ()) (hob : cd.mro.contains (.type "object") = true) (hh : cd.hasDict = true) (ha : W.findIn K (.ref C) name = some none)
    (hq : ∀ h' tk' dx, (∀ b o, b ≠ x → hp.get? b = some o → h'.get? b = some o) → hp.objs.size ≤ dx → dx ≠ x → h'.get? x = some { cls := .ref C, dict := some dx, data := .fields fv } →
      h'.Ns1 dx (fun y => if y = name then some v else none) → R (.ok (.ret .none)) ⟨h', g, d, tk', os⟩) :
    codeAny (model prog w) A (.call (.builtin "object.__setattr__") ⟨[.ref x, .str name tk, v], []⟩) R ⟨hp, g, d, t, os⟩ := by
  have I : W.InstAt hp x { cls := .ref C, data := .fields fv } C none := ⟨hx, rfl, rfl, trivial⟩
  have SF := F.store_object
  have ne := isEmpty_of_contains hob
  have hxs : x ≠ hp.objs.size := Nat.ne_of_lt (Heap.lt_size hx)
  have sub : W.Looks (model prog w) hp (isInstance (.ref x) (.type "object")) true := I.type.andThen (W.looks_mroIn X (by unfold W.mroIn; rw [hcd, Option.bind_some, if_neg (by rw [ne]; decide), hob]))
  refine codeAny_call_builtin SF.slot.plain SF.entry (@W.check_slot (model prog w) _ _ ⟨hp, g, d, t, os⟩ "object.__setattr__" "object" "__setattr__" (.ref x) [.str name tk, v] [] _ SF.kind SF.split sub (SF.args (.ref x) (.str name tk) v) ?_)
  have hmr : W.Looks (model prog w) hp (mroOf (.ref C)) cd.mro := (W.looks_clsIn X hcd).andThen .now
  have L3 : W.Looks (model prog w) hp (storeTaker? none) none := .now
  have hcls : W.Looks (model prog w) hp (classData C) cd := W.looks_clsIn X hcd
  rw [W.osa_eq, refuse_eq]
  refine wpAny_bind (wpAny_bind (I.type.at (wpAny_bind (hmr.at ?_))))
  rw [hm]
  refine wpAny_pure (wpAny_bind (I.type.at (wpAny_bind ((W.looks_findIn X ha).at (wpAny_bind (L3.at ?_))))))
  show wpAny _ _ (storeInOwnDict (.ref x) (.ref C) (.str name tk) name v false) _ _ _
  obtain ⟨nm, bs, mro, ns, qn, hd, sn, sb, ab, col, del⟩ := cd
  dsimp only at hh
  subst hh
  unfold storeInOwnDict ownDictForStores
  repeat (first | with_reducible refine HandSPX.store_in_new ?_ ?_ | with_reducible refine wpAny_loadPart_at hx ?_ | with_reducible refine hcls.at ?_ | wp_step)
  · exact ⟨_, #[], _, (Heap.get?_update_ne _ _ _ _ hxs.symm).trans (Heap.get?_push_at rfl rfl), rfl, fun e he => absurd he (by simp), fun _ => rfl⟩
  · intro h' tk' hn' hs
    have hx₁ : (hp.push { cls := .type "dict", data := .dict #[] }).get? x = some { cls := .ref C, data := .fields fv } := Heap.get?_push_of_some _ hx
    refine hq h' tk' hp.objs.size (fun b o hb ho => ?_) (Nat.le_refl _) hxs.symm ?_ hn'
    · exact (hs.2 b (Nat.ne_of_lt (Heap.lt_size ho))).trans ((Heap.get?_update_ne _ _ _ _ hb).trans (Heap.get?_push_of_some _ ho))
    · exact (hs.2 x hxs).trans (Heap.get?_update_self _ hx₁ rfl)
/-- a further field of an exception that has its dict -/
theorem osa_more {K : W.Frag} {name : Str} {tk : Tok} {v : Value} {x C dx : Addr} {fv : Array Value} {cd : ClassData} {m0 : Str → Option Value} {nl : List Str}
    (X : K.In hp) (hx : hp.get? x = some { cls := .ref C, dict := some dx, data := .fields fv }) (hns : hp.Ns1 dx m0) (hw : Within m0 nl) (hz : nl.length ≤ 1000) (hcd : W.clsIn K C = some cd) (hm : ∀ self, refuseLoop self "__setattr__" cd.mro = pure ()) (hob : cd.mro.contains (.type "object") = true) (hh : cd.hasDict = true)
    (ha : W.findIn K (.ref C) name = some none)
    (hq : ∀ h' tk', (∀ b o, b ≠ dx → hp.get? b = some o → h'.get? b = some o) → h'.Ns1 dx (fun y => if y = name then some v else m0 y) → R (.ok (.ret .none)) ⟨h', g, d, tk', os⟩) :
    codeAny (model prog w) A (.call (.builtin "object.__setattr__") ⟨[.ref x, .str name tk, v], []⟩) R ⟨hp, g, d, t, os⟩ := by
  obtain ⟨oD, esD, epD, hoD, hdD, _⟩ := hns.count hw
  have I : W.InstAt hp x { cls := .ref C, dict := some dx, data := .fields fv } C (some oD) := ⟨hx, rfl, rfl, hoD⟩
  have SF := F.store_object
  have ne := isEmpty_of_contains hob
  have sub : W.Looks (model prog w) hp (isInstance (.ref x) (.type "object")) true := I.type.andThen (W.looks_mroIn X (by unfold W.mroIn; rw [hcd, Option.bind_some, if_neg (by rw [ne]; decide), hob]))
  refine codeAny_call_builtin SF.slot.plain SF.entry (@W.check_slot (model prog w) _ _ ⟨hp, g, d, t, os⟩ "object.__setattr__" "object" "__setattr__" (.ref x) [.str name tk, v] [] _ SF.kind SF.split sub (SF.args (.ref x) (.str name tk) v) ?_)
  have hmr : W.Looks (model prog w) hp (mroOf (.ref C)) cd.mro := (W.looks_clsIn X hcd).andThen .now
  have L3 : W.Looks (model prog w) hp (storeTaker? none) none := .now
  have hcls : W.Looks (model prog w) hp (classData C) cd := W.looks_clsIn X hcd
  rw [W.osa_eq, refuse_eq]
  refine wpAny_bind (wpAny_bind (I.type.at (wpAny_bind (hmr.at ?_))))
  rw [hm]
  refine wpAny_pure (wpAny_bind (I.type.at (wpAny_bind ((W.looks_findIn X ha).at (wpAny_bind (L3.at ?_))))))
  show wpAny _ _ (storeInOwnDict (.ref x) (.ref C) (.str name tk) name v false) _ _ _
  obtain ⟨nm, bs, mro, ns, qn, hd, sn, sb, ab, col, del⟩ := cd
  dsimp only at hh
  subst hh
  unfold storeInOwnDict ownDictForStores
  repeat (first | with_reducible refine OEX.store_in_old hns hw hz ?_ | with_reducible refine wpAny_loadPart_at hx ?_ | with_reducible refine hcls.at ?_ | wp_step)
  intro h' tk' hn' hs
  exact hq h' tk' (fun b o hb ho => (hs.2 b hb).trans ho) hn'
end
end Z

namespace Z
open PySem PySem.Spec PyProof.Rows L2
/-- what the written part says of the class: an own exception over a built-in one -/
structure OexB (K : PySem.W.Frag) (C : Addr) : Prop where
  cls : ∃ B newId initId bmB nm q N bs bm sn sub ab col dd k0 k1 k2 k3 k5, ExcBaseFacts B newId initId bmB ∧ K.lookup C = some (excClassObj nm q C N bs bm true sn sub ab col dd k0 k1 k2 k3 k5 newId) ∧
    (∀ X : String, bm.contains (.type X) = bmB.contains (.type X)) ∧ (∀ self, refuseLoop self "__setattr__" bm = pure ()) ∧ bm.contains (.type "object") = true
  sa : PySem.W.findIn K (.ref C) "__setattr__" = some (some (.builtin "object.__setattr__"))
  exC : PySem.W.subIn K (.ref C) (.type "BaseException") = some true
  tyC : PySem.W.typeIn K (.ref C) = some (.type "type")
  kC : PySem.W.keepIn K (.ref C) = true
section
variable {X : Cx} {pins : List (Addr × Obj)} {σ : St} {H : Hp} {s : Shared} {a C dx : Addr} {f : Str} {y : V} {u : Value} {fs : List (Str × V)} {Q : Unit → Shared → Prop} {E : Value → Shared → Prop} {A : Around}
/-- self.f = y, the first one -/
theorem ostB_new (T : OexB X.K C) (I : Inv X pins σ H s) (e : H a = some (exo a C none)) (hno : PySem.W.findIn X.K (.ref C) f = some none) (ry : RelV y u)
    (h : ∀ dx s', H dx = none → dx ≠ a → Inv X pins σ (upd (upd H dx (exd dx [(f, y)])) a (exo a C (some dx))) s' → Q () s') : wpAny (model X.prog X.w) A (setAttr (.ref a) f u) Q E s := by
  obtain ⟨B, newId, initId, bmB, nm, q, N, bs, bm, sn, sub, ab, col, dd, k0, k1, k2, k3, k5, hF, hC, hT, hbm, hob⟩ := T.cls
  have hcl : PySem.W.clsIn X.K C = some { name := nm, bases := bs, mro := .ref C :: bm, ns := N, qualname := q, hasDict := true, slotNames := sn, subclasses := sub, abstract := ab, collection := col, hasDel := false } := by unfold PySem.W.clsIn; rw [hC] <;> rfl
  obtain ⟨t1, ho⟩ := exo_at I.hok e
  obtain ⟨hp, g, d, t, os⟩ := s
  refine PySem.W.set_plain I.kIn (ox := { cls := .ref C, dict := none, data := .fields #[.ref t1, .none, .none, .none, .bool false, .none] }) (od := none) ⟨ho, rfl, rfl, trivial⟩ T.sa ?_
  refine osa_new I.kIn ho hcl (fun self => by rw [refuseLoop_ref]; exact hbm self) (by simp only [List.contains_cons, hob, Bool.or_true]) rfl hno (fun h' tk' dx k dn dne hx hn => ?_)
  have hnd : H dx = none := I.hok.fresh dn
  have nd : ∀ {b : Addr} {o : Obj}, hp.get? b = some o → b ≠ dx := fun {b o} q => Nat.ne_of_lt (Nat.lt_of_lt_of_le (Heap.lt_size q) dn)
  have na : ∀ {b : Addr}, H b = none → b ≠ a := fun {b} n z => by
    rw [z, e] at n
    cases n
  have Un1 : Un X.fs [] H (upd (upd H dx (exd dx [(f, y)])) a (exo a C (some dx))) hp h' := {
    keep := fun b o q n _ _ => k b o (na n) q
    slot := fun b o q n _ _ => ⟨o.slots, k b o (na n) q⟩
    free := fun b o q n _ => by rw [upd_ne (na n), upd_ne (nd q)]; exact n
    there := fun b o q _ => by
      by_cases hb : b = a
      · exact ⟨_, by rw [hb]; exact hx⟩
      · exact ⟨o, k b o hb q⟩
    tups := fun b xs q => by rw [upd_ne (at_ne e q exo_tup), upd_ne (ne_of_none q hnd)]; exact q
    frzs := fun b o v q => by rw [upd_ne (at_ne e q exo_frz), upd_ne (ne_of_none q hnd)]; exact q
    tbls := fun b ps q => ⟨#[], by rw [upd_ne (at_ne e q exo_tbl), upd_ne (ne_of_none q hnd), q]; simp⟩ }
  refine h dx _ hnd dne (I.un (t' := tk') Un1 fun b o q => ?_)
  by_cases hb : b = a
  · subst hb
    rw [upd_same] at q
    cases q
    exact exo_ok hx
  · rw [upd_ne hb] at q
    by_cases hd : b = dx
    · subst hd
      rw [upd_same] at q
      cases q
      exact exd_ok hn (relO_put (fs := []) ry fun g => True.intro)
    · rw [upd_ne hd] at q
      exact (I.hok b o q).stay (fun c v hc z => k c v (by
          rcases hc with hc | hc
          · rw [hc]
            exact hb
          · exact at_ne e hc exo_own) z)
        (fun c hc => by rw [upd_ne (at_ne e hc exo_own), upd_ne (ne_of_none hc hnd)]; exact hc) (fun c xs hc => by rw [upd_ne (at_ne e hc exo_tup), upd_ne (ne_of_none hc hnd)]; exact hc)
/-- self.f = y, a further one -/
theorem ostB_old (T : OexB X.K C) (I : Inv X pins σ H s) (e : H a = some (exo a C (some dx))) (ed : H dx = some (exd dx fs)) (hl : fs.length ≤ 900) (hno : PySem.W.findIn X.K (.ref C) f = some none) (ry : RelV y u)
    (h : ∀ s', Inv X pins σ (upd H dx (exd dx ((f, y) :: fs))) s' → Q () s') : wpAny (model X.prog X.w) A (setAttr (.ref a) f u) Q E s := by
  obtain ⟨B, newId, initId, bmB, nm, q, N, bs, bm, sn, sub, ab, col, dd, k0, k1, k2, k3, k5, hF, hC, hT, hbm, hob⟩ := T.cls
  have hcl : PySem.W.clsIn X.K C = some { name := nm, bases := bs, mro := .ref C :: bm, ns := N, qualname := q, hasDict := true, slotNames := sn, subclasses := sub, abstract := ab, collection := col, hasDel := false } := by unfold PySem.W.clsIn; rw [hC] <;> rfl
  obtain ⟨t1, ho⟩ := exo_at I.hok e
  obtain ⟨mA, hns, rel⟩ := exd_at I.hok ed
  have hw := within_of rel
  obtain ⟨hp, g, d, t, os⟩ := s
  obtain ⟨oD, _, _, hoD, _, _⟩ := hns.count hw
  refine PySem.W.set_plain I.kIn (ox := { cls := .ref C, dict := some dx, data := .fields #[.ref t1, .none, .none, .none, .bool false, .none] }) (od := some oD) ⟨ho, rfl, rfl, hoD⟩ T.sa ?_
  refine osa_more I.kIn ho hns hw (by rw [List.length_map]; omega) hcl (fun self => by rw [refuseLoop_ref]; exact hbm self) (by simp only [List.contains_cons, hob, Bool.or_true]) rfl hno (fun h' tk' k hn => ?_)
  have hd : ∃ o, h'.get? dx = some o := by
    obtain ⟨o, _, _, e', _⟩ := hn
    exact ⟨o, e'⟩
  exact h _ (I.write (t' := tk') (x := dx) (e := dx) (o := exd dx ((f, y) :: fs)) (by rw [ed]; exact True.intro) (.inl rfl) k hd (exd_ok hn (relO_put ry rel)))
end
/-- self.f = e -/
def tOstB (K : PySem.W.Frag) (f : Str) (to te : TE) : TS := fun D σ H => te σ H fun y H1 => to σ H1 fun x H2 => ∃ a C : Addr, x = .ref a ∧ OexB K C ∧ PySem.W.findIn K (.ref C) f = some none ∧
  ((H2 a = some (exo a C none) ∧ ∀ dx, H2 dx = none → dx ≠ a → D.nx σ (upd (upd H2 dx (exd dx [(f, y)])) a (exo a C (some dx)))) ∨
    ∃ (dx : Addr) (fs : List (Str × V)), H2 a = some (exo a C (some dx)) ∧ H2 dx = some (exd dx fs) ∧ fs.length ≤ 900 ∧ D.nx σ (upd H2 dx (exd dx ((f, y) :: fs))))
section
variable {X : Cx} {o e : Expr} {es : List Expr} {to te : TE} {ta : TA} {f : Str} {p p' p1 p2 pos : Pos}
theorem ps_ostB (ho : PE X o to) (he : PE X e te) (hs : swapsWith e (some (.Attribute o f p')) pos.line X.env = pure false := by rfl) : PS X (.Assign [.Attribute o f p'] e pos) (tOstB X.K f to te) := by
  refine ⟨fun pins s σ H D I h => ?_⟩
  refine plainObj_wpAny_Assign_Attribute (thn (he.run pins s σ H _ I h) fun v s1 ⟨y, H1, I1, r1, q1⟩ => thn (ho.run pins s1 σ H1 _ I1 q1) fun u s2 ⟨x, H2, I2, r2, a, C, ex, T, hno, q⟩ => ?_) hs
  subst ex
  obtain rfl : u = Value.ref a := r2
  rcases q with ⟨ea, q⟩ | ⟨dx, fs, ea, ed, hl, q⟩
  · exact ostB_new T I2 ea hno r1 fun dx s' n ne J => ⟨σ, _, J, q dx n ne⟩
  · exact ostB_old T I2 ea ed hl hno r1 fun s' J => ⟨σ, _, J, q⟩
end
/-! ### C(e, ..) that is raised -/
section
variable {gd : Bool} {X : Cx} {k : Nat} {C fI : Addr} {fd : FuncData} {ps : List Str} {sp : Sp} {x : Str} {p pos : Pos} {e : Expr} {es : List Expr} {t : TA}
/-- C(e, .., k = v): the state behind, and what is known of it -/
theorem run_xmk {pins : List (Addr × Obj)} {σ : St} {H : Hp} {s : Shared} {Q : Addr → Addr → List (Str × V) → Hp → Prop} {P : Value → Shared → Prop} {us all : List Value} {kw : List (Str × Value)} {vs : List V} (T : OexB X.K C) (iC : PySem.W.findIn X.K (.ref C) "__init__" = some (some (.ref fI))) (tI : PySem.W.typeIn X.K (.ref fI) = some (.type "function"))
    (F : FnG gd X.prog X.w X.K X.mg X.base k fI fd ps sp) (hr : Room (k + 1) X.A) (hgu : gd = true → X.A.guards = some [])
    (hb : ∀ (a : Addr) (s : Shared), X.K.In s.heap → BindsTo s fd ⟨.ref a :: us, kw⟩ (ps.zip (.ref a :: all))) (I : Inv X pins σ H s) (r : Vals vs all) (hz : us.length ≤ 1000)
    (h : ∀ a, H a = none → sp (.ref a :: vs) (upd H a (exo a C none)) (fun v H2 => v = .non ∧ ∃ (d : Addr) (fs : List (Str × V)), H2 a = some (exo a C (some d)) ∧ H2 d = some (exd d fs) ∧ H d = none ∧ Q a d fs H2) E0)
    (hP : ∀ a hp2 s' H2 d fs, s.heap.objs.size ≤ a → (∀ b o, s.heap.get? b = some o → hp2.get? b = some o) → s'.os = s.os → AllBare s'.gens → Un (frs X.stack) [] (upd H a (exo a C none)) H2 hp2 s'.heap → HOk X.prog X.w H2 s'.heap →
      Inv X pins σ H2 s' → H2 a = some (exo a C (some d)) → H2 d = some (exd d fs) → H d = none → Q a d fs H2 → P (.ref a) s') :
    wpAny (model X.prog X.w) X.A (call (.ref C) us kw) P X.xe s := by
  obtain ⟨B, newId, initId, bmB, nm, q, N, bs, bm, sn, sub, ab, col, dd, k0, k1, k2, k3, k5, hF, hC, hT, hbm, hob⟩ := T.cls
  obtain ⟨hp, g, dr, tk, os⟩ := s
  have hsz : hp.objs.size ≤ hp.objs.size + 1 := Nat.le_succ _
  have hq := h (hp.objs.size + 1) (I.hok.fresh hsz)
  have kk : ∀ b o, hp.get? b = some o → ((hp.push (PySem.W.kdv_tup us)).push (PySem.HandSPX.excO C hp.objs.size)).get? b = some o :=
    fun b o z => Heap.get?_push_of_some _ (Heap.get?_push_of_some _ z)
  have hget : ((hp.push (PySem.W.kdv_tup us)).push (PySem.HandSPX.excO C hp.objs.size)).get? (hp.objs.size + 1) =
      some (PySem.HandSPX.excO C hp.objs.size) := by heap_get
  have I2 := I.laid (t' := tk) (a := hp.objs.size + 1) (o := exo (hp.objs.size + 1) C none)
    (h' := (hp.push (PySem.W.kdv_tup us)).push (PySem.HandSPX.excO C hp.objs.size)) kk hsz (exo_ok hget)
  have r2 : Vals (V.ref (hp.objs.size + 1) :: vs) (Value.ref (hp.objs.size + 1) :: all) := .cons rfl r
  have hus : us.length ≤ sizeLine := by
    rw [sizeLine_eq]
    omega
  have bb := hb (hp.objs.size + 1) ⟨(hp.push (PySem.W.kdv_tup us)).push (PySem.HandSPX.excO C hp.objs.size), g, dr, tk, os⟩ I2.kIn
  refine wpAny_call (call_kw hF hT (I.kIn _ _ hC)
    (PySem.W.looks_findIn I.kIn iC) (fun self => PySem.W.bind_fn I.kIn self tI) hus
    (codeAny_mono (F.run _ X.stack _ _ ⟨Value.ref (hp.objs.size + 1) :: us, kw⟩ _ _ _ E0 (hr.make C us kw) (fun z => guards_make (hgu z)) (I2.env0.make C us kw) bb r2 hq) fun r s' hq' => ?_))
  rcases r with er | fl
  · exact (show False by
      obtain ⟨_, _, _, _, _, _, _, _, _, _, _, _, z⟩ := hq'
      exact z).elim
  · cases fl with
    | ret u =>
      obtain ⟨v, H2, os2, bare2, un2, hok2, rv, ev, d, fs, ea, ed, hd1, q2⟩ := hq'
      subst ev
      exact ⟨rv, hP _ _ s' H2 d fs hsz kk os2 bare2 un2 hok2 (I2.call' (ch := []) os2 un2 hok2 bare2 (fun b z => absurd z (by simp))) ea ed hd1 q2⟩
    | next => exact hq'.elim
    | brk => exact hq'.elim
    | cont => exact hq'.elim
theorem pmk_ZB (T : OexB X.K C) (iC : PySem.W.findIn X.K (.ref C) "__init__" = some (some (.ref fI))) (tI : PySem.W.typeIn X.K (.ref fI) = some (.type "function"))
    (F : FnG gd X.prog X.w X.K X.mg X.base k fI fd ps sp) (hr : Room (k + 1) X.A) (hgu : gd = true → X.A.guards = some []) (hb : Binds X.K fd ps []) (hg : Gl X x)
    (hm : X.mg x = some (.ref C)) (ha : PA X (e :: es) t) (hdb : (x == ("__debug__" : Str)) = false := by decide)
    (he : starEach (e :: es) X.env = (false, eval e X.env) :: starEach es X.env := by rfl) (hpl : (backTo pos (starEach es X.env)).any (·.1) = false := by rfl) :
    PMk X (.Call (.Name x p) (e :: es) [] pos) (zMkO C sp t) := by
  intro pins s σ H Q I h
  refine wpAny_Call_Name_kw (ld_glob I hg hm ?_ hdb)
  refine PySem.W.callWith_K (h₀ := X.base) I.ok.mod.kin T.kC (thn (ha.run pos pins s σ H _ I h) ?_) he hpl
  rintro us s1 ⟨vs, H1, I1, r1, hz, q1⟩
  refine ⟨I1.kIn, ?_⟩
  refine run_xmk (Q := fun a d fs H2 => Q (.ref C) (some d) (upd (del H2 a) d (.xd fs))) T iC tI F hr hgu (all := us) (kw := []) (fun a s2 K2 => ?_) I1 r1 (by show us.length ≤ 1000; rw [← Paired.length r1]; exact hz) q1 fun a hp2 s' H2 d fs hsz kk os2 bare2 un2 hok2 I3 ea ed hd1 q2 => ?_
  · have hl := F.len _ _ _ _ (q1 _ (I1.hok.fresh (Nat.le_refl _)))
    have bb := hb s2 (.ref a :: us) K2 (by rw [List.append_nil, List.length_cons, ← Paired.length r1]; exact hl)
    rw [List.append_nil] at bb
    exact bb
  · obtain ⟨hp, g, dr, tk, os⟩ := s1
    obtain ⟨h2, g2, d2, t2, os'⟩ := s'
    exact mk_end (raises_own T.exC T.tyC) I1 hsz kk un2 hok2 os2 bare2 ea ed hd1 q2
/-! ### an exception as a value: C(e, ..) -/
/-- an exception of the class at C with these fields -/
def ExO (H : Hp) (a C : Addr) (fs : List (Str × V)) : Prop := ∃ dd, H a = some (exo a C (some dd)) ∧ H dd = some (exd dd fs)
theorem ExO.same {H H' : Hp} {a C : Addr} {fs : List (Str × V)} (s : Same H H') (h : ExO H a C fs) : ExO H' a C fs := by
  obtain ⟨dd, h1, h2⟩ := h
  exact ⟨dd, s _ _ h1, s _ _ h2⟩
def tXmk (C : Addr) (sp : Sp) (ta : TA) : TE := fun σ H Q => ta σ H fun vs H1 => vs.length ≤ 1000 ∧ ∀ a, H1 a = none → sp (.ref a :: vs) (upd H1 a (exo a C none))
    (fun v H2 => v = .non ∧ ∃ (d : Addr) (fs : List (Str × V)), H2 a = some (exo a C (some d)) ∧ H2 d = some (exd d fs) ∧ H1 d = none ∧ Q (.ref a) H2) E0
theorem pe_xmk (T : OexB X.K C) (iC : PySem.W.findIn X.K (.ref C) "__init__" = some (some (.ref fI))) (tI : PySem.W.typeIn X.K (.ref fI) = some (.type "function"))
    (F : FnG gd X.prog X.w X.K X.mg X.base k fI fd ps sp) (hr : Room (k + 1) X.A) (hgu : gd = true → X.A.guards = some []) (hb : Binds X.K fd ps []) (hg : Gl X x)
    (hm : X.mg x = some (.ref C)) (ha : PA X (e :: es) t) (hdb : (x == ("__debug__" : Str)) = false := by decide)
    (he : starEach (e :: es) X.env = (false, eval e X.env) :: starEach es X.env := by rfl) (hpl : (backTo pos (starEach es X.env)).any (·.1) = false := by rfl) :
    PE X (.Call (.Name x p) (e :: es) [] pos) (tXmk C sp t) := by
  constructor
  intro pins s σ H Q I h
  refine wpAny_Call_Name_kw (ld_glob I hg hm ?_ hdb)
  refine PySem.W.callWith_K (h₀ := X.base) I.ok.mod.kin T.kC (thn (ha.run pos pins s σ H _ I h) ?_) he hpl
  rintro us s1 ⟨vs, H1, I1, r1, hz, q1⟩
  refine ⟨I1.kIn, ?_⟩
  refine run_xmk (Q := fun a d fs H2 => Q (.ref a) H2) T iC tI F hr hgu (all := us) (kw := []) (fun a s2 K2 => ?_) I1 r1 (by show us.length ≤ 1000; rw [← Paired.length r1]; exact hz) q1 fun a hp2 s' H2 d fs hsz kk os2 bare2 un2 hok2 I3 ea ed hd1 q2 => ?_
  · have hl := F.len _ _ _ _ (q1 _ (I1.hok.fresh (Nat.le_refl _)))
    have bb := hb s2 (.ref a :: us) K2 (by rw [List.append_nil, List.length_cons, ← Paired.length r1]; exact hl)
    rw [List.append_nil] at bb
    exact bb
  · exact ⟨.ref a, H2, I3, rfl, q2⟩
/-- C(k = e, ..), keywords alone: gV brings the values into the order of the parameters -/
def tXmkK (C : Addr) (sp : Sp) (n : Nat) (gV : List V → List V → List V) (tk : TA) : TE := fun σ H Q => tk σ H fun zs H1 => zs.length = n ∧ ∀ a, H1 a = none → sp (gV [.ref a] zs) (upd H1 a (exo a C none))
    (fun v H2 => v = .non ∧ ∃ (d : Addr) (fs : List (Str × V)), H2 a = some (exo a C (some d)) ∧ H2 d = some (exd d fs) ∧ H1 d = none ∧ Q (.ref a) H2) E0
theorem pe_xmkK {ks : List Str} {kws : List Keyword} {tk : TA} {g : List Value → List Value} {gV : List V → List V} (T : OexB X.K C) (iC : PySem.W.findIn X.K (.ref C) "__init__" = some (some (.ref fI))) (tI : PySem.W.typeIn X.K (.ref fI) = some (.type "function"))
    (F : FnG gd X.prog X.w X.K X.mg X.base k fI fd ps sp) (hr : Room (k + 1) X.A) (hgu : gd = true → X.A.guards = some []) (hb : KBn X.K fd ps 1 ks (fun us ws => us ++ g ws) (fun us ws => us ++ gV ws))
    (hrel : ∀ {zs : List V} {ws : List Value}, Vals zs ws → Vals (gV zs) (g ws)) (hg : Gl X x)
    (hm : X.mg x = some (.ref C)) (hkw : PK X kws tk) (hall : (backToKw pos (keywordEach kws X.env)).all (·.1.isSome) = true := by rfl) (hks : (backToKw pos (keywordEach kws X.env)).filterMap (·.1) = ks := by rfl)
    (hdb : (x == ("__debug__" : Str)) = false := by decide) (hpl : ((backTo pos (starEach [] X.env)).any (·.1) || (backToKw pos (keywordEach kws X.env)).any (·.1.isNone)) = false := by rfl) :
    PE X (.Call (.Name x p) [] kws pos) (tXmkK C sp ks.length (fun us ws => us ++ gV ws) tk) := by
  constructor
  intro pins s σ H Q I h
  refine wpAny_Call_Name_kw (ld_glob I hg hm ?_ hdb)
  refine PySem.W.callWith_KW0 (h₀ := X.base) I.ok.mod.kin T.kC hall (thn (hkw.run pos pins s σ H _ I h) fun ws s2 ⟨zs, H2, I2, rz, l2, q2⟩ => ⟨I2.kIn, ?_⟩) hpl
  rw [hks]
  have e2 : ws.length = ks.length := rz.length.symm.trans l2
  exact run_xmk (Q := fun a d fs H2 => Q (.ref a) H2) T iC tI F hr hgu (us := []) (fun a s2 K2 => hb.to s2 [.ref a] ws K2 rfl e2) I2 (hrel rz) (by decide) q2 fun a hp2 s' H2 d fs hsz kk os2 bare2 un2 hok2 I3 ea ed hd1 q2 => ⟨.ref a, H2, I3, rfl, q2⟩
end
theorem Fun.kbn {K : PySem.W.Frag} {x qual : Str} {st : Stmt} {f : Addr} {fd : FuncData} {ps : List Str} {n : Nat} {ks : List Str} {g : List Value → List Value → List Value} {gV : List V → List V → List V} (F : L2.Fun K x qual st f fd)
    (h : ∀ (kV doc pm : Value) (an : Option Addr) (cdv ct : Value) (us ws : List Value), us.length = n → ws.length = ks.length → bindArgs (PySem.W.fnOf x qual (defArgs st) (defBody st) (defScope st) .none kV doc pm an cdv ct) ⟨us, ks.zip ws⟩ = pure (ps.zip (g us ws)))
    (rel : ∀ {vs : List V} {us : List Value} {zs : List V} {ws : List Value}, Vals vs us → Vals zs ws → Vals (gV vs zs) (g us ws)) : KBn K fd ps n ks g gV := by
  obtain ⟨oc, od, kV, doc, pm, an, cdv, ct, osl, rfl, lk, hcd⟩ := F.ex
  exact ⟨fun s us ws _ l1 l2 => .of_eq (h kV doc pm an cdv ct us ws l1 l2), rel⟩
end Z
namespace Z
open PySem PySem.Spec PyProof.Rows L2
/-! ### the fields and the classes of an exception that is a value -/
/-- e.f, of an exception of whatever class -/
def tXo (K : PySem.W.Frag) (f : Str) (te : TE) : TE := fun σ H Q => te σ H fun x H1 => ∃ (a C : Addr) (fs : List (Str × V)) (v : V), x = .ref a ∧ ExO H1 a C fs ∧ XfC K C ∧ PySem.W.findIn K (.ref C) f = some none ∧ fs.lookup f = some v ∧ Q v H1
/-- isinstance(e, c) -/
def rIsO (K : PySem.W.Frag) : List V → Hp → VK → Prop := fun xs H Q => ∃ (a C : Addr) (fs : List (Str × V)) (c : V) (u : Value) (b : Bool), xs = [.ref a, c] ∧ ExO H a C fs ∧ ExT K C ∧ ClsV c u ∧ PySem.W.kitOne K (.ref C) u = some b ∧ Q (.bl b) H
section
variable {X : Cx}
theorem exo_in {pins : List (Addr × Obj)} {σ : St} {H : Hp} {s : Shared} {a C : Addr} {fs : List (Str × V)} (I : Inv X pins σ H s) (h : ExO H a C fs) :
    ∃ (oe od : Obj) (mA : Str → Option Value), PySem.W.InstAt s.heap a oe C (some od) ∧ (∀ f, PySem.W.lookIn f od = some (mA f)) ∧ ∀ f, RelO (fs.lookup f) (mA f) := by
  obtain ⟨dd, e1, e2⟩ := h
  obtain ⟨t1, ho⟩ := exo_at I.hok e1
  obtain ⟨mA, ns, rel⟩ := exd_at I.hok e2
  obtain ⟨od, h1, h2⟩ := lookIn_ns ns
  exact ⟨_, od, mA, ⟨ho, rfl, rfl, h1⟩, h2, rel⟩
theorem pe_xo {e : Expr} {te : TE} {pos : Pos} {n : Str} (he : PE X e te) (hb : attributeBase e n X.env (eval e X.env) = eval e X.env := by rfl) :
    PE X (.Attribute e n pos) (tXo X.K n te) := by
  constructor
  intro pins s σ H Q I h
  refine attr_of hb (thn (he.run pins s σ H _ I h) ?_)
  rintro u s1 ⟨x, H1, I1, rx, a, C, fs, v, rfl, ha, T, hno, hl, q⟩
  obtain rfl : u = Value.ref a := rx
  obtain ⟨oe, od, mA, J, lk, rel⟩ := exo_in I1 ha
  obtain ⟨u, hu, ru⟩ := RelO.some_of (v := v) (o := mA n) (by rw [← hl]; exact rel n)
  exact HandSPX.exc_get I1.kIn J T.ga T.gg T.exC (PySem.W.findObj_own T.hdC hno rfl (by rw [lk, hu])) (handed_of ru) ⟨v, H1, I1.tok _, ru, q⟩
theorem call_isO : CallR X (.builtin "isinstance") (rIsO X.K) := by
  intro pins s σ H xs us Q I r h
  obtain ⟨a, C, fs, c, cv, b, rfl, ha, T, k, e, q⟩ := h
  obtain ⟨u1, u2, rfl, r1, r2⟩ := vals2 r
  have e2 := k.eq r2
  subst e2
  obtain rfl : u1 = Value.ref a := r1
  obtain ⟨oe, od, mA, J, _⟩ := exo_in I ha
  exact PySem.W.kia_one (PySem.W.kitx_exc T.cl T.xf.ga T.xf.gg T.xf.exC T.ha T.hn T.ht T.hm) I.kIn J e (fun z => nomatch z) fun tk => ⟨.bl b, H, I.tok tk, rfl, q⟩
end
end Z
namespace Z
open PySem PySem.Spec PyProof.Rows L2
theorem vals_getD : ∀ {zs : List V} {ws : List Value}, Vals zs ws → ∀ i, RelV (zs.getD i .non) (ws.getD i .none)
  | _, _, .nil, i => by simp only [List.getD_nil]; exact rfl
  | _, _, .cons r t, 0 => r
  | _, _, .cons r t, i + 1 => vals_getD t i
/-- an own class whose classes above are built-in -/
def MroT (K : PySem.W.Frag) (C : Addr) (ts : List String) : Prop := ∃ cd, PySem.W.clsIn K C = some cd ∧ cd.mro = .ref C :: ts.map .type
theorem mroT_of {K : PySem.W.Frag} {nm q : Str} {C N : Addr} {bs bm : List Value} {hd : Bool} {sn : List Str} {sub : List Value} {ab : Bool} {col : Option Bool} {dd : Option Addr} {k0 k1 k2 k3 k5 : Option Value} {newId : String} {ts : List String}
    (h : K.lookup C = some (excClassObj nm q C N bs bm hd sn sub ab col dd k0 k1 k2 k3 k5 newId)) (e : bm = ts.map .type) : MroT K C ts := by
  subst e
  exact ⟨{ name := nm, bases := bs, mro := .ref C :: ts.map .type, ns := N, qualname := q, hasDict := hd, slotNames := sn, subclasses := sub, abstract := ab, collection := col, hasDel := false }, by unfold PySem.W.clsIn; rw [h] <;> rfl, rfl⟩
theorem MroT.ref {K : PySem.W.Frag} {C D : Addr} {ts : List String} (h : MroT K C ts) : PySem.W.subIn K (.ref C) (.ref D) = some (decide (C = D)) := by
  obtain ⟨cd, h1, h2⟩ := h
  show PySem.W.mroIn K C (.ref D) = _
  unfold PySem.W.mroIn
  rw [h1, Option.bind_some, h2]
  have : (ts.map Value.type).contains (.ref D) = false := by
    rw [List.contains_eq_mem]
    simp
  by_cases e : C = D
  · subst e
    simp
  · have e2 : ¬ D = C := fun z => e z.symm
    simp [e, e2]
theorem MroT.type {K : PySem.W.Frag} {C : Addr} {ts : List String} {T : String} (h : MroT K C ts) : PySem.W.subIn K (.ref C) (.type T) = some (decide (T ∈ ts)) := by
  obtain ⟨cd, h1, h2⟩ := h
  show PySem.W.mroIn K C (.type T) = _
  unfold PySem.W.mroIn
  rw [h1, Option.bind_some, h2]
  simp
/-- isinstance over own classes that are unlike -/
theorem kit_own {K : PySem.W.Frag} {C D : Addr} {ts : List String} (h : MroT K C ts) (hc : (PySem.W.clsIn K D).isSome = true) (ht : PySem.W.typeIn K (.ref D) = some (.type "type")) : PySem.W.kitOne K (.ref C) (.ref D) = some (decide (C = D)) := by
  by_cases e : C = D
  · subst e
    rw [kit_one]
    simp
  · refine kit_cls ?_ hc ht h.ref
    have : decide (C = D) = false := by simp [e]
    rw [this, beq_eq_false_iff_ne]
    exact fun z => e (Value.ref.inj z)
end Z
namespace Z
open PySem PySem.Spec PyProof.Rows L2
/-! ### try with several clauses, each with its name -/
def wAsVs (K : PySem.W.Frag) : List (Value × Nat × TS) → Ends → WX
  | [], _ => fun _ _ _ _ => False
  | c :: r, D => fun cls d σ H => (PySem.W.exmOne K cls c.1 = some true ∧
      ∀ a, H a = none → c.2.2 { nx := fun σ' H' => D.nx (σ'.set c.2.1 none) H', rt := D.rt, bk := fun σ' H' => D.bk (σ'.set c.2.1 none) H', ct := fun σ' H' => D.ct (σ'.set c.2.1 none) H' } (σ.set c.2.1 (some (.ref a))) (upd H a (ExV cls d a))) ∨
    (PySem.W.exmOne K cls c.1 = some false ∧ wAsVs K r D cls d σ H)
inductive Clauses (X : Cx) : List ExceptHandler → List (Value × Nat × TS) → Prop
  | nil : Clauses X [] []
  | cons {x n : Str} {c : Value} {i : Nat} {suite : List Stmt} {b₀ : Stmt} {np pos' : Pos} {ts : TS} {hs : List ExceptHandler} {cs : List (Value × Nat × TS)} (hi : X.N[i]? = some n) (hln : X.env.kindOf n = some .local) (hc : Names X x c)
      (hsu : ∀ (a : Addr) (pn : List (Addr × Obj)), PSs (X.suite a pn) (b₀ :: suite) ts) (r : Clauses X hs cs) : Clauses X (.ExceptHandler (some (.Name x np)) (some n) (b₀ :: suite) pos' :: hs) ((c, i, ts) :: cs)
section
variable {X : Cx}
/-- the ground, and where it comes from -/
structure Gd (X : Cx) (pins : List (Addr × Obj)) (σ : St) (H : Hp) (cls : Value) (d : Option Addr) (a : Addr) (B : Heap) (s : Shared) : Prop where
  ex : ∃ sI : Shared, Inv X pins σ H sI ∧ (∀ b o, sI.heap.get? b = some o → b ∉ frs X.stack → B.get? b = some o) ∧ sI.heap.UpToSlots s.heap ∧ s.os = sI.os
  fl : HandSPX.FlyingZ B (X.env :: X.outer) a (Zc cls d) s.heap
  ag : AllBare s.gens
  na : H a = none
theorem Gd.gr {X : Cx} {pins : List (Addr × Obj)} {σ : St} {H : Hp} {cls : Value} {d : Option Addr} {a : Addr} {B : Heap} {s : Shared} (G : Gd X pins σ H cls d a B s) (hs : X.stack = X.env :: X.outer) (hf : X.env.frame = some X.env.locals) : Gr X pins σ H cls d a B s := by
  obtain ⟨sI, J, nb, up, os⟩ := G.ex
  exact Gr.of hs hf J nb G.fl up os G.ag G.na
theorem Gd.again {X : Cx} {pins : List (Addr × Obj)} {σ : St} {H : Hp} {cls : Value} {d : Option Addr} {a : Addr} {B : Heap} {s : Shared} {h4 : Heap} (G : Gd X pins σ H cls d a B s) (fl : HandSPX.FlyingZ B (X.env :: X.outer) a (Zc cls d) h4) (up4 : s.heap.UpToSlots h4) : Gd X pins σ H cls d a B { s with heap := h4 } := by
  obtain ⟨sI, J, nb, up, os⟩ := G.ex
  exact ⟨⟨sI, J, nb, up.trans up4, os⟩, fl, G.ag, G.na⟩
theorem Gr.handled {pins : List (Addr × Obj)} {σ : St} {H : Hp} {cls : Value} {d : Option Addr} {a : Addr} {B : Heap} {D : Ends} (hN : X.N.Nodup) (hst : X.stack = X.env :: X.outer) (hf : X.env.frame = some X.env.locals) :
    ∀ {hs : List ExceptHandler} {cs : List (Value × Nat × TS)}, Clauses X hs cs → ∀ {s : Shared}, Gd X pins σ H cls d a B s → wAsVs X.K cs D cls d σ H →
      wpAny (model X.prog X.w) X.A (handleBy (.ref a) X.env hs) (SP X pins D) X.xe s
  | _, _, .nil, s, G, w => w.elim
  | _, _, .cons (x := x) (n := n) (c := c) (i := i) (suite := suite) (b₀ := b₀) (np := np) (pos' := pos') (ts := ts) hi hln hc hsu r, s, G0, w => by
    have G3 := G0.gr hst hf
    have ok := G3.inv.ok
    have out : ∀ (f : Flow) (s6 : Shared), SP (X.suite a (X.pn ++ pins)) [] { nx := fun σ' H' => D.nx (σ'.set i none) H', rt := D.rt, bk := fun σ' H' => D.bk (σ'.set i none) H', ct := fun σ' H' => D.ct (σ'.set i none) H' } f s6 →
        wpAny (model X.prog X.w) X.A (do bindName X.env n .none; unbindBehindTheSuite X.env n pos') (fun _ s7 => SP X pins D f s7) X.xe s6 := by
      intro f s6 q
      cases f with
      | next =>
        obtain ⟨σ6, H6, S6, q6⟩ := q
        exact gone_ok (unsuite ok S6) hN hi hln fun s7 J7 => ⟨_, _, J7, q6⟩
      | brk =>
        obtain ⟨σ6, H6, S6, q6⟩ := q
        exact gone_ok (unsuite ok S6) hN hi hln fun s7 J7 => ⟨_, _, J7, q6⟩
      | cont =>
        obtain ⟨σ6, H6, S6, q6⟩ := q
        exact gone_ok (unsuite ok S6) hN hi hln fun s7 J7 => ⟨_, _, J7, q6⟩
      | ret u =>
        obtain ⟨v6, σ6, H6, S6, r6, q6⟩ := q
        exact gone_ok (unsuite ok S6) hN hi hln fun s7 J7 => ⟨_, _, _, J7, r6, q6⟩
    have S3 := G3.suite
    obtain ⟨oe, vs, he, hz, _⟩ := G3.fl.there
    refine wpAny_handleBy_cons (codeAny_handlers_test ?_) (by intro q; cases q)
    have ty : PySem.W.Looks (model X.prog X.w) s.heap (typeOf (.ref a)) cls := fun A Q E s k q => wpAny_typeOf_ref (k _ _ he) (by rw [hz.1]; exact q)
    have nm : ∀ {Q E : Value → Shared → Prop}, Q c s → wpAny (model X.prog X.w) (X.A.mark (some (.ref a))) (eval (.Name x np) X.env) Q E s := by
      intro Q E q
      obtain ⟨hg, hd, h1 | ⟨h1, h2, h3⟩⟩ := hc
      · exact ld_glob (X := X.suite a (X.pn ++ pins)) S3 hg h1 q hd
      · exact ld_blt (X := X.suite a (X.pn ++ pins)) S3 hg h1 h2 q h3 hd
    rcases w with ⟨hm, hy⟩ | ⟨hm, w⟩
    · have mt := PySem.W.exm_one (M := model X.prog X.w) G3.inv.kIn ty hm
      refine nm (mt.here ?_)
      refine codeAny_handlers_suite_as (HandSPX.lands_againZ G0.fl fun h4 fl4 up4 => ?_)
      have G4 := (G0.again fl4 up4).gr hst hf
      refine store_ok (X := X.suite a (X.pn ++ pins)) (v := .ref a) G4.suite hN hi (.inl hln) rfl (fun s5 S5 => ?_) (.inr hln)
      exact wpAny_mono ((hsu a (X.pn ++ pins)).run [] s5 _ _ _ S5 (hy a G0.na)) (fun f s6 q => out f s6 q) fun _ _ z => z.elim
    · have mt := PySem.W.exm_one (M := model X.prog X.w) G3.inv.kIn ty hm
      refine nm (mt.here ?_)
      exact Gr.handled hN hst hf r G0 w
theorem ps_try_asVs {hs : List ExceptHandler} {cs : List (Value × Nat × TS)} {body : List Stmt} {pos : Pos} {tb : WX → TS} (hst : X.stack = X.env :: X.outer) (hf : X.env.frame = some X.env.locals) (hN : X.N.Nodup)
    (hb : ∀ (W : WX) (pn : List (Addr × Obj)) (xe : Value → Shared → Prop), Takes (X.tr pn xe) W → PassesOwn (model X.prog X.w) X.A X.env xe → PSs (X.tr pn xe) body (tb W))
    (hc : Clauses X hs cs) (h0 : hs ≠ []) : PS X (.Try body hs [] [] pos) (fun D σ H => tb (wAsVs X.K cs D) D σ H) := by
  constructor
  intro pins s σ H D I h
  have ok := I.ok
  obtain ⟨hd, tl, rfl⟩ := List.exists_cons_of_ne_nil h0
  have done : ∀ (f : Flow) (s1 : Shared), SP (X.tr (X.pn ++ pins) (fun e s₁ => wpAny (model X.prog X.w) X.A (noteFrame e X.env) (fun _ s₂ => wpAny (model X.prog X.w) X.A (setFlight e none) (fun _ s₃ =>
      wpAny (model X.prog X.w) X.A (handleBy e X.env (hd :: tl)) (SP X pins D) X.xe s₃) X.xe s₂) X.xe s₁)) [] D f s1 →
      (match f with | .next => wpAny (model X.prog X.w) X.A (execs [] X.env) (SP X pins D) X.xe s1 | f => SP X pins D f s1) := by
    intro f s1 q
    cases f with
    | next =>
      obtain ⟨σ2, H2, J2, q2⟩ := q
      exact wpAny_execs_nil ⟨σ2, H2, J2.ofTry ok, q2⟩
    | brk =>
      obtain ⟨σ2, H2, J2, q2⟩ := q
      exact ⟨σ2, H2, J2.ofTry ok, q2⟩
    | cont =>
      obtain ⟨σ2, H2, J2, q2⟩ := q
      exact ⟨σ2, H2, J2.ofTry ok, q2⟩
    | ret u =>
      obtain ⟨v, σ2, H2, J2, r, q2⟩ := q
      exact ⟨v, σ2, H2, J2.ofTry ok, r, q2⟩
  refine wpAny_Try_except (wpAny_mono ((hb (wAsVs X.K cs D) (X.pn ++ pins) _ ?_ PassesOwn.looking).run [] s σ H D (I.toTry _) h) done fun _ _ q => q)
  rintro u s1 ⟨a, B, sI, pins2, σ1, H1, cls, d, rfl, J2, nb, up, sky, na, os, ag, hw⟩
  have J := J2.ofTry (pins := pins) ok
  have frames : X.A.frames = some (X.env :: X.outer) := by rw [ok.frames, hst]
  refine Sky.land Zc.steady frames hf (show Sky B (X.env :: X.outer) a (Zc cls d) X.env.locals s1.heap by rw [← hst]; exact sky) fun h3 fl3 up3 => ?_
  exact Gr.handled hN hst hf hc (s := { s1 with heap := h3 }) ⟨⟨sI, J, nb, up.trans up3, os⟩, fl3, ag, na⟩ hw
end
end Z
namespace Z
open PySem PySem.Spec PyProof.Rows L2
open PySem.SeqAt PySem.MeetsSeq PySem.MeetsSeq2 PySem.MeetsSeq3 PySem.SeqRoads2
open PySem.AutoSeq1 (wpAny_loadPart')
/-! ### == of a dict and a tuple -/
section
variable {A : Around} {s : Shared}
def TupO (h : Heap) (l : Addr) : Prop := ∃ (dd : Option Addr) (its : Array Value) (n : Nat) (sl : Array (Option Value)), h.get? l = some { cls := .type "tuple", dict := dd, data := .seq its n, slots := sl }
theorem dict_declines_tuple {prog : Program} {w : World} {E : Value → Shared → Prop} {l t : Addr} {Q : Value → Shared → Prop} (hl : DictO s.heap l) (ht : TupO s.heap t) (q : Q .notImplemented s) :
    wpAny (model prog w) A (call (.builtin "dict.__eq__") [.ref l, .ref t]) Q E s := by
  obtain ⟨dd, es, ep, sl, hl⟩ := hl
  obtain ⟨dd2, its, n, sl2, ht⟩ := ht
  refine GQ.call_here F.slot_dict_eq ⟨_, hl, rfl⟩ F.entry_dict_eq (F.args_dict_eq_2 _ _) ?_
  obtain ⟨hp, g, d, tk, os⟩ := s
  have f1 := F.sub_tuple_dict
  wp_walk using wpAny_loadPart' hl, wpAny_load hl, wpAny_loadPart' ht, wpAny_load ht
  exact q
theorem tuple_declines_dict {prog : Program} {w : World} {E : Value → Shared → Prop} {l t : Addr} {Q : Value → Shared → Prop} (hl : DictO s.heap l) (ht : TupO s.heap t) (q : Q .notImplemented s) :
    wpAny (model prog w) A (call (.builtin "tuple.__eq__") [.ref t, .ref l]) Q E s := by
  obtain ⟨dd, es, ep, sl, hl⟩ := hl
  obtain ⟨dd2, its, n, sl2, ht⟩ := ht
  refine GQ.call_here F.slot_tuple_eq ⟨_, ht, rfl⟩ F.entry_tuple_eq (F.args_tuple_eq_2 _ _) ?_
  obtain ⟨hp, g, d, tk, os⟩ := s
  have f1 := F.sub_dict_tuple
  wp_walk using wpAny_loadPart' hl, wpAny_load hl, wpAny_loadPart' ht, wpAny_load ht
  exact q
theorem rc_dict_tuple {l t : Addr} (hl : DictO s.heap l) (ht : TupO s.heap t) (hu : A.units < cLine) : RcAt A s (.ref l) (.ref t) false := by
  intro prog w E Q h
  have tl : s.TypeIs (.ref l) "dict" := by
    obtain ⟨dd, es, ep, sl, hl⟩ := hl
    exact ⟨_, hl, rfl⟩
  have tt : s.TypeIs (.ref t) "tuple" := by
    obtain ⟨dd, its, n, sl, ht⟩ := ht
    exact ⟨_, ht, rfl⟩
  have ne : l ≠ t := by
    intro z
    subst z
    obtain ⟨_, _, _, _, e1⟩ := hl
    obtain ⟨_, _, _, _, e2⟩ := ht
    rw [e1] at e2
    have z := congrArg (Option.map Obj.cls) e2
    simp at z
  refine rc_eq_decline_or (k := false) tl tt (by decide) F.sub_tuple_dict F.slot_dict_eq F.slot_tuple_eq_refl (fun _ hq => dict_declines_tuple hl ht hq) (fun _ hq => tuple_declines_dict hl ht hq)
    (fun _ hq => ?_) (.inr hu) h
  obtain ⟨_, _, _, _, e1⟩ := hl
  obtain ⟨_, _, _, _, e2⟩ := ht
  first
    | exact wpAny_isSame_ref_other ne e1 e2 (by simp) hq
    | exact wpAny_isSame_ref_other' ne e1 e2 (by simp) hq
end
section
variable {X : Cx}
def rEqDT (K : PySem.W.Frag) : R2 := fun x y H Q => ∃ (a b : Addr) (kvs : List (Key × V)) (ys : List V), x = .ref a ∧ y = .ref b ∧ H a = some (.dK kvs) ∧ SqT K H b ys ∧ Q (.bl false) H
theorem op_eqDT (hu : X.A.units + 64 < cLine) : OpR X (compareOp .Eq) (rEqDT X.K) := by
  intro pins s σ H x y v u Q I rx ry h
  obtain ⟨a, b, kvs, ys, rfl, rfl, ha, hb, q⟩ := h
  obtain rfl : v = Value.ref a := rx
  obtain rfl : u = Value.ref b := ry
  have dO : DictO s.heap a := by
    obtain ⟨_, _, vs, _, ⟨oc, od, dt, sl⟩, es, ep, e1, e2, e3, _⟩ := (show ObjOk X.prog X.w H s.heap a (.dK kvs) from I.hok a _ ha)
    have c1 := e2.1
    simp only at c1 e3
    subst c1 e3
    exact ⟨od, es, ep, sl, e1⟩
  obtain ⟨its, rv, px, _⟩ := I.tuple hb
  have tO : TupO s.heap b := by
    obtain ⟨⟨oc, od, dt, sl⟩, e1, c1, n, d1⟩ := px
    simp only at c1 d1
    subst c1 d1
    exact ⟨od, _, n, sl, e1⟩
  exact rc_dict_tuple dO tO (show X.A.units < cLine by omega) X.prog X.w X.xe _ ⟨.bl false, H, I, rfl, q⟩
/-! ### == and != of lists whose items are alike one by one: the same object, or equal scalars -/
def SmV (v : V) : Prop := v = .non ∨ (∃ b, v = .bl b) ∨ (∃ i, v = .int i) ∨ (∃ z, v = .str z) ∨ ∃ a, v = .ref a
theorem smV_eq {A : Around} {s : Shared} {v : V} {u w : Value} (h : SmV v) (r1 : RelV v u) (r2 : RelV v w) : EqAt A s u w true := by
  rcases h with rfl | ⟨b, rfl⟩ | ⟨i, rfl⟩ | ⟨z, rfl⟩ | ⟨a, rfl⟩
  · cases r1; cases r2
    exact EqAt.same _
  · cases r1; cases r2
    exact EqAt.same _
  · obtain ⟨t1, rfl⟩ := r1
    obtain ⟨t2, rfl⟩ := r2
    have := EqAt.int_int (A := A) (s := s) i t1 i t2
    simpa using this
  · obtain ⟨t1, rfl⟩ := r1
    obtain ⟨t2, rfl⟩ := r2
    have := EqAt.str_str (A := A) (s := s) z t1 z t2
    simpa using this
  · cases r1; cases r2
    exact EqAt.same _
def rEqI (K : PySem.W.Frag) (neg : Bool) : R2 := fun x y H Q => ∃ (a b : Addr) (xs : List V), x = .ref a ∧ y = .ref b ∧ SqL K H a xs ∧ SqL K H b xs ∧ (∀ v ∈ xs, SmV v) ∧ Q (.bl (!neg)) H
theorem listsI {pins : List (Addr × Obj)} {σ : St} {H : Hp} {s : Shared} {a b : Addr} {xs : List V} (I : Inv X pins σ H s) (ha : SqL X.K H a xs) (hb : SqL X.K H b xs) (hs : ∀ v ∈ xs, SmV v) :
    ∃ i1 i2 : Array Value, s.heap.IsList a i1 ∧ s.heap.IsList b i2 ∧ i1.size = i2.size ∧ ∀ A j (h1 : j < i1.size) (h2 : j < i2.size), EqAt A s i1[j] i2[j] true := by
  obtain ⟨its1, r1, p1, _⟩ := I.list ha
  obtain ⟨its2, r2, p2, _⟩ := I.list hb
  refine ⟨its1.toArray, its2.toArray, p1.isList, p2.isList, ?_, fun A j h1 h2 => ?_⟩
  · simp only [List.size_toArray]
    exact r1.length.symm.trans r2.length
  · have h1' : j < its1.length := by simpa using h1
    have hj : j < xs.length := by rw [r1.length]; exact h1'
    obtain ⟨u1, e1, q1⟩ := r1.get (List.getElem?_eq_getElem hj)
    obtain ⟨u2, e2, q2⟩ := r2.get (List.getElem?_eq_getElem hj)
    have z1 : its1.toArray[j] = u1 := by
      have := (List.getElem?_eq_some_iff.mp e1).2
      simpa using this
    have z2 : its2.toArray[j] = u2 := by
      have := (List.getElem?_eq_some_iff.mp e2).2
      simpa using this
    rw [z1, z2]
    exact smV_eq (hs _ (List.getElem_mem hj)) q1 q2
theorem op_eqI (hu : X.A.units + 64 < cLine) : OpR X (compareOp .Eq) (rEqI X.K false) := by
  intro pins s σ H x y v u Q I rx ry h
  obtain ⟨a, b, xs, rfl, rfl, ha, hb, hs, q⟩ := h
  obtain rfl : v = Value.ref a := rx
  obtain rfl : u = Value.ref b := ry
  obtain ⟨i1, i2, p1, p2, hz, he⟩ := listsI I ha hb hs
  have rc := RcAt.lists (A := X.A) (e := fun _ => true) p1 p2 hz (show X.A.units < cLine by omega) fun j h1 h2 => he _ j h1 h2
  have e : ((List.range i1.size).all fun _ => true) = true := by simp
  rw [e] at rc
  exact rc X.prog X.w X.xe _ ⟨.bl true, H, I, rfl, q⟩
theorem op_neI (hu : X.A.units + 64 < cLine) : OpR X (compareOp .NotEq) (rEqI X.K true) := by
  intro pins s σ H x y v u Q I rx ry h
  obtain ⟨a, b, xs, rfl, rfl, ha, hb, hs, q⟩ := h
  obtain rfl : v = Value.ref a := rx
  obtain rfl : u = Value.ref b := ry
  obtain ⟨i1, i2, p1, p2, hz, he⟩ := listsI I ha hb hs
  have rc := RcNeAt.lists (A := X.A) (e := fun _ => true) p1 p2 hz (show X.A.units < cLine by omega) fun j h1 h2 => he _ j h1 h2
  have e : ((List.range i1.size).all fun _ => true) = true := by simp
  rw [e] at rc
  exact rc X.prog X.w X.xe _ ⟨.bl false, H, I, rfl, q⟩
def zEqI (K : PySem.W.Frag) : R2 := fun x y H Q => rEqI K false x y H Q ∨ rEqDT K x y H Q ∨ zEq K x y H Q
def zNeI (K : PySem.W.Frag) : R2 := fun x y H Q => rEqI K true x y H Q ∨ zNe K x y H Q
theorem op_zEqI (hu : X.A.units + 64 < cLine) : OpR X (compareOp .Eq) (zEqI X.K) := (op_eqI hu).or ((op_eqDT hu).or (op_zEq hu))
theorem op_zNeI (hu : X.A.units + 64 < cLine) : OpR X (compareOp .NotEq) (zNeI X.K) := (op_neI hu).or (op_zNe hu)
end
end Z
namespace Z
open PySem PySem.Spec PyProof.Rows L2
/-! ### C(e, .., k = v, ..), its __init__ may raise -/
def zMakeK (C : Addr) (n m : Nat) (sp : Sp) (gV : List V → List V → List V) (E : St → XK) (t tk : TA) : TE := fun σ H Q => t σ H fun vs H1 => tk σ H1 fun zs H2 => vs.length = n ∧ zs.length = m ∧ ∀ x dx, H2 x = none → H2 dx = none → dx ≠ x →
  sp (gV (.ref x :: vs) zs) (upd (upd H2 dx (.own x)) x (.ins C dx [])) (fun v H3 => v = .non ∧ Q (.ref x) H3) (E σ)
section
variable {gd : Bool} {X : Cx} {k n : Nat} {f C : Addr} {fd : FuncData} {ps ks : List Str} {sp : Sp} {E : St → XK} {x : Str} {p pos : Pos} {e : Expr} {es : List Expr} {kws : List Keyword} {t tk : TA} {g : List Value → List Value → List Value} {gV : List V → List V → List V}
theorem pe_makeZK (M : Mk X.K C f) (F : FnG gd X.prog X.w X.K X.mg X.base k f fd ps sp) (hr : Room (k + 1) X.A) (hgu : gd = true → X.A.guards = some []) (hg : Gl X x) (hm : X.mg x = some (.ref C)) (hb : KBn X.K fd ps (n + 1) ks g gV) (hx : ∀ σ, PassesAt (L2.CX X.prog X.w) X σ (E σ))
    (ha : PA X (e :: es) t) (hkw : PK X kws tk)
    (hall : (backToKw pos (keywordEach kws X.env)).all (·.1.isSome) = true := by rfl) (hks : (backToKw pos (keywordEach kws X.env)).filterMap (·.1) = ks := by rfl) (hdb : (x == ("__debug__" : Str)) = false := by decide)
    (he : starEach (e :: es) X.env = (false, eval e X.env) :: starEach es X.env := by rfl) (hpl : ((backTo pos (starEach (e :: es) X.env)).any (·.1) || (backToKw pos (keywordEach kws X.env)).any (·.1.isNone)) = false := by rfl) :
    PE X (.Call (.Name x p) (e :: es) kws pos) (zMakeK C n ks.length sp gV E t tk) := by
  constructor
  intro pins s σ H Q I h
  refine wpAny_Call_Name_kw (ld_glob I hg hm ?_ hdb)
  refine PySem.W.callWith_KW (h₀ := X.base) I.ok.mod.kin M.kp hall (thn (ha.run pos pins s σ H _ I h) fun us s1 ⟨vs, H1, I1, r, q⟩ => ?_) hpl he
  refine thn (hkw.run pos pins s1 σ H1 _ I1 q) fun ws s2 ⟨zs, H2, I2, rz, l1, l2, q2⟩ => ⟨I2.kIn, ?_⟩
  rw [hks]
  have n0 := I2.hok.fresh (Nat.le_refl s2.heap.objs.size)
  have n1 := I2.hok.fresh (Nat.le_succ s2.heap.objs.size)
  have hq := q2 _ _ n1 n0 (Nat.ne_of_lt (Nat.lt_succ_self _))
  have I3 := Inv.made (C := C) I2
  have r1 : Vals (V.ref (s2.heap.objs.size + 1) :: vs) (Value.ref (s2.heap.objs.size + 1) :: us) := .cons rfl r
  have r2 := hb.rel r1 rz
  have m1 : (Value.ref (s2.heap.objs.size + 1) :: us).length = n + 1 := by
    rw [List.length_cons, ← r.length, l1]
  show wpAny _ _ (call (.ref C) us (ks.zip ws)) _ _ _
  refine wpAny_call (make_map (f := f) I2.kIn M.makes M.init (beq_iff_eq.mp M.fn) (codeAny_mono (F.run _ X.stack _ _ ⟨Value.ref (s2.heap.objs.size + 1) :: us, ks.zip ws⟩ (g (Value.ref (s2.heap.objs.size + 1) :: us) ws) _ _ (E σ) (hr.make C us (ks.zip ws))
    (fun z => guards_make (hgu z)) (I3.env0.make C us (ks.zip ws)) (hb.to _ (Value.ref (s2.heap.objs.size + 1) :: us) ws I3.kIn m1 (rz.length.symm.trans l2)) r2 hq) fun r s' hq' => ?_))
  rcases r with er | fl
  · exact hx σ pins _ _ er s' I3 hq'
  · cases fl with
    | ret u =>
      obtain ⟨v, H', I4, rv, ev, q3⟩ := I3.after hq'
      subst ev
      exact ⟨rv, ⟨V.ref (s2.heap.objs.size + 1), H', I4, rfl, q3⟩⟩
    | next => exact hq'.elim
    | brk => exact hq'.elim
    | cont => exact hq'.elim
end
/-! ### cls(e, .., *xs), the class in a local name -/
def zNewS (i : Nat) (C : Addr) (sp : Sp) (E : XK) (t : TA) : TE := fun σ H Q => σ[i]? = some (some (.ref C)) ∧ t σ H fun vs H1 => ∀ o dx, H1 o = none → H1 dx = none → dx ≠ o → sp (.ref o :: vs) (upd (upd H1 dx (.own o)) o (.ins C dx [])) (fun v H2 => v = .non ∧ Q (.ref o) H2) E
section
variable {X : Cx} {k i : Nat} {f C : Addr} {sp : Sp} {x : Str} {e : Expr} {es : List Expr} {t : TA} {p pos : Pos} {E : XK}
theorem pe_zNewS (M : Mk X.K C f) (F : FnR X.prog X.w X.K X.mg X.base (L2.CX X.prog X.w) k f sp) (hr : Room (k + 1) X.A) (hN : X.N[i]? = some x) (hv : Vis X.env.scope x) (hx : Passes (L2.CX X.prog X.w) X E) (ha : PA X (e :: es) t)
    (hdb : (x == ("__debug__" : Str)) = false := by decide) (hcd : (x == ("__classdict__" : Str)) = false := by decide) (he : starEach (e :: es) X.env = (false, eval e X.env) :: starEach es X.env := by rfl) (hst : (backTo pos (starEach es X.env)).any (·.1) = true := by rfl) :
    PE X (.Call (.Name x p) (e :: es) [] pos) (zNewS i C sp E t) := by
  constructor
  intro pins s σ H Q I h
  obtain ⟨hs, ht⟩ := h
  refine wpAny_Call_Name_kw (thn ((pe_var (pos := p) hN hv hdb hcd).run pins s σ H (fun v H1 => v = .ref C ∧ H1 = H) I ⟨.ref C, hs, rfl, rfl⟩) ?_)
  rintro u s1 ⟨v, H1, I1, r1, rfl, rfl⟩
  cases r1
  refine PySem.W.callWith_S2 (h₀ := X.base) I.ok.mod.kin M.kp (thn (ha.run pos pins s1 σ _ _ I1 ht) ?_) he hst
  rintro us s2 ⟨vs, H2, I2, rv, q⟩
  exact ⟨I2.kIn, StX.run_makeR M F hr hx I2 rv q⟩
end
theorem bind_star3 {B : List Value → Sem (List (Str × Value))} {p1 p2 p3 pv : Str} (h0 : ∀ a b c, B [a, b, c] = (newTuple [] >>= fun t => pure [(p1, a), (p2, b), (p3, c), (pv, t)]))
    (h1 : ∀ a b c r rs, B (a :: b :: c :: r :: rs) = (newTuple (r :: rs) >>= fun t => pure [(p1, a), (p2, b), (p3, c), (pv, t)])) :
    ∀ us rest : List Value, us.length = 3 → B (us ++ rest) = (newTuple rest >>= fun t => pure (([p1, p2, p3] : List Str).zip us ++ [(pv, t)]))
  | [a, b, c], [], _ => h0 a b c
  | [a, b, c], r :: rs, _ => h1 a b c r rs
/-! ### one != other by an own __eq__ -/
section
variable {prog : Program} {w : World} {A : Around} {E : Value → Shared → Prop} {s : Shared} {K : PySem.W.Frag} {x C f : Addr} {ox : Obj} {od : Option Obj} {name : Str} {b : Value}
open PySem.W in
theorem ifBound_B {M : Model} {args : List Value} {id : String} {Q : Option Value → Shared → Prop} (X : K.In s.heap) (I : InstAt s.heap x ox C od) (hs : findIn K (.ref C) name = some (some (.builtin id))) (hb : ∀ self, bindSpecial (.builtin id) self = pure (.builtin id, [self]))
    (h : wpAny M A (call (.builtin id) (.ref x :: args)) (fun v => Q (some v)) E s) : wpAny M A (callSpecialIfBound? (.ref x) name args) Q E s := by
  simp only [callSpecialIfBound?, bindSpecialIfBound?]
  refine wpAny_holding (wpAny_bind (wpAny_bind (wpAny_bind (I.type.here ((looks_findIn X hs).here ?_)))))
  refine wpAny_bind (wpAny_askSetting (wpAny_ite ?_))
  have fin : wpAny M A (call (.builtin id) ([.ref x] ++ args) >>= fun v => pure (some v)) Q E s := wpAny_bind (wpAny_mono h (fun v s' h' => wpAny_pure h') fun _ _ h' => h')
  split
  · rw [hb]
    exact wpAny_bind (wpAny_pure (wpAny_pure (by exact fin)))
  · rw [hb]
    exact wpAny_tryCatch (wpAny_bind (wpAny_pure (wpAny_pure (by exact fin))))
open PySem.W in
theorem objNe_K (X : K.In s.heap) (I : InstAt s.heap x ox C od) (hs : findIn K (.ref C) "__eq__" = some (some (.ref f))) (hf : isFn K (.ref f) = true) (hu : A.units < cLine) {Q : Fin → Shared → Prop}
    (hcall : wpAny (model prog w) A (call (.ref f) [.ref x, b]) (fun v s' => ∃ c, v = .bool c ∧ Q (.done (.ret (.bool (!c)))) s') E s) :
    wpAny (model prog w) A (Builtin.«object.__ne__» ⟨[.ref x, b], []⟩) Q E s := by
  obtain ⟨hp, g, d, t, os⟩ := s
  unfold Builtin.«object.__ne__»
  repeat (first
    | with_reducible refine wpAny_cRoomFor hu ?_
    | (refine wpAny_bind (m := callSpecialIfBound? (.ref x) (Str.ofString "__eq__") [b])
        (ifBound_K X I hs hf (wpAny_mono hcall (fun r s' hr => by
          obtain ⟨c, rfl, hq⟩ := hr
          repeat (first | exact hq | exact wpAny_pure hq | exact wpAny_truthy_bool hq | (refine wpAny_bind (m := truthy (.bool _)) (wpAny_truthy_bool ?_)) | wp_step)) fun _ _ e => e)))
    | wp_step)
open PySem.W in
theorem tryNe_K (X : K.In s.heap) (I : InstAt s.heap x ox C od) (hs : findIn K (.ref C) "__eq__" = some (some (.ref f))) (hn : findIn K (.ref C) "__ne__" = some (some (.builtin "object.__ne__"))) (hf : isFn K (.ref f) = true) (hm : mroIn K C (.type "object") = some true)
    (hu : A.in1.units < cLine) {Q : Option Value → Shared → Prop} (hcall : wpAny (model prog w) A.in1 (call (.ref f) [.ref x, b]) (fun v s' => ∃ c, v = .bool c ∧ Q (some (.bool (!c))) s') E s) :
    wpAny (model prog w) A (tryCompare (.ref x) "__ne__" b) Q E s := by
  have FB := PySem.F.cmp_object
  have sub : Looks (model prog w) s.heap (isInstance (.ref x) (.type "object")) true := I.type.andThen (looks_mroIn X hm)
  simp only [tryCompare]
  refine wpAny_bind (ifBound_B X I hn FB.ne.bind (wpAny_call (codeAny_call_builtin FB.ne.plain PySem.F.cmpEntry_ne
    (@PySem.W.check_slot (model prog w) _ _ s "object.__ne__" "object" "__ne__" (.ref x) [b] [] _ PySem.F.cmpKind_ne PySem.F.cmpSplit_ne sub (PySem.F.cmpArgs_ne _ _)
      (objNe_K (A := A.in1) X I hs hf hu (wpAny_mono hcall (fun v s' hv => ?_) fun _ _ e => e))))))
  obtain ⟨c, rfl, hq⟩ := hv
  first | exact ⟨c, rfl, wpAny_pure hq⟩ | exact ⟨c, rfl, wpAny_pure (wpAny_pure hq)⟩ | exact ⟨c, rfl, hq⟩
end
def zNeO (C : Addr) (sp : Sp) : R2 := fun x y H Q => ∃ a b dx dy fs gs, x = .ref a ∧ y = .ref b ∧ H a = some (.ins C dx fs) ∧ H b = some (.ins C dy gs) ∧
  sp [x, y] H (fun v H1 => ∃ c, v = .bl c ∧ Q (.bl (!c)) H1) fun _ _ _ => False
section
variable {X : Cx} {n : Nat} {C f : Addr} {sp : Sp}
theorem op_zNeO (F : FnR X.prog X.w X.K X.mg X.base (L2.CX X.prog X.w) n f sp) (hs : PySem.W.findIn X.K (.ref C) "__eq__" = some (some (.ref f))) (hn : PySem.W.findIn X.K (.ref C) "__ne__" = some (some (.builtin "object.__ne__")))
    (hf : PySem.W.isFn X.K (.ref f) = true) (hm : PySem.W.mroIn X.K C (.type "object") = some true) (hr : Room (n + 1) X.A) : OpR X (compareOp .NotEq) (zNeO C sp) := by
  intro pins s σ H x y v u Q I rx ry h
  obtain ⟨a, b, dx, dy, fs, gs, rfl, rfl, ha, hb, h⟩ := h
  obtain rfl : v = Value.ref a := rx
  obtain rfl : u = Value.ref b := ry
  obtain ⟨mA, J1, _⟩ := ins_get I.hok ha
  obtain ⟨mB, J2, _⟩ := ins_get I.hok hb
  obtain ⟨od1, J1, _⟩ := J1.look
  obtain ⟨od2, J2, _⟩ := J2.look
  have room : Room n X.A.in1 := hr.in1
  have FB := PySem.F.cmp_object
  have ask : wpAny (model X.prog X.w) X.A.in1 (call (.ref f) [.ref a, .ref b]) (fun r s2 => ∃ c, r = .bool c ∧ EP X pins σ Q (.bool (!c)) s2) X.xe s := by
    have e := I.env0
    have e0 : Env0 X.prog X.w X.K X.mg X.base X.A.in1 X.stack s H := ⟨e.frames, e.mod, e.bs, e.bsz, e.funs, e.frf, e.hok, e.bare⟩
    refine wpAny_call (codeAny_mono (F X.A.in1 X.stack s H [.ref a, .ref b] [.ref a, .ref b] _ _ room e0 (.cons rfl (.cons rfl .nil)) h) fun r s2 hq => ?_)
    rcases r with er | fl
    · exact passN pins σ H s er s2 I hq
    · cases fl with
      | ret w =>
        obtain ⟨z, H2, I2, rz, c, ez, q⟩ := I.after hq
        subst ez
        obtain rfl : w = Value.bool c := rz
        exact ⟨c, rfl, .bl (!c), H2, I2, rfl, q⟩
      | next => exact hq.elim
      | brk => exact hq.elim
      | cont => exact hq.elim
  show wpAny (model X.prog X.w) X.A (richCompare .NotEq (.ref a) (.ref b)) (EP X pins σ Q) X.xe s
  obtain ⟨hp, g, d, tk, os⟩ := s
  have hun : X.A.units < cLine := hr.units0
  have hun1 : X.A.in1.units < cLine := room.units0
  unfold richCompare
  simp only [oneThing_ref]
  refine wpAny_holding (wpAny_bind (wpAny_cRoomFor hun ?_))
  rw [cmpInfo_NotEq]
  dsimp only
  refine wpAny_bind (J1.type.here (wpAny_bind (J2.type.here ?_)))
  rw [show (Value.ref C != Value.ref C) = false from by simp]
  simp only [Bool.false_eq_true, if_false]
  refine wpAny_bind (wpAny_pure ?_)
  simp only [Bool.false_eq_true, if_false]
  refine wpAny_bind (tryNe_K (s := ⟨hp, g, d, tk, os⟩) I.kIn J1 hs hn hf hm hun1 (wpAny_mono ask (fun r s' z => ?_) fun _ _ z => z))
  obtain ⟨c, rfl, q⟩ := z
  exact ⟨c, rfl, wpAny_pure q⟩
end
end Z
namespace Z
open PySem PySem.Spec PyProof.Rows L2
theorem kit_subT {K : PySem.W.Frag} {t : Value} {C : Addr} (hc : (PySem.W.clsIn K C).isSome = true) (ht : PySem.W.typeIn K (.ref C) = some (.type "type")) (hs : PySem.W.subIn K t (.ref C) = some true) : PySem.W.kitOne K t (.ref C) = some true := by
  unfold PySem.W.kitOne PySem.W.kitCls
  by_cases e : (t == Value.ref C) = true
  · rw [if_pos e]
  · rw [if_neg e]
    simp [hc, ht, hs]
theorem exm_other {K : PySem.W.Frag} {D C : Addr} (b : PySem.W.subIn K (.ref C) (.type "BaseException") = some true) (c : PySem.W.isClsIn K C = true) (t : PySem.W.typeIn K (.ref C) = some (.type "type")) (u : PySem.W.subIn K (.ref D) (.ref C) = some false) :
    PySem.W.exmOne K (.ref D) (.ref C) = some false := by
  have c' : (PySem.W.clsIn K C).isSome = true := c
  simp [PySem.W.exmOne, PySem.W.kitCls, b, c', t, u]
def rCountS : V → List V → Hp → VK → Prop := fun x xs H Q => ∃ a b, x = .str a ∧ xs = [.str b] ∧ Q (.int (Txt.count a b)) H
theorem mt_countZ {X : Cx} : MtR X "str.count" rCountS := mt_count
end Z
namespace Z
open PySem PySem.Spec PyProof.Rows L2
def top (i : Nat) : Stmt := PySem.Challenge.pw_falsedefaults_k02_plain_steps_refused.main.body.getD i (.Pass ⟨0, 0, 0, 0⟩)
abbrev s_BadName_init : Stmt := inClass (top 2) 0
abbrev s_BadValue_init : Stmt := inClass (top 3) 0
abbrev s_TooMany_init : Stmt := inClass (top 4) 0
abbrev s_is_name : Stmt := top 10
abbrev s_is_int : Stmt := top 11
abbrev s_check_name : Stmt := top 12
abbrev s_check_operand : Stmt := top 13
abbrev s_check_operands : Stmt := top 14
abbrev s_Step_parts : Stmt := inClass (top 15) 1
abbrev s_Step_eq : Stmt := inClass (top 15) 3
abbrev s_Read_init : Stmt := inClass (top 16) 1
abbrev s_Read_parts : Stmt := inClass (top 16) 2
abbrev s_Let_init : Stmt := inClass (top 17) 1
abbrev s_Let_parts : Stmt := inClass (top 17) 2
abbrev s_Work_init : Stmt := inClass (top 18) 1
abbrev s_Work_made : Stmt := inClass (top 18) 2
abbrev s_Work_parts : Stmt := inClass (top 18) 3
abbrev s_Put_init : Stmt := inClass (top 19) 1
abbrev s_Put_parts : Stmt := inClass (top 19) 2
abbrev s_Keep_init : Stmt := inClass (top 20) 1
abbrev s_Keep_parts : Stmt := inClass (top 20) 2
abbrev s_Show_init : Stmt := inClass (top 21) 1
abbrev s_Show_parts : Stmt := inClass (top 21) 2
abbrev s_Has_init : Stmt := inClass (top 22) 0
abbrev s_Has_eq : Stmt := inClass (top 22) 1
abbrev s_Typed_init : Stmt := inClass (top 23) 0
abbrev s_Typed_eq : Stmt := inClass (top 23) 1
abbrev s_Holds_init : Stmt := inClass (top 24) 0
abbrev s_Holds_made : Stmt := inClass (top 24) 1
abbrev s_Holds_eq : Stmt := inClass (top 24) 2
abbrev s_law_deck : Stmt := top 26
abbrev s_law_draw : Stmt := top 27
abbrev s_law_of : Stmt := top 28
abbrev s_law_number : Stmt := top 29
abbrev s_law_names : Stmt := top 30
abbrev s_law_odd_name : Stmt := top 31
abbrev s_law_odd_operand : Stmt := top 32
abbrev s_law_operand : Stmt := top 33
abbrev s_law_made : Stmt := top 34
abbrev s_law_told : Stmt := top 35
abbrev s_law_due : Stmt := top 36
abbrev s_law : Stmt := top 37
structure Ads where
  f_BadName_init : Addr
  d_BadName_init : FuncData
  f_BadValue_init : Addr
  d_BadValue_init : FuncData
  f_TooMany_init : Addr
  d_TooMany_init : FuncData
  f_is_name : Addr
  d_is_name : FuncData
  f_is_int : Addr
  d_is_int : FuncData
  f_check_name : Addr
  d_check_name : FuncData
  f_check_operand : Addr
  d_check_operand : FuncData
  f_check_operands : Addr
  d_check_operands : FuncData
  f_Step_parts : Addr
  d_Step_parts : FuncData
  f_Step_eq : Addr
  d_Step_eq : FuncData
  f_Read_init : Addr
  d_Read_init : FuncData
  f_Read_parts : Addr
  d_Read_parts : FuncData
  f_Let_init : Addr
  d_Let_init : FuncData
  f_Let_parts : Addr
  d_Let_parts : FuncData
  f_Work_init : Addr
  d_Work_init : FuncData
  f_Work_made : Addr
  d_Work_made : FuncData
  f_Work_parts : Addr
  d_Work_parts : FuncData
  f_Put_init : Addr
  d_Put_init : FuncData
  f_Put_parts : Addr
  d_Put_parts : FuncData
  f_Keep_init : Addr
  d_Keep_init : FuncData
  f_Keep_parts : Addr
  d_Keep_parts : FuncData
  f_Show_init : Addr
  d_Show_init : FuncData
  f_Show_parts : Addr
  d_Show_parts : FuncData
  f_Has_init : Addr
  d_Has_init : FuncData
  f_Has_eq : Addr
  d_Has_eq : FuncData
  f_Typed_init : Addr
  d_Typed_init : FuncData
  f_Typed_eq : Addr
  d_Typed_eq : FuncData
  f_Holds_init : Addr
  d_Holds_init : FuncData
  f_Holds_made : Addr
  d_Holds_made : FuncData
  f_Holds_eq : Addr
  d_Holds_eq : FuncData
  f_law_deck : Addr
  d_law_deck : FuncData
  f_law_draw : Addr
  d_law_draw : FuncData
  f_law_of : Addr
  d_law_of : FuncData
  f_law_number : Addr
  d_law_number : FuncData
  f_law_names : Addr
  d_law_names : FuncData
  f_law_odd_name : Addr
  d_law_odd_name : FuncData
  f_law_odd_operand : Addr
  d_law_odd_operand : FuncData
  f_law_operand : Addr
  d_law_operand : FuncData
  f_law_made : Addr
  d_law_made : FuncData
  f_law_told : Addr
  d_law_told : FuncData
  f_law_due : Addr
  d_law_due : FuncData
  f_law : Addr
  d_law : FuncData
  c_BadName : Addr
  c_BadValue : Addr
  c_TooMany : Addr
  c_Step : Addr
  c_Read : Addr
  c_Let : Addr
  c_Work : Addr
  p_Work_made : Addr
  c_Put : Addr
  c_Keep : Addr
  c_Show : Addr
  c_Has : Addr
  c_Typed : Addr
  c_Holds : Addr
  p_Holds_made : Addr
  t_Read_init : Addr
structure Txt (K : PySem.W.Frag) (mg : Str → Option Value) (g : Ads) : Prop where
  f_BadName_init : Fun K "__init__" "BadName.__init__" s_BadName_init g.f_BadName_init g.d_BadName_init
  e_BadName_init : Binds K g.d_BadName_init ["self", "name"] []
  f_BadValue_init : Fun K "__init__" "BadValue.__init__" s_BadValue_init g.f_BadValue_init g.d_BadValue_init
  e_BadValue_init : Binds K g.d_BadValue_init ["self", "value"] []
  f_TooMany_init : Fun K "__init__" "TooMany.__init__" s_TooMany_init g.f_TooMany_init g.d_TooMany_init
  e_TooMany_init : Binds K g.d_TooMany_init ["self", "limit"] []
  f_is_name : Fun K "is_name" "is_name" s_is_name g.f_is_name g.d_is_name
  e_is_name : Binds K g.d_is_name ["thing"] []
  g_is_name : mg "is_name" = some (.ref g.f_is_name)
  k_is_name : PySem.W.keepIn K (.ref g.f_is_name) = true
  f_is_int : Fun K "is_int" "is_int" s_is_int g.f_is_int g.d_is_int
  e_is_int : Binds K g.d_is_int ["thing"] []
  g_is_int : mg "is_int" = some (.ref g.f_is_int)
  k_is_int : PySem.W.keepIn K (.ref g.f_is_int) = true
  f_check_name : Fun K "check_name" "check_name" s_check_name g.f_check_name g.d_check_name
  e_check_name : Binds K g.d_check_name ["thing"] []
  g_check_name : mg "check_name" = some (.ref g.f_check_name)
  k_check_name : PySem.W.keepIn K (.ref g.f_check_name) = true
  f_check_operand : Fun K "check_operand" "check_operand" s_check_operand g.f_check_operand g.d_check_operand
  e_check_operand : Binds K g.d_check_operand ["thing"] []
  g_check_operand : mg "check_operand" = some (.ref g.f_check_operand)
  k_check_operand : PySem.W.keepIn K (.ref g.f_check_operand) = true
  f_check_operands : Fun K "check_operands" "check_operands" s_check_operands g.f_check_operands g.d_check_operands
  e_check_operands : Binds K g.d_check_operands ["things"] []
  g_check_operands : mg "check_operands" = some (.ref g.f_check_operands)
  k_check_operands : PySem.W.keepIn K (.ref g.f_check_operands) = true
  f_Step_parts : Fun K "parts" "Step.parts" s_Step_parts g.f_Step_parts g.d_Step_parts
  e_Step_parts : Binds K g.d_Step_parts ["self"] []
  f_Step_eq : Fun K "__eq__" "Step.__eq__" s_Step_eq g.f_Step_eq g.d_Step_eq
  e_Step_eq : Binds K g.d_Step_eq ["self", "other"] []
  f_Read_init : Fun K "__init__" "Read.__init__" s_Read_init g.f_Read_init g.d_Read_init
  e_Read_init : Binds K g.d_Read_init ["self", "into", "target", "default"] [.ref g.t_Read_init]
  kt_Read_init : ∀ H, SqT K H g.t_Read_init []
  kz_3 : KBn K g.d_Read_init ["self", "into", "target", "default"] 3 ["default"] (fun us ws => us ++ ws) (fun us ws => us ++ ws)
  f_Read_parts : Fun K "parts" "Read.parts" s_Read_parts g.f_Read_parts g.d_Read_parts
  e_Read_parts : Binds K g.d_Read_parts ["self"] []
  f_Let_init : Fun K "__init__" "Let.__init__" s_Let_init g.f_Let_init g.d_Let_init
  e_Let_init : Binds K g.d_Let_init ["self", "into", "value"] []
  f_Let_parts : Fun K "parts" "Let.parts" s_Let_parts g.f_Let_parts g.d_Let_parts
  e_Let_parts : Binds K g.d_Let_parts ["self"] []
  f_Work_init : Fun K "__init__" "Work.__init__" s_Work_init g.f_Work_init g.d_Work_init
  f_Work_made : Fun K "made" "Work.made" s_Work_made g.f_Work_made g.d_Work_made
  e_Work_made : Binds K g.d_Work_made ["cls", "into", "function", "operands"] []
  f_Work_parts : Fun K "parts" "Work.parts" s_Work_parts g.f_Work_parts g.d_Work_parts
  e_Work_parts : Binds K g.d_Work_parts ["self"] []
  f_Put_init : Fun K "__init__" "Put.__init__" s_Put_init g.f_Put_init g.d_Put_init
  kz_0 : KBn K g.d_Put_init ["self", "cell", "value", "typed"] 3 ["typed"] (fun us ws => us ++ ws) (fun us ws => us ++ ws)
  f_Put_parts : Fun K "parts" "Put.parts" s_Put_parts g.f_Put_parts g.d_Put_parts
  e_Put_parts : Binds K g.d_Put_parts ["self"] []
  f_Keep_init : Fun K "__init__" "Keep.__init__" s_Keep_init g.f_Keep_init g.d_Keep_init
  kz_1 : KBn K g.d_Keep_init ["self", "slot", "value", "late"] 3 ["late"] (fun us ws => us ++ ws) (fun us ws => us ++ ws)
  f_Keep_parts : Fun K "parts" "Keep.parts" s_Keep_parts g.f_Keep_parts g.d_Keep_parts
  e_Keep_parts : Binds K g.d_Keep_parts ["self"] []
  f_Show_init : Fun K "__init__" "Show.__init__" s_Show_init g.f_Show_init g.d_Show_init
  kz_2 : KBn K g.d_Show_init ["self", "field", "value", "guess"] 3 ["guess"] (fun us ws => us ++ ws) (fun us ws => us ++ ws)
  f_Show_parts : Fun K "parts" "Show.parts" s_Show_parts g.f_Show_parts g.d_Show_parts
  e_Show_parts : Binds K g.d_Show_parts ["self"] []
  f_Has_init : Fun K "__init__" "Has.__init__" s_Has_init g.f_Has_init g.d_Has_init
  e_Has_init : Binds K g.d_Has_init ["self", "value"] []
  f_Has_eq : Fun K "__eq__" "Has.__eq__" s_Has_eq g.f_Has_eq g.d_Has_eq
  e_Has_eq : Binds K g.d_Has_eq ["self", "other"] []
  f_Typed_init : Fun K "__init__" "Typed.__init__" s_Typed_init g.f_Typed_init g.d_Typed_init
  e_Typed_init : Binds K g.d_Typed_init ["self", "parameter"] []
  f_Typed_eq : Fun K "__eq__" "Typed.__eq__" s_Typed_eq g.f_Typed_eq g.d_Typed_eq
  e_Typed_eq : Binds K g.d_Typed_eq ["self", "other"] []
  f_Holds_init : Fun K "__init__" "Holds.__init__" s_Holds_init g.f_Holds_init g.d_Holds_init
  f_Holds_made : Fun K "made" "Holds.made" s_Holds_made g.f_Holds_made g.d_Holds_made
  e_Holds_made : Binds K g.d_Holds_made ["cls", "test", "operands"] []
  f_Holds_eq : Fun K "__eq__" "Holds.__eq__" s_Holds_eq g.f_Holds_eq g.d_Holds_eq
  e_Holds_eq : Binds K g.d_Holds_eq ["self", "other"] []
  f_law_deck : Fun K "_law_deck" "_law_deck" s_law_deck g.f_law_deck g.d_law_deck
  e_law_deck : Binds K g.d_law_deck ["script", "turn"] []
  g_law_deck : mg "_law_deck" = some (.ref g.f_law_deck)
  k_law_deck : PySem.W.keepIn K (.ref g.f_law_deck) = true
  f_law_draw : Fun K "_law_draw" "_law_draw" s_law_draw g.f_law_draw g.d_law_draw
  e_law_draw : Binds K g.d_law_draw ["deck", "many"] []
  g_law_draw : mg "_law_draw" = some (.ref g.f_law_draw)
  k_law_draw : PySem.W.keepIn K (.ref g.f_law_draw) = true
  f_law_of : Fun K "_law_of" "_law_of" s_law_of g.f_law_of g.d_law_of
  e_law_of : Binds K g.d_law_of ["deck", "some"] []
  g_law_of : mg "_law_of" = some (.ref g.f_law_of)
  k_law_of : PySem.W.keepIn K (.ref g.f_law_of) = true
  f_law_number : Fun K "_law_number" "_law_number" s_law_number g.f_law_number g.d_law_number
  e_law_number : Binds K g.d_law_number ["deck"] []
  g_law_number : mg "_law_number" = some (.ref g.f_law_number)
  k_law_number : PySem.W.keepIn K (.ref g.f_law_number) = true
  f_law_names : Fun K "_law_names" "_law_names" s_law_names g.f_law_names g.d_law_names
  e_law_names : Binds K g.d_law_names ["deck", "many"] []
  g_law_names : mg "_law_names" = some (.ref g.f_law_names)
  k_law_names : PySem.W.keepIn K (.ref g.f_law_names) = true
  f_law_odd_name : Fun K "_law_odd_name" "_law_odd_name" s_law_odd_name g.f_law_odd_name g.d_law_odd_name
  e_law_odd_name : Binds K g.d_law_odd_name ["deck"] []
  g_law_odd_name : mg "_law_odd_name" = some (.ref g.f_law_odd_name)
  k_law_odd_name : PySem.W.keepIn K (.ref g.f_law_odd_name) = true
  f_law_odd_operand : Fun K "_law_odd_operand" "_law_odd_operand" s_law_odd_operand g.f_law_odd_operand g.d_law_odd_operand
  e_law_odd_operand : Binds K g.d_law_odd_operand ["deck"] []
  g_law_odd_operand : mg "_law_odd_operand" = some (.ref g.f_law_odd_operand)
  k_law_odd_operand : PySem.W.keepIn K (.ref g.f_law_odd_operand) = true
  f_law_operand : Fun K "_law_operand" "_law_operand" s_law_operand g.f_law_operand g.d_law_operand
  e_law_operand : Binds K g.d_law_operand ["deck", "names"] []
  g_law_operand : mg "_law_operand" = some (.ref g.f_law_operand)
  k_law_operand : PySem.W.keepIn K (.ref g.f_law_operand) = true
  f_law_made : Fun K "_law_made" "_law_made" s_law_made g.f_law_made g.d_law_made
  e_law_made : Binds K g.d_law_made ["word", "parts"] []
  g_law_made : mg "_law_made" = some (.ref g.f_law_made)
  k_law_made : PySem.W.keepIn K (.ref g.f_law_made) = true
  f_law_told : Fun K "_law_told" "_law_told" s_law_told g.f_law_told g.d_law_told
  e_law_told : Binds K g.d_law_told ["word", "parts"] []
  g_law_told : mg "_law_told" = some (.ref g.f_law_told)
  k_law_told : PySem.W.keepIn K (.ref g.f_law_told) = true
  f_law_due : Fun K "_law_due" "_law_due" s_law_due g.f_law_due g.d_law_due
  e_law_due : Binds K g.d_law_due ["roles", "parts", "odd", "is_many"] []
  g_law_due : mg "_law_due" = some (.ref g.f_law_due)
  k_law_due : PySem.W.keepIn K (.ref g.f_law_due) = true
  f_law : Fun K "law" "law" s_law g.f_law g.d_law
  e_law : Binds K g.d_law ["script"] []
  g_law : mg "law" = some (.ref g.f_law)
  k_law : PySem.W.keepIn K (.ref g.f_law) = true
  g_BadName : mg "BadName" = some (.ref g.c_BadName)
  o_BadName : OexB K g.c_BadName
  x_BadName : XfC K g.c_BadName
  h_BadName : PySem.W.exmOne K (.ref g.c_BadName) (.ref g.c_BadName) = some true
  i_BadName : PySem.W.findIn K (.ref g.c_BadName) "__init__" = some (some (.ref g.f_BadName_init))
  t_BadName : PySem.W.typeIn K (.ref g.f_BadName_init) = some (.type "function")
  a_BadName_name : PySem.W.findIn K (.ref g.c_BadName) "name" = some none
  xv_BadName : ExT K g.c_BadName
  kx_BadName_ValueError : PySem.W.kitOne K (.ref g.c_BadName) (.type "ValueError") = some true
  kx_BadName_BadValue : PySem.W.kitOne K (.ref g.c_BadName) (.ref g.c_BadValue) = some false
  g_BadValue : mg "BadValue" = some (.ref g.c_BadValue)
  o_BadValue : OexB K g.c_BadValue
  x_BadValue : XfC K g.c_BadValue
  h_BadValue : PySem.W.exmOne K (.ref g.c_BadValue) (.ref g.c_BadValue) = some true
  i_BadValue : PySem.W.findIn K (.ref g.c_BadValue) "__init__" = some (some (.ref g.f_BadValue_init))
  t_BadValue : PySem.W.typeIn K (.ref g.f_BadValue_init) = some (.type "function")
  a_BadValue_value : PySem.W.findIn K (.ref g.c_BadValue) "value" = some none
  xv_BadValue : ExT K g.c_BadValue
  hx_BadValue_BadName : PySem.W.exmOne K (.ref g.c_BadValue) (.ref g.c_BadName) = some false
  kx_BadValue_ValueError : PySem.W.kitOne K (.ref g.c_BadValue) (.type "ValueError") = some true
  g_TooMany : mg "TooMany" = some (.ref g.c_TooMany)
  o_TooMany : OexB K g.c_TooMany
  x_TooMany : XfC K g.c_TooMany
  h_TooMany : PySem.W.exmOne K (.ref g.c_TooMany) (.ref g.c_TooMany) = some true
  i_TooMany : PySem.W.findIn K (.ref g.c_TooMany) "__init__" = some (some (.ref g.f_TooMany_init))
  t_TooMany : PySem.W.typeIn K (.ref g.f_TooMany_init) = some (.type "function")
  a_TooMany_limit : PySem.W.findIn K (.ref g.c_TooMany) "limit" = some none
  xv_TooMany : ExT K g.c_TooMany
  hx_TooMany_BadName : PySem.W.exmOne K (.ref g.c_TooMany) (.ref g.c_BadName) = some false
  hx_TooMany_BadValue : PySem.W.exmOne K (.ref g.c_TooMany) (.ref g.c_BadValue) = some false
  kx_TooMany_OverflowError : PySem.W.kitOne K (.ref g.c_TooMany) (.type "OverflowError") = some true
  kx_TooMany_ValueError : PySem.W.kitOne K (.ref g.c_TooMany) (.type "ValueError") = some false
  g_Step : mg "Step" = some (.ref g.c_Step)
  cl_Step : Cls K g.c_Step
  ci_Step : CIns K g.c_Step
  a_Step_parts : PySem.W.findIn K (.ref g.c_Step) "parts" = some (some (.ref g.f_Step_parts))
  i_Step_parts : PySem.W.isFn K (.ref g.f_Step_parts) = true
  a_Step_eq : PySem.W.findIn K (.ref g.c_Step) "__eq__" = some (some (.ref g.f_Step_eq))
  i_Step_eq : PySem.W.isFn K (.ref g.f_Step_eq) = true
  g_Read : mg "Read" = some (.ref g.c_Read)
  cl_Read : Cls K g.c_Read
  ci_Read : CIns K g.c_Read
  na_Read_into : NoAttr K g.c_Read "into"
  na_Read_target : NoAttr K g.c_Read "target"
  na_Read_default : NoAttr K g.c_Read "default"
  m_Read : Mk K g.c_Read g.f_Read_init
  a_Read_parts : PySem.W.findIn K (.ref g.c_Read) "parts" = some (some (.ref g.f_Read_parts))
  i_Read_parts : PySem.W.isFn K (.ref g.f_Read_parts) = true
  g_Let : mg "Let" = some (.ref g.c_Let)
  cl_Let : Cls K g.c_Let
  ci_Let : CIns K g.c_Let
  na_Let_into : NoAttr K g.c_Let "into"
  na_Let_value : NoAttr K g.c_Let "value"
  m_Let : Mk K g.c_Let g.f_Let_init
  a_Let_parts : PySem.W.findIn K (.ref g.c_Let) "parts" = some (some (.ref g.f_Let_parts))
  i_Let_parts : PySem.W.isFn K (.ref g.f_Let_parts) = true
  g_Work : mg "Work" = some (.ref g.c_Work)
  cl_Work : Cls K g.c_Work
  ci_Work : CIns K g.c_Work
  eq_Work : PySem.W.findIn K (.ref g.c_Work) "__eq__" = some (some (.ref g.f_Step_eq))
  en_Work : PySem.W.findIn K (.ref g.c_Work) "__ne__" = some (some (.builtin "object.__ne__"))
  con_Work_WORD : ∃ u, Con K g.c_Work "WORD" (.str "work") u
  su_Work_Step : PySem.W.kitOne K (.ref g.c_Work) (.ref g.c_Step) = some true
  na_Work_into : NoAttr K g.c_Work "into"
  na_Work_function : NoAttr K g.c_Work "function"
  na_Work_operands : NoAttr K g.c_Work "operands"
  m_Work : Mk K g.c_Work g.f_Work_init
  cm_Work_made : ClX.CMet K g.c_Work (.type "type") "made" g.p_Work_made g.f_Work_made
  a_Work_parts : PySem.W.findIn K (.ref g.c_Work) "parts" = some (some (.ref g.f_Work_parts))
  i_Work_parts : PySem.W.isFn K (.ref g.f_Work_parts) = true
  cr_Work : ClX.CRead K g.c_Work (.type "type")
  g_Put : mg "Put" = some (.ref g.c_Put)
  cl_Put : Cls K g.c_Put
  ci_Put : CIns K g.c_Put
  na_Put_cell : NoAttr K g.c_Put "cell"
  na_Put_value : NoAttr K g.c_Put "value"
  na_Put_typed : NoAttr K g.c_Put "typed"
  m_Put : Mk K g.c_Put g.f_Put_init
  a_Put_parts : PySem.W.findIn K (.ref g.c_Put) "parts" = some (some (.ref g.f_Put_parts))
  i_Put_parts : PySem.W.isFn K (.ref g.f_Put_parts) = true
  g_Keep : mg "Keep" = some (.ref g.c_Keep)
  cl_Keep : Cls K g.c_Keep
  ci_Keep : CIns K g.c_Keep
  na_Keep_slot : NoAttr K g.c_Keep "slot"
  na_Keep_value : NoAttr K g.c_Keep "value"
  na_Keep_late : NoAttr K g.c_Keep "late"
  m_Keep : Mk K g.c_Keep g.f_Keep_init
  a_Keep_parts : PySem.W.findIn K (.ref g.c_Keep) "parts" = some (some (.ref g.f_Keep_parts))
  i_Keep_parts : PySem.W.isFn K (.ref g.f_Keep_parts) = true
  g_Show : mg "Show" = some (.ref g.c_Show)
  cl_Show : Cls K g.c_Show
  ci_Show : CIns K g.c_Show
  na_Show_field : NoAttr K g.c_Show "field"
  na_Show_value : NoAttr K g.c_Show "value"
  na_Show_guess : NoAttr K g.c_Show "guess"
  m_Show : Mk K g.c_Show g.f_Show_init
  a_Show_parts : PySem.W.findIn K (.ref g.c_Show) "parts" = some (some (.ref g.f_Show_parts))
  i_Show_parts : PySem.W.isFn K (.ref g.f_Show_parts) = true
  g_Has : mg "Has" = some (.ref g.c_Has)
  cl_Has : Cls K g.c_Has
  ci_Has : CIns K g.c_Has
  na_Has_value : NoAttr K g.c_Has "value"
  m_Has : Mk K g.c_Has g.f_Has_init
  a_Has_eq : PySem.W.findIn K (.ref g.c_Has) "__eq__" = some (some (.ref g.f_Has_eq))
  i_Has_eq : PySem.W.isFn K (.ref g.f_Has_eq) = true
  g_Typed : mg "Typed" = some (.ref g.c_Typed)
  cl_Typed : Cls K g.c_Typed
  ci_Typed : CIns K g.c_Typed
  na_Typed_parameter : NoAttr K g.c_Typed "parameter"
  m_Typed : Mk K g.c_Typed g.f_Typed_init
  a_Typed_eq : PySem.W.findIn K (.ref g.c_Typed) "__eq__" = some (some (.ref g.f_Typed_eq))
  i_Typed_eq : PySem.W.isFn K (.ref g.f_Typed_eq) = true
  g_Holds : mg "Holds" = some (.ref g.c_Holds)
  cl_Holds : Cls K g.c_Holds
  ci_Holds : CIns K g.c_Holds
  eq_Holds : PySem.W.findIn K (.ref g.c_Holds) "__eq__" = some (some (.ref g.f_Holds_eq))
  en_Holds : PySem.W.findIn K (.ref g.c_Holds) "__ne__" = some (some (.builtin "object.__ne__"))
  na_Holds_test : NoAttr K g.c_Holds "test"
  na_Holds_operands : NoAttr K g.c_Holds "operands"
  m_Holds : Mk K g.c_Holds g.f_Holds_init
  cm_Holds_made : ClX.CMet K g.c_Holds (.type "type") "made" g.p_Holds_made g.f_Holds_made
  a_Holds_eq : PySem.W.findIn K (.ref g.c_Holds) "__eq__" = some (some (.ref g.f_Holds_eq))
  i_Holds_eq : PySem.W.isFn K (.ref g.f_Holds_eq) = true
  cr_Holds : ClX.CRead K g.c_Holds (.type "type")
  n_LETTERS : ∃ t, mg "LETTERS" = some (.str "abcdefghijklmnopqrstuvwxyz" t)
  n_MOST_SIGNS : ∃ t, mg "MOST_SIGNS" = some (.int 8 t)
  n_MOST_OPERANDS : ∃ t, mg "MOST_OPERANDS" = some (.int 3 t)
  n_BEYOND : ∃ t, mg "BEYOND" = some (.int 100000000000000000000 t)
  b_OverflowError : mg "OverflowError" = none
  b_ValueError : mg "ValueError" = none
  b_abs : mg "abs" = none
  b_all : mg "all" = none
  b_bool : mg "bool" = none
  b_enumerate : mg "enumerate" = none
  b_int : mg "int" = none
  b_isinstance : mg "isinstance" = none
  b_len : mg "len" = none
  b_max : mg "max" = none
  b_min : mg "min" = none
  b_range : mg "range" = none
  b_repr : mg "repr" = none
  b_str : mg "str" = none
  b_tuple : mg "tuple" = none
theorem sc_is_int : FnScope ["thing"] ["thing"] (defScope s_is_int) := ⟨rfl, rfl, rfl, by decide +kernel, rfl, by decide +kernel, by decide +kernel⟩
def R_is_int (K : PySem.W.Frag) (g : Ads) (E : XK) : TS :=
  (tRet (zAndV (zIsiT K .int (zVar 0)) (zAndV (zNotV (zIsiT K .bool (zVar 0))) (zChain zLt zLt (zNeg (tC (.int 100000000000000000000))) (zVar 0) (tC (.int 100000000000000000000))))))
def rw_is_int (K : PySem.W.Frag) (g : Ads) : Sp := fun vs H Q E => vs.length = 1 ∧ R_is_int K g E { nx := fun _ H' => Q .non H', rt := Q } (start ["thing"] vs) H
theorem raw_is_int {P : Program} {w : World} {K : PySem.W.Frag} {mg : Str → Option Value} {base : Heap} {g : Ads} (T : Txt K mg g) : FnG false P w K mg base 1 g.f_is_int g.d_is_int ["thing"] (rw_is_int K g) := by
  refine okZ T.f_is_int sc_is_int (fun vs H Q E h => h.1) (fun cdv A outer s H vs Q E hr hgu h => ⟨R_is_int K g E, ?_, h.2⟩)
  exact (pss_one (ps_ret (pez_and (pe_isi (kd := .int) (zv 0) (by rfl) T.b_isinstance (by decide +kernel) (by rfl) T.b_int (by decide +kernel)) (pez_and (pez_not (pe_isi (kd := .bool) (zv 0) (by rfl) T.b_isinstance (by decide +kernel) (by rfl) T.b_bool (by decide +kernel))) (pe_one (pez_chain op_zLt op_zLt (pez_neg (pe_cint rfl T.n_BEYOND)) (zv 0) (pe_cint rfl T.n_BEYOND)))))))
theorem sc_is_name : FnScope ["thing", "sign"] ["thing"] (defScope s_is_name) := ⟨rfl, rfl, rfl, by decide +kernel, rfl, by decide +kernel, by decide +kernel⟩
def R_is_name_3 (K : PySem.W.Frag) (g : Ads) (E : XK) : TS :=
  (tRet (tCB (rAll K) (tCons (zLc (iStr (zVar 0)) (gName 1) tYes (tOp (zIn K) (zVar 1) (tC (.str "abcdefghijklmnopqrstuvwxyz"))) [1]) tNil)))
def R_is_name (K : PySem.W.Frag) (g : Ads) (E : XK) : TS :=
  (tSeq (tIfS (tOr (tNot (zTru K (zIsiT K .str (zVar 0)))) (tOr (tNot (zTest (zChain zLe zLe (tC (.int 1)) (tCB (zLen K) (tCons (zVar 0) tNil)) (tC (.int 8))))) (zTest (tOp (zEq K) (zVar 0) (tC (.str "none"))))))
  (tRet (tC (.bl false)))
  tNext)
  (R_is_name_3 K g E))
def rw_is_name (K : PySem.W.Frag) (g : Ads) : Sp := fun vs H Q E => vs.length = 1 ∧ R_is_name K g E { nx := fun _ H' => Q .non H', rt := Q } (start ["thing", "sign"] vs) H
theorem raw_is_name {P : Program} {w : World} {K : PySem.W.Frag} {mg : Str → Option Value} {base : Heap} {g : Ads} (T : Txt K mg g) : FnG false P w K mg base 1 g.f_is_name g.d_is_name ["thing"] (rw_is_name K g) := by
  refine okZ T.f_is_name sc_is_name (fun vs H Q E h => h.1) (fun cdv A outer s H vs Q E hr hgu h => ⟨R_is_name K g E, ?_, h.2⟩)
  exact (pss_cons (ps_if (PW.pt (pw_or (pt_not (ptz_truth (pe_isi (kd := .str) (zv 0) (by rfl) T.b_isinstance (by decide +kernel) (by rfl) T.b_str (by decide +kernel)) (by intro _; rfl))) (pw_or (pt_not (ptz_chain op_zLe op_zLe pe_int (pe_callB call_lenZ (by rfl) T.b_len (by decide +kernel) (pa_cons (zv 0) pa_nil)) (pe_cint rfl T.n_MOST_SIGNS))) (pw_or1 (ptz_cmp (op_zEq hr.units) (zv 0) pe_str (nomark _))))))
  (pss_one (ps_ret pe_bl))
  pss_nil)
  (pss_one (ps_ret (pe_callB (cr_all rfl) (by rfl) T.b_all (by decide +kernel) (pa_cons (pez_lc (own := [("sign", 1)]) rfl sc_is_name.nd (pi_str (zv 0)) (blkOk_by (own := [("sign", 1)]) (N := ["thing", "sign"]) (sc := defScope s_is_name) (by decide +kernel)) (fun _ _ _ _ _ => pg_name (i := 1) sc_is_name.nd rfl (Or.inl rfl)) (fun _ _ _ _ _ => pts_nil) (fun _ _ _ _ _ => (pe_cmpR op_zIn (zv 1) (pe_cstr rfl T.n_LETTERS) (by rfl)))) pa_nil)))))
end Z
namespace Z
open PySem PySem.Spec PyProof.Rows L2
/-- a value of which isinstance knows the kind -/
def Knd (K : PySem.W.Frag) (H : Hp) (v : V) : Prop := match v with
  | .non => True | .bl _ => True | .int _ => True | .str z => z.length ≤ 1000
  | .ref a => ∃ t, KndR K H a t
  | _ => False
def isIntV (v : V) : Bool := match v with
  | .int i => decide (-100000000000000000000 < i) && decide (i < 100000000000000000000)
  | _ => false
def sp_is_int (K : PySem.W.Frag) (g : Ads) : Sp := fun vs H Q E => ∃ v, vs = [v] ∧ Knd K H v ∧ Q (.bl (isIntV v)) H
theorem pf_is_int {K : PySem.W.Frag} {g : Ads} (vs : List V) (H : Hp) (Q : VK) (E : XK) (h : sp_is_int K g vs H Q E) : rw_is_int K g vs H Q E := by
  obtain ⟨v, rfl, hk, q⟩ := h
  refine ⟨rfl, ?_⟩
  cases v with
  | non => exact q
  | bl b => exact q
  | str b => exact q
  | int i =>
    show if decide (-100000000000000000000 < i) = true then Q (.bl (decide (i < 100000000000000000000))) H else Q (.bl false) H
    refine zite (fun h => ?_) (fun h => ?_)
    · simpa [isIntV, h] using q
    · simpa [isIntV, h] using q
  | ref a =>
    obtain ⟨t, ht⟩ := hk
    cases t <;> first | exact ht.elim | exact ⟨_, ht, q⟩
  | _ => exact hk.elim
/-- the signs of a name -/
def lettB (z : Str) : Bool := ((List.range z.cps.size).map fun i => decide (z.cps.getD i 0 ∈ ("abcdefghijklmnopqrstuvwxyz" : Str).cps.toList)).all id
def nameB (z : Str) : Bool := decide ((1 : Int) ≤ z.length) && decide ((z.length : Int) ≤ 8) && !decide (z = "none") && lettB z
def isNameV (v : V) : Bool := match v with
  | .str z => nameB z
  | _ => false
def sp_is_name (K : PySem.W.Frag) (g : Ads) : Sp := fun vs H Q E => ∃ v, vs = [v] ∧ Knd K H v ∧ ∀ H', Same H H' → Q (.bl (isNameV v)) H'
theorem pf_is_name {K : PySem.W.Frag} {g : Ads} (vs : List V) (H : Hp) (Q : VK) (E : XK) (h : sp_is_name K g vs H Q E) : rw_is_name K g vs H Q E := by
  obtain ⟨v, rfl, hk, q⟩ := h
  refine ⟨rfl, ?_⟩
  cases v with
  | non => exact q H (Same.refl H)
  | bl b => exact q H (Same.refl H)
  | int b => exact q H (Same.refl H)
  | ref a =>
    obtain ⟨t, ht⟩ := hk
    cases t <;> first | exact ht.elim | exact ⟨_, ht, q H (Same.refl H)⟩
  | str z =>
    have hz : z.length ≤ 1000 := hk
    refine ⟨Nat.le_trans hz (by decide), zite (fun h1 => ?_) (fun h1 => ?_)⟩
    · refine zite (fun h2 => ?_) (fun h2 => ?_)
      · have e : isNameV (.str z) = false := by simp [isNameV, nameB] at h2 ⊢; omega
        rw [e] at q
        exact q H (Same.refl H)
      · refine .inl ⟨rfl, zite (fun h3 => ?_) (fun h3 => ?_)⟩
        · have e : isNameV (.str z) = false := by simp [isNameV, nameB] at h3 ⊢; simp [h3]
          rw [e] at q
          exact q H (Same.refl H)
        · refine ⟨z, rfl, lc_map walk_str (fun i => .bl (decide (z.cps.getD i 0 ∈ ("abcdefghijklmnopqrstuvwxyz" : Str).cps.toList))) ?_ (fun _ _ => trivial) (fun i x H0 H' hi s y => ?_) (fun D hD => ?_)⟩
          · exact Nat.le_trans hz (by decide)
          · obtain ⟨rfl, c, hc, rfl⟩ := y
            refine ⟨rfl, _, fun R r => r, rfl, fun R r => r, fun R r => .inl ⟨c, _, rfl, rfl, ?_⟩⟩
            have e : z.cps.getD i 0 = c := by simp [Array.getD_eq_getD_getElem?, hc]
            rw [← e]
            exact r
          · refine ⟨D, (List.range z.cps.size).map fun i => decide (z.cps.getD i 0 ∈ ("abcdefghijklmnopqrstuvwxyz" : Str).cps.toList), rfl, SqL.of ?_, ?_⟩
            · rw [upd_same, List.map_map]
              rfl
            · have e : isNameV (.str z) = lettB z := by
                have a1 : ¬ z = "none" := by simpa using h3
                have a2 : (1 : Int) ≤ z.length := by simpa using h1
                have a3 : (z.length : Int) ≤ 8 := by simpa using h2
                simp [isNameV, nameB, a1, a2, a3]
              have q' := q _ (Same.put (o := .lst ((List.range z.cps.size).map fun i => V.bl (decide (z.cps.getD i 0 ∈ ("abcdefghijklmnopqrstuvwxyz" : Str).cps.toList)))) hD)
              rw [e] at q'
              exact q'
    · have e : isNameV (.str z) = false := by
        have a1 : ¬ (1 : Int) ≤ z.length := by simpa using h1
        simp [isNameV, nameB, a1]
      rw [e] at q
      exact q H (Same.refl H)
  | _ => exact hk.elim
end Z
namespace Z
open PySem PySem.Spec PyProof.Rows L2
theorem ok_is_int {P : Program} {w : World} {K : PySem.W.Frag} {mg : Str → Option Value} {base : Heap} {g : Ads} (T : Txt K mg g) : FnG false P w K mg base 1 g.f_is_int g.d_is_int ["thing"] (sp_is_int K g) := (raw_is_int T).imp pf_is_int
theorem ok_is_name {P : Program} {w : World} {K : PySem.W.Frag} {mg : Str → Option Value} {base : Heap} {g : Ads} (T : Txt K mg g) : FnG false P w K mg base 1 g.f_is_name g.d_is_name ["thing"] (sp_is_name K g) := (raw_is_name T).imp pf_is_name
/-! ### an error with one field -/
def sp_x1 (C : Addr) (f : Str) : Sp := fun vs H Q E => ∃ a v, vs = [.ref a, v] ∧ H a = some (exo a C none) ∧
  ∀ dx, H dx = none → dx ≠ a → Q .non (upd (upd H dx (exd dx [(f, v)])) a (exo a C (some dx)))
theorem raise_at {C : Addr} {f : Str} {v : V} {H : Hp} {R : XK} (k : ∀ d, H d = none → R (.ref C) (some d) (upd H d (.xd [(f, v)]))) :
    [v].length ≤ 1000 ∧ ∀ a, H a = none → sp_x1 C f (.ref a :: [v]) (upd H a (exo a C none))
      (fun v' H2 => v' = .non ∧ ∃ (d : Addr) (fs : List (Str × V)), H2 a = some (exo a C (some d)) ∧ H2 d = some (exd d fs) ∧ H d = none ∧ R (.ref C) (some d) (upd (del H2 a) d (.xd fs))) E0 := by
  refine ⟨by simp, fun a ha => ⟨a, v, rfl, upd_same, fun dx hdx ne => ⟨rfl, dx, [(f, v)], upd_same, by rw [upd_ne ne, upd_same], ?_, ?_⟩⟩⟩
  · rw [upd_ne ne] at hdx
    exact hdx
  · have hd : H dx = none := by
      rw [upd_ne ne] at hdx
      exact hdx
    have e : upd (del (upd (upd (upd H a (exo a C none)) dx (exd dx [(f, v)])) a (exo a C (some dx))) a) dx (.xd [(f, v)]) = upd H dx (.xd [(f, v)]) := by
      funext b
      by_cases h1 : b = dx
      · rw [h1, upd_same, upd_same]
      · rw [upd_ne h1, upd_ne h1]
        by_cases h2 : b = a
        · rw [h2, del_same, ha]
        · rw [del_ne h2, upd_ne h2, upd_ne h1, upd_ne h2]
    rw [e]
    exact k dx hd
def sp_BadName_init (K : PySem.W.Frag) (g : Ads) : Sp := sp_x1 g.c_BadName "name"
def sp_BadValue_init (K : PySem.W.Frag) (g : Ads) : Sp := sp_x1 g.c_BadValue "value"
theorem sc_BadName_init : FnScope ["self", "name"] ["self", "name"] (defScope s_BadName_init) := ⟨rfl, rfl, rfl, by decide +kernel, rfl, by decide +kernel, by decide +kernel⟩
def R_BadName_init (K : PySem.W.Frag) (g : Ads) (E : XK) : TS :=
  (tOstB K "name" (zVar 0) (zVar 1))
def rw_BadName_init (K : PySem.W.Frag) (g : Ads) : Sp := fun vs H Q E => vs.length = 2 ∧ R_BadName_init K g E { nx := fun _ H' => Q .non H', rt := Q } (start ["self", "name"] vs) H
theorem raw_BadName_init {P : Program} {w : World} {K : PySem.W.Frag} {mg : Str → Option Value} {base : Heap} {g : Ads} (T : Txt K mg g) : FnG false P w K mg base 1 g.f_BadName_init g.d_BadName_init ["self", "name"] (rw_BadName_init K g) := by
  refine okZ T.f_BadName_init sc_BadName_init (fun vs H Q E h => h.1) (fun cdv A outer s H vs Q E hr hgu h => ⟨R_BadName_init K g E, ?_, h.2⟩)
  exact (pss_one (ps_ostB (zv 0) (zv 1)))
theorem sc_BadValue_init : FnScope ["self", "value"] ["self", "value"] (defScope s_BadValue_init) := ⟨rfl, rfl, rfl, by decide +kernel, rfl, by decide +kernel, by decide +kernel⟩
def R_BadValue_init (K : PySem.W.Frag) (g : Ads) (E : XK) : TS :=
  (tOstB K "value" (zVar 0) (zVar 1))
def rw_BadValue_init (K : PySem.W.Frag) (g : Ads) : Sp := fun vs H Q E => vs.length = 2 ∧ R_BadValue_init K g E { nx := fun _ H' => Q .non H', rt := Q } (start ["self", "value"] vs) H
theorem raw_BadValue_init {P : Program} {w : World} {K : PySem.W.Frag} {mg : Str → Option Value} {base : Heap} {g : Ads} (T : Txt K mg g) : FnG false P w K mg base 1 g.f_BadValue_init g.d_BadValue_init ["self", "value"] (rw_BadValue_init K g) := by
  refine okZ T.f_BadValue_init sc_BadValue_init (fun vs H Q E h => h.1) (fun cdv A outer s H vs Q E hr hgu h => ⟨R_BadValue_init K g E, ?_, h.2⟩)
  exact (pss_one (ps_ostB (zv 0) (zv 1)))
section
variable {P : Program} {w : World} {K : PySem.W.Frag} {mg : Str → Option Value} {base : Heap} {g : Ads}
theorem ok_BadName_init (T : Txt K mg g) : FnG false P w K mg base 1 g.f_BadName_init g.d_BadName_init ["self", "name"] (sp_BadName_init K g) :=
  (raw_BadName_init T).imp fun vs H Q E ⟨a, v, e, ha, k⟩ => by
    subst e
    exact ⟨rfl, a, g.c_BadName, rfl, T.o_BadName, T.a_BadName_name, .inl ⟨ha, k⟩⟩
theorem ok_BadValue_init (T : Txt K mg g) : FnG false P w K mg base 1 g.f_BadValue_init g.d_BadValue_init ["self", "value"] (sp_BadValue_init K g) :=
  (raw_BadValue_init T).imp fun vs H Q E ⟨a, v, e, ha, k⟩ => by
    subst e
    exact ⟨rfl, a, g.c_BadValue, rfl, T.o_BadValue, T.a_BadValue_value, .inl ⟨ha, k⟩⟩
end
def sp_TooMany_init (K : PySem.W.Frag) (g : Ads) : Sp := sp_x1 g.c_TooMany "limit"
theorem sc_TooMany_init : FnScope ["self", "limit"] ["self", "limit"] (defScope s_TooMany_init) := ⟨rfl, rfl, rfl, by decide +kernel, rfl, by decide +kernel, by decide +kernel⟩
def R_TooMany_init (K : PySem.W.Frag) (g : Ads) (E : XK) : TS :=
  (tOstB K "limit" (zVar 0) (zVar 1))
def rw_TooMany_init (K : PySem.W.Frag) (g : Ads) : Sp := fun vs H Q E => vs.length = 2 ∧ R_TooMany_init K g E { nx := fun _ H' => Q .non H', rt := Q } (start ["self", "limit"] vs) H
theorem raw_TooMany_init {P : Program} {w : World} {K : PySem.W.Frag} {mg : Str → Option Value} {base : Heap} {g : Ads} (T : Txt K mg g) : FnG false P w K mg base 1 g.f_TooMany_init g.d_TooMany_init ["self", "limit"] (rw_TooMany_init K g) := by
  refine okZ T.f_TooMany_init sc_TooMany_init (fun vs H Q E h => h.1) (fun cdv A outer s H vs Q E hr hgu h => ⟨R_TooMany_init K g E, ?_, h.2⟩)
  exact (pss_one (ps_ostB (zv 0) (zv 1)))
theorem ok_TooMany_init {P : Program} {w : World} {K : PySem.W.Frag} {mg : Str → Option Value} {base : Heap} {g : Ads} (T : Txt K mg g) : FnG false P w K mg base 1 g.f_TooMany_init g.d_TooMany_init ["self", "limit"] (sp_TooMany_init K g) :=
  (raw_TooMany_init T).imp fun vs H Q E ⟨a, v, e, ha, k⟩ => by
    subst e
    exact ⟨rfl, a, g.c_TooMany, rfl, T.o_TooMany, T.a_TooMany_limit, .inl ⟨ha, k⟩⟩
theorem sc_check_name : FnScope ["thing"] ["thing"] (defScope s_check_name) := ⟨rfl, rfl, rfl, by decide +kernel, rfl, by decide +kernel, by decide +kernel⟩
def R_check_name_2 (K : PySem.W.Frag) (g : Ads) (E : XK) : TS :=
  (zRaise (fun cls d _ H => E cls d H) g.c_BadName (sp_BadName_init K g) (tCons (zVar 0) tNil))
def R_check_name (K : PySem.W.Frag) (g : Ads) (E : XK) : TS :=
  (tSeq (tIfS (tNot (zTru K (zCall (sp_is_name K g) [] (WE (fun cls d _ H => E cls d H)) (tCons (zVar 0) tNil))))
  (R_check_name_2 K g E)
  tNext)
  (tRet (zVar 0)))
def rw_check_name (K : PySem.W.Frag) (g : Ads) : Sp := fun vs H Q E => vs.length = 1 ∧ R_check_name K g E { nx := fun _ H' => Q .non H', rt := Q } (start ["thing"] vs) H
theorem raw_check_name {P : Program} {w : World} {K : PySem.W.Frag} {mg : Str → Option Value} {base : Heap} {g : Ads} (T : Txt K mg g) : FnG false P w K mg base 3 g.f_check_name g.d_check_name ["thing"] (rw_check_name K g) := by
  refine okZ T.f_check_name sc_check_name (fun vs H Q E h => h.1) (fun cdv A outer s H vs Q E hr hgu h => ⟨R_check_name K g E, ?_, h.2⟩)
  exact (pss_cons (ps_if (pt_not (ptz_truth (pe_callZ (ok_is_name T) (hr.mono (by decide)) (fun z => nomatch z) rfl T.g_is_name T.k_is_name T.e_is_name .nil (fun σ => passAt (takes_of rfl rfl rfl rfl) σ) (pa_cons (zv 0) pa_nil)) (by intro _; rfl)))
  (pss_one (ps_raise rfl (takes_of rfl rfl rfl rfl) (pmk_ZB T.o_BadName T.i_BadName T.t_BadName (ok_BadName_init T) (hr.mono (by decide)) (fun z => nomatch z) T.e_BadName_init rfl T.g_BadName (by exact (pa_cons (zv 0) pa_nil)))))
  pss_nil)
  (pss_one (ps_ret (zv 0))))
theorem sc_check_operand : FnScope ["thing"] ["thing"] (defScope s_check_operand) := ⟨rfl, rfl, rfl, by decide +kernel, rfl, by decide +kernel, by decide +kernel⟩
def R_check_operand_2 (K : PySem.W.Frag) (g : Ads) (E : XK) : TS :=
  (zRaise (fun cls d _ H => E cls d H) g.c_BadValue (sp_BadValue_init K g) (tCons (zVar 0) tNil))
def R_check_operand (K : PySem.W.Frag) (g : Ads) (E : XK) : TS :=
  (tSeq (tIfS (tAnd (zTest (tOp zIsnt (zVar 0) (tC .non))) (tAnd (tNot (zTru K (zCall (sp_is_int K g) [] (WE (fun cls d _ H => E cls d H)) (tCons (zVar 0) tNil)))) (tNot (zTru K (zCall (sp_is_name K g) [] (WE (fun cls d _ H => E cls d H)) (tCons (zVar 0) tNil))))))
  (R_check_operand_2 K g E)
  tNext)
  (tRet (zVar 0)))
def rw_check_operand (K : PySem.W.Frag) (g : Ads) : Sp := fun vs H Q E => vs.length = 1 ∧ R_check_operand K g E { nx := fun _ H' => Q .non H', rt := Q } (start ["thing"] vs) H
theorem raw_check_operand {P : Program} {w : World} {K : PySem.W.Frag} {mg : Str → Option Value} {base : Heap} {g : Ads} (T : Txt K mg g) : FnG false P w K mg base 3 g.f_check_operand g.d_check_operand ["thing"] (rw_check_operand K g) := by
  refine okZ T.f_check_operand sc_check_operand (fun vs H Q E h => h.1) (fun cdv A outer s H vs Q E hr hgu h => ⟨R_check_operand K g E, ?_, h.2⟩)
  exact (pss_cons (ps_if (PW.pt (pw_and (ptz_cmp op_zIsnt (zv 0) pe_non (nomark _)) (pw_and (pt_not (ptz_truth (pe_callZ (ok_is_int T) (hr.mono (by decide)) (fun z => nomatch z) rfl T.g_is_int T.k_is_int T.e_is_int .nil (fun σ => passAt (takes_of rfl rfl rfl rfl) σ) (pa_cons (zv 0) pa_nil)) (by intro _; rfl))) (pw_and1 (pt_not (ptz_truth (pe_callZ (ok_is_name T) (hr.mono (by decide)) (fun z => nomatch z) rfl T.g_is_name T.k_is_name T.e_is_name .nil (fun σ => passAt (takes_of rfl rfl rfl rfl) σ) (pa_cons (zv 0) pa_nil)) (by intro _; rfl)))))))
  (pss_one (ps_raise rfl (takes_of rfl rfl rfl rfl) (pmk_ZB T.o_BadValue T.i_BadValue T.t_BadValue (ok_BadValue_init T) (hr.mono (by decide)) (fun z => nomatch z) T.e_BadValue_init rfl T.g_BadValue (by exact (pa_cons (zv 0) pa_nil)))))
  pss_nil)
  (pss_one (ps_ret (zv 0))))
theorem Knd.same {K : PySem.W.Frag} {H H' : Hp} {v : V} (k : Knd K H v) (s : Same H H') : Knd K H' v := by
  cases v with
  | ref a =>
    obtain ⟨t, ht⟩ := k
    refine ⟨t, ?_⟩
    cases t with
    | list => exact ht.imp fun xs q => s.seq q
    | tuple =>
      obtain ⟨xs, q⟩ := ht
      refine ⟨xs, ?_⟩
      rcases q with (h | ⟨o, h⟩) | h
      · exact .inl (.inl (s _ _ h))
      · exact .inl (.inr ⟨o, s _ _ h⟩)
      · exact .inr h
    | dict =>
      rcases ht with ⟨x, h⟩ | ⟨x, h⟩
      · exact .inl ⟨x, s _ _ h⟩
      · exact .inr ⟨x, s _ _ h⟩
    | _ => exact ht.elim
  | non => trivial
  | bl _ => trivial
  | int _ => trivial
  | str _ => exact k
  | _ => exact k.elim
def sp_check_name (K : PySem.W.Frag) (g : Ads) : Sp := fun vs H Q E => ∃ v, vs = [v] ∧ Knd K H v ∧ (isNameV v = true → ∀ H', Same H H' → Q v H') ∧
  (isNameV v = false → ∀ H' d, Same H H' → H d = none → H' d = some (.xd [("name", v)]) → E (.ref g.c_BadName) (some d) H')
theorem pf_check_name {K : PySem.W.Frag} {g : Ads} (vs : List V) (H : Hp) (Q : VK) (E : XK) (h : sp_check_name K g vs H Q E) : rw_check_name K g vs H Q E := by
  obtain ⟨v, rfl, hk, q1, q2⟩ := h
  refine ⟨rfl, ⟨v, rfl, hk, fun H' s => ?_⟩⟩
  cases e : isNameV v with
  | true => exact q1 e H' s
  | false => exact raise_at fun d hd => q2 e _ d (s.trans (Same.put hd)) (s.free hd) upd_same
def isOperV (v : V) : Bool := decide (v = .non) || isIntV v || isNameV v
def sp_check_operand (K : PySem.W.Frag) (g : Ads) : Sp := fun vs H Q E => ∃ v, vs = [v] ∧ Knd K H v ∧ (isOperV v = true → ∀ H', Same H H' → Q v H') ∧
  (isOperV v = false → ∀ H' d, Same H H' → H d = none → H' d = some (.xd [("value", v)]) → E (.ref g.c_BadValue) (some d) H')
theorem pf_check_operand {K : PySem.W.Frag} {g : Ads} (vs : List V) (H : Hp) (Q : VK) (E : XK) (h : sp_check_operand K g vs H Q E) : rw_check_operand K g vs H Q E := by
  obtain ⟨v, rfl, hk, q1, q2⟩ := h
  refine ⟨rfl, rfl, zite (fun h1 => ?_) (fun h1 => ?_)⟩
  · have n1 : ¬ v = .non := by simpa using h1
    refine ⟨v, rfl, hk, zite (fun h2 => ?_) (fun h2 => ?_)⟩
    · have e2 : isIntV v = false := by simpa using h2
      refine ⟨v, rfl, hk, fun H' s => zite (fun h3 => ?_) (fun h3 => ?_)⟩
      · have e3 : isNameV v = false := by simpa using h3
        exact raise_at fun d hd => q2 (by simp [isOperV, n1, e2, e3]) _ d (s.trans (Same.put hd)) (s.free hd) upd_same
      · exact q1 (by simp [isOperV] at h3 ⊢; simp [h3]) H' s
    · exact q1 (by simp [isOperV] at h2 ⊢; simp [h2]) H (Same.refl H)
  · exact q1 (by simp [isOperV] at h1 ⊢; simp [h1]) H (Same.refl H)
end Z
namespace Z
open PySem PySem.Spec PyProof.Rows L2
theorem sc_law_deck : FnScope ["script", "turn", "cell", "words", "mix", "k", "word", "one"] ["script", "turn"] (defScope s_law_deck) := ⟨rfl, rfl, rfl, by decide +kernel, rfl, by decide +kernel, by decide +kernel⟩
def R_law_deck_5 (K : PySem.W.Frag) (g : Ads) (E : XK) : TS :=
  (tAsg (tOp zMod (tCB rInt1 (tCons (tOp zAdd (tOp zAdd (tOp zMul (zVar 4) (tC (.int 69069))) (zVar 6)) (tOp zMul (tC (.int 17)) (zVar 5))) tNil)) (tC (.int 2147483629))) (gName 4))
def R_law_deck_6 (K : PySem.W.Frag) (g : Ads) (E : XK) : TS :=
  (tRet (tLst (tCons (tIf (zTest (tOp zGe (zVar 2) (tOp zPow (tC (.int 10)) (tC (.int 18))))) (zVar 2) (tC (.int 0))) (tCons (zVar 4) (tCons (zVar 3) (tCons (zVar 1) tNil))))))
def R_law_deck_4 (K : PySem.W.Frag) (g : Ads) (E : XK) : TS :=
  (tSeq (zFor (zEnum K (tCons (zVar 3) tNil)) (gTup K 2 (gCons (gName 5) (gCons (gName 6) gNil)))
  (R_law_deck_5 K g E))
  (R_law_deck_6 K g E))
def R_law_deck_3 (K : PySem.W.Frag) (g : Ads) (E : XK) : TS :=
  (tSeq (tAsg (tOp zAdd (tC (.int 271)) (tOp zMul (tC (.int 1009)) (zVar 1))) (gName 4))
  (R_law_deck_4 K g E))
def R_law_deck_2 (K : PySem.W.Frag) (g : Ads) (E : XK) : TS :=
  (tSeq (tAsg (zLc (iList K (tSl (rSlL K) (zVar 0) tNoPart (tPart (tC (.int 63))))) (gName 7) tYes (tOp zMod (tCB rAbs (tCons (tCB rInt1 (tCons (zVar 7) tNil)) tNil)) (tC (.int 2147483563))) [7]) (gName 3))
  (R_law_deck_3 K g E))
def R_law_deck (K : PySem.W.Frag) (g : Ads) (E : XK) : TS :=
  (tSeq (tAsg (tIf (zTest (tOp zLt (zVar 1) (tCB (zLen K) (tCons (zVar 0) tNil)))) (tCB rAbs (tCons (tCB rIntS (tCons (tOp (zIx K) (zVar 0) (zVar 1)) tNil)) tNil)) (tC (.int 0))) (gName 2))
  (R_law_deck_2 K g E))
def rw_law_deck (K : PySem.W.Frag) (g : Ads) : Sp := fun vs H Q E => vs.length = 2 ∧ R_law_deck K g E { nx := fun _ H' => Q .non H', rt := Q } (start ["script", "turn", "cell", "words", "mix", "k", "word", "one"] vs) H
theorem raw_law_deck {P : Program} {w : World} {K : PySem.W.Frag} {mg : Str → Option Value} {base : Heap} {g : Ads} (T : Txt K mg g) : FnG true P w K mg base 1 g.f_law_deck g.d_law_deck ["script", "turn"] (rw_law_deck K g) := by
  refine okZ T.f_law_deck sc_law_deck (fun vs H Q E h => h.1) (fun cdv A outer s H vs Q E hr hgu h => ⟨R_law_deck K g E, ?_, h.2⟩)
  exact (pss_cons (ps_set (i := 2) sc_law_deck.nd rfl (Or.inl rfl) (pe_ifExp (ptz_cmp op_zLt (zv 1) (pe_callB call_lenZ (by rfl) T.b_len (by decide +kernel) (pa_cons (zv 0) pa_nil)) (nomark _)) (pe_callB call_absZ (by rfl) T.b_abs (by decide +kernel) (pa_cons (pe_callTy call_intS (by rfl) T.b_int (by decide +kernel) (pa_cons (pe_ix ix_z (zv 0) (zv 1) (fun _ _ => rfl)) pa_nil)) pa_nil)) pe_int))
  (pss_cons (psz_setLc (i := 3) (own := [("one", 7)]) rfl sc_law_deck.nd rfl rfl (sw_true rfl rfl rfl (by decide +kernel)) (pi_list (pe_slice sl_list (zv 0) po_none (po_some pe_int))) (blkOk_by (own := [("one", 7)]) (N := ["script", "turn", "cell", "words", "mix", "k", "word", "one"]) (sc := defScope s_law_deck) (by decide +kernel)) (fun _ _ _ _ _ => pg_name (i := 7) sc_law_deck.nd rfl (Or.inl rfl)) (fun _ _ _ _ _ => pts_nil) (fun _ _ _ _ _ => (pe_op op_zMod (pe_callB call_absZ (by rfl) T.b_abs (by decide +kernel) (pa_cons (pe_callTy call_intZ (by rfl) T.b_int (by decide +kernel) (pa_cons (zv 7) pa_nil)) pa_nil)) pe_int)))
  (pss_cons (ps_set (i := 4) sc_law_deck.nd rfl (Or.inl rfl) (pe_op op_zAdd pe_int (pe_op op_zMul pe_int (zv 1))))
  (pss_cons (psz_for PassesOwn.leaving rfl (pi_zEnum (by rfl) T.b_enumerate (pa_cons (zv 3) pa_nil)) (pg_tup rfl (pgs_cons (pg_name (i := 5) sc_law_deck.nd rfl (Or.inl rfl)) (pgs_cons (pg_name (i := 6) sc_law_deck.nd rfl (Or.inl rfl)) pgs_nil)))
  (pss_one (ps_set (i := 4) sc_law_deck.nd rfl (Or.inl rfl) (pe_op op_zMod (pe_callTy call_intZ (by rfl) T.b_int (by decide +kernel) (pa_cons (pe_op op_zAdd (pe_op op_zAdd (pe_op op_zMul (zv 4) pe_int) (zv 6)) (pe_op op_zMul pe_int (zv 5))) pa_nil)) pe_int))))
  (pss_one (ps_ret (pe_lst (pa_cons (pe_ifExp (ptz_cmp op_zGe (zv 2) (pe_op op_zPow pe_int pe_int) (nomark _)) (zv 2) pe_int) (pa_cons (zv 4) (pa_cons (zv 3) (pa_cons (zv 1) pa_nil)))))))))))
theorem sc_law_draw : FnScope ["deck", "many", "digit", "words", "more"] ["deck", "many"] (defScope s_law_draw) := ⟨rfl, rfl, rfl, by decide +kernel, rfl, by decide +kernel, by decide +kernel⟩
def R_law_draw_3 (K : PySem.W.Frag) (g : Ads) (E : XK) : TS :=
  (tSeq (tAsg (tOp zFdiv (tOp (zIx K) (zVar 0) (tC (.int 0))) (zVar 1)) (gSub (zVar 0) (tC (.int 0)) rSetL))
  (tRet (zVar 2)))
def R_law_draw_2 (K : PySem.W.Frag) (g : Ads) (E : XK) : TS :=
  (tSeq (tAsg (tOp zMod (tCB rIntS (tCons (tOp (zIx K) (zVar 0) (tC (.int 0))) tNil)) (zVar 1)) (gName 2))
  (R_law_draw_3 K g E))
def R_law_draw_9 (K : PySem.W.Frag) (g : Ads) (E : XK) : TS :=
  (tRet (tOp zMod (tOp zFdiv (tOp zMod (tCB rInt1 (tCons (tOp zAdd (tOp zMul (tOp zFdiv (tOp (zIx K) (zVar 0) (tC (.int 1))) (tC (.int 7))) (tC (.int 48271))) (tOp (zIx K) (zVar 0) (tC (.int 3)))) tNil)) (tC (.int 2147483587))) (tC (.int 32))) (zVar 1)))
def R_law_draw_8 (K : PySem.W.Frag) (g : Ads) (E : XK) : TS :=
  (tSeq (tAsg (tOp zMod (tCB rInt1 (tCons (tOp zAdd (tOp zAdd (tOp zMul (tOp (zIx K) (zVar 0) (tC (.int 1))) (tC (.int 16807))) (zVar 4)) (tOp zMul (tC (.int 7)) (tOp (zIx K) (zVar 0) (tC (.int 3))))) tNil)) (tC (.int 2147483629))) (gSub (zVar 0) (tC (.int 1)) rSetL))
  (R_law_draw_9 K g E))
def R_law_draw_7 (K : PySem.W.Frag) (g : Ads) (E : XK) : TS :=
  (tSeq (tAsg (tIf (zTest (tOp (zNe K) (zVar 3) (tLst tNil))) (tOp (zIx K) (zVar 3) (tOp zMod (tCB rIntS (tCons (tOp (zIx K) (zVar 0) (tC (.int 3))) tNil)) (tCB (zLen K) (tCons (zVar 3) tNil)))) (tC (.int 0))) (gName 4))
  (R_law_draw_8 K g E))
def R_law_draw_6 (K : PySem.W.Frag) (g : Ads) (E : XK) : TS :=
  (tSeq (tAsg (tOp zAdd (tOp (zIx K) (zVar 0) (tC (.int 3))) (tC (.int 1))) (gSub (zVar 0) (tC (.int 3)) rSetL))
  (R_law_draw_7 K g E))
def R_law_draw_5 (K : PySem.W.Frag) (g : Ads) (E : XK) : TS :=
  (tSeq (tAsg (tOp (zIx K) (zVar 0) (tC (.int 2))) (gName 3))
  (R_law_draw_6 K g E))
def R_law_draw (K : PySem.W.Frag) (g : Ads) (E : XK) : TS :=
  (tSeq (tIfS (zTest (tOp zGt (tOp (zIx K) (zVar 0) (tC (.int 0))) (tC (.int 0))))
  (R_law_draw_2 K g E)
  tNext)
  (R_law_draw_5 K g E))
def rw_law_draw (K : PySem.W.Frag) (g : Ads) : Sp := fun vs H Q E => vs.length = 2 ∧ R_law_draw K g E { nx := fun _ H' => Q .non H', rt := Q } (start ["deck", "many", "digit", "words", "more"] vs) H
theorem raw_law_draw {P : Program} {w : World} {K : PySem.W.Frag} {mg : Str → Option Value} {base : Heap} {g : Ads} (T : Txt K mg g) : FnG true P w K mg base 1 g.f_law_draw g.d_law_draw ["deck", "many"] (rw_law_draw K g) := by
  refine okZ T.f_law_draw sc_law_draw (fun vs H Q E h => h.1) (fun cdv A outer s H vs Q E hr hgu h => ⟨R_law_draw K g E, ?_, h.2⟩)
  exact (pss_cons (ps_if (ptz_cmp op_zGt (pe_ix ix_z (zv 0) pe_int (fun _ _ => rfl)) pe_int (nomark _))
  (pss_cons (ps_set (i := 2) sc_law_draw.nd rfl (Or.inl rfl) (pe_op op_zMod (pe_callTy call_intS (by rfl) T.b_int (by decide +kernel) (pa_cons (pe_ix ix_z (zv 0) pe_int (fun _ _ => rfl)) pa_nil)) (zv 1)))
  (pss_cons (ps_asg (pe_op op_zFdiv (pe_ix ix_z (zv 0) pe_int (fun _ _ => rfl)) (zv 1)) (pg_sub (zv 0) pe_int set_list))
  (pss_one (ps_ret (zv 2)))))
  pss_nil)
  (pss_cons (ps_set (i := 3) sc_law_draw.nd rfl (Or.inl rfl) (pe_ix ix_z (zv 0) pe_int (fun _ _ => rfl)))
  (pss_cons (ps_asg (pe_op op_zAdd (pe_ix ix_z (zv 0) pe_int (fun _ _ => rfl)) pe_int) (pg_sub (zv 0) pe_int set_list))
  (pss_cons (ps_set (i := 4) sc_law_draw.nd rfl (Or.inl rfl) (pe_ifExp (ptz_cmp (op_zNe hr.units) (zv 3) (pe_lst pa_nil) (nomark _)) (pe_ix ix_z (zv 3) (pe_op op_zMod (pe_callTy call_intS (by rfl) T.b_int (by decide +kernel) (pa_cons (pe_ix ix_z (zv 0) pe_int (fun _ _ => rfl)) pa_nil)) (pe_callB call_lenZ (by rfl) T.b_len (by decide +kernel) (pa_cons (zv 3) pa_nil))) (fun _ _ => rfl)) pe_int))
  (pss_cons (ps_asg (pe_op op_zMod (pe_callTy call_intZ (by rfl) T.b_int (by decide +kernel) (pa_cons (pe_op op_zAdd (pe_op op_zAdd (pe_op op_zMul (pe_ix ix_z (zv 0) pe_int (fun _ _ => rfl)) pe_int) (zv 4)) (pe_op op_zMul pe_int (pe_ix ix_z (zv 0) pe_int (fun _ _ => rfl)))) pa_nil)) pe_int) (pg_sub (zv 0) pe_int set_list))
  (pss_one (ps_ret (pe_op op_zMod (pe_op op_zFdiv (pe_op op_zMod (pe_callTy call_intZ (by rfl) T.b_int (by decide +kernel) (pa_cons (pe_op op_zAdd (pe_op op_zMul (pe_op op_zFdiv (pe_ix ix_z (zv 0) pe_int (fun _ _ => rfl)) pe_int) pe_int) (pe_ix ix_z (zv 0) pe_int (fun _ _ => rfl))) pa_nil)) pe_int) pe_int) (zv 1)))))))))
/-! ### what is drawn from -/
def DeckAt (H : Hp) (p wa : Addr) : Prop := ∃ (c m t : Int) (ws : List Int), H p = some (.lst [.int c, .int m, .ref wa, .int t]) ∧ H wa = some (.lst (ws.map V.int)) ∧ ws.length ≤ 63 ∧ 0 ≤ c
def sp_law_deck (K : PySem.W.Frag) (g : Ads) : Sp := fun vs H Q E => ∃ (a : Addr) (ns : List Int) (t : Int), vs = [.ref a, .int t] ∧ SqL K H a (ns.map V.int) ∧ ns.length ≤ 63 ∧ 0 ≤ t ∧
  ∀ p wa H', H p = none → H wa = none → Same H H' → DeckAt H' p wa → Q (.ref p) H'
theorem cut_ints (ns : List Int) (lo hi : Option Int) : ∃ ms : List Int, cutV (ns.map V.int) lo hi = ms.map V.int ∧ ms.length ≤ ns.length := by
  refine ⟨(ns.drop (HT.sIx ns.length 0 lo)).take (HT.sIx ns.length ns.length hi - HT.sIx ns.length 0 lo), ?_, ?_⟩
  · simp [cutV, List.map_take, List.map_drop]
  · simp; omega
theorem pf_law_deck {K : PySem.W.Frag} {g : Ads} (vs : List V) (H : Hp) (Q : VK) (E : XK) (h : sp_law_deck K g vs H Q E) : rw_law_deck K g vs H Q E := by
  obtain ⟨a, ns, t, rfl, hS, hl, ht, q⟩ := h
  refine ⟨rfl, ⟨_, .inl hS, ?_⟩⟩
  -- behind the first statement: any cell
  have go : ∀ c : Int, 0 ≤ c → R_law_deck_2 K g E { nx := fun _ H' => Q .non H', rt := Q } [some (.ref a), some (.int t), some (.int c), none, none, none, none, none] H := by
    intro c hc
    refine ⟨63, rfl, a, _, rfl, hS, fun p hp => ?_⟩
    obtain ⟨ms, em, lm⟩ := cut_ints ns none (some 63)
    rw [em]
    refine ⟨p, rfl, ⟨_, .inl (.inl upd_same)⟩, lc_map (walk_list (xs := ms.map V.int)) (fun i => .int ((if ms.getD i 0 < 0 then -ms.getD i 0 else ms.getD i 0) % 2147483563)) ?_ (fun H' s => .inl (.inl (s _ _ upd_same))) (fun i x H0 H' hi s y => ?_) (fun D hD => ?_)⟩
    · rw [List.length_map]
      exact Nat.le_trans lm (Nat.le_trans hl (by decide))
    · obtain ⟨rfl, hx⟩ := y
      rw [List.getElem?_map] at hx
      cases e : ms[i]? with
      | none =>
        rw [e] at hx
        cases hx
      | some z =>
        rw [e] at hx
        cases hx
        refine ⟨rfl, _, fun R r => r, rfl, fun R r => r, fun R r => ⟨by decide, ?_⟩⟩
        have e2 : ms.getD i 0 = z := by simp [List.getD_eq_getElem?_getD, e]
        rw [e2] at r
        exact r
    · -- the words stand at D
      have hnp : D ≠ p := fun z => by
        rw [z, upd_same] at hD
        cases hD
      have hDn : H D = none := by
        rw [upd_ne hnp] at hD
        exact hD
      generalize hw : (List.range (ms.map V.int).length).map (fun i => (if ms.getD i 0 < 0 then -ms.getD i 0 else ms.getD i 0) % 2147483563) = ws
      have hw2 : (List.range (ms.map V.int).length).map (fun i => V.int ((if ms.getD i 0 < 0 then -ms.getD i 0 else ms.getD i 0) % 2147483563)) = ws.map V.int := by
        rw [← hw, List.map_map]
        rfl
      have lw : ws.length ≤ 63 := by
        rw [← hw]
        simp
        omega
      rw [hw2]
      have s1 : Same H (upd (upd H p (.lst (ms.map V.int))) D (.lst (ws.map V.int))) := (Same.put hp).trans (Same.put hD)
      refine ⟨.inl (by decide), D, _, rfl, .inl ⟨SqL.of upd_same, for_z walk_enum (fun i σ H2 => ∃ (m : Int) (v5 v6 : Option V), σ = [some (.ref a), some (.int t), some (.int c), some (.ref D), some (.int m), v5, v6, none] ∧ Same (upd (upd H p (.lst (ms.map V.int))) D (.lst (ws.map V.int))) H2)
        ⟨_, none, none, rfl, Same.refl _⟩ (fun i σ H2 _ ⟨_, _, _, _, s2⟩ => SqL.of (s2 _ _ upd_same)) ?_ ?_⟩⟩
      · rintro i x σ H2 H3 hi ⟨m, v5, v6, rfl, s2⟩ ⟨T, x1, x2, rfl, hT, rfl, e1, e2⟩
        cases e1
        have e2 : (ws.map V.int)[i]? = some x2 := e2
        rw [List.getElem?_map] at e2
        cases e : ws[i]? with
        | none =>
          rw [e] at e2
          cases e2
        | some z =>
          rw [e] at e2
          cases e2
          exact ⟨T, _, rfl, SqT.of upd_same, rfl, _, _, rfl, _, _, rfl, rfl, .inr (by decide), .inl (by decide), by decide, _, _, _, rfl, s2.trans (Same.put hT)⟩
      · rintro σ H2 ⟨m, v5, v6, rfl, s2⟩
        have fin : ∀ c' : Int, 0 ≤ c' → (4 ≤ sizeLine ∧ ∀ p2, H2 p2 = none → Q (.ref p2) (upd H2 p2 (.lst [.int c', .int m, .ref D, .int t]))) := by
          refine fun c' hc' => ⟨by decide, fun p2 hp2 => q _ D _ ((s1.trans s2).free hp2) hDn ((s1.trans s2).trans (Same.put hp2)) ⟨c', m, t, ws, upd_same, ?_, lw, hc'⟩⟩
          rw [upd_ne (ne_of_none (s2 _ _ upd_same) hp2)]
          exact s2 _ _ upd_same
        refine ⟨⟨by decide, by decide, by decide⟩, zite (fun _ => ?_) (fun _ => ?_)⟩
        · exact fin c hc
        · exact fin 0 (Int.le_refl 0)
  refine zite (fun h1 => ?_) (fun h1 => ?_)
  · have h1' : t < (ns.map V.int).length := by simpa using h1
    obtain ⟨k, rfl⟩ : ∃ k : Nat, t = k := ⟨t.toNat, by omega⟩
    have hk : k < ns.length := by
      rw [List.length_map] at h1'
      omega
    refine ⟨_, .int ns[k], .inl hS, atI_nat (by simp [hk]), ?_⟩
    exact go _ (by split <;> omega)
  · exact go 0 (Int.le_refl 0)
end Z
namespace Z
open PySem PySem.Spec PyProof.Rows L2
theorem deck_ne {H : Hp} {p wa : Addr} {c m t : Int} {ws : List Int} (h : H p = some (.lst [.int c, .int m, .ref wa, .int t])) (h2 : H wa = some (.lst (ws.map V.int))) : wa ≠ p := by
  intro e
  rw [e, h] at h2
  have z : [V.int c, .int m, .ref wa, .int t] = ws.map V.int := by
    injection h2 with h2
    injection h2
  have z2 : V.ref wa ∈ ws.map V.int := z ▸ (by simp)
  obtain ⟨x, _, hx⟩ := List.mem_map.mp z2
  cases hx
theorem divW {n : Int} (h0 : 0 < n) (h : n ≤ 1000000000000000000000000) : CDivW 1 n := wide_div h0 (b := 80) (by omega) (by decide) (by decide)
theorem dp_ints {K : PySem.W.Frag} {H : Hp} : ∀ ws : List Int, DpAll K H (ws.map V.int) (ws.map PyData.int)
  | [] => .nil
  | x :: r => .cons (.int x) (dp_ints r)
theorem lay_ints : ∀ ws : List Int, PyData.canLayAll0 (ws.map PyData.int) = true ∧ PyData.depthAll (ws.map PyData.int) = 0
  | [] => ⟨by simp only [List.map_nil, PyData.canLayAll0], by simp only [List.map_nil, PyData.depthAll]⟩
  | x :: r => by
    obtain ⟨h1, h2⟩ := lay_ints r
    constructor
    · simp only [List.map_cons, PyData.canLayAll0, PyData.canLay0, h1, Bool.and_self]
    · simp only [List.map_cons, PyData.depthAll, PyData.depth, h2, Nat.max_self]
theorem shaped_ints (ws : List Int) : SeqAt.shaped (.list (ws.map PyData.int)) = true := by
  obtain ⟨h1, h2⟩ := lay_ints ws
  simp only [SeqAt.shaped, PyData.canLay0, PyData.depth, h1, h2]
  decide
def sp_law_draw (K : PySem.W.Frag) (g : Ads) : Sp := fun vs H Q E => ∃ (p wa : Addr) (n : Int), vs = [.ref p, .int n] ∧ DeckAt H p wa ∧ 0 < n ∧ n ≤ 1000000000000000000000000 ∧
  ∀ r H', 0 ≤ r → r < n → DeckAt H' p wa → But p H H' → Q (.int r) H'
theorem pf_law_draw {K : PySem.W.Frag} {g : Ads} (vs : List V) (H : Hp) (Q : VK) (E : XK) (h : sp_law_draw K g vs H Q E) : rw_law_draw K g vs H Q E := by
  obtain ⟨p, wa, n, rfl, ⟨c, m, t, ws, h1, h2, h3, h4⟩, n0, n1, q⟩ := h
  have hne := deck_ne h1 h2
  refine ⟨rfl, ⟨_, _, .inl (SqL.of h1), rfl, zite (fun hc => ?_) (fun hc => ?_)⟩⟩
  · refine ⟨_, _, .inl (SqL.of h1), rfl, n0, _, _, .inl (SqL.of h1), rfl, divW n0 n1, p, _, _, _, rfl, rfl, h1, rfl, ?_⟩
    refine q _ _ (Int.emod_nonneg _ (by omega)) (Int.emod_lt_of_pos _ n0) ⟨c / n, m, t, ws, upd_same, ?_, h3, Int.ediv_nonneg h4 (by omega)⟩ But.put
    rw [upd_ne hne]
    exact h2
  · refine ⟨_, _, .inl (SqL.of h1), rfl, _, _, .inl (SqL.of h1), rfl, p, _, _, _, rfl, rfl, h1, rfl, ?_⟩
    -- deck[3] is one more; what is drawn of the words is any int
    have go : ∀ (more : Int) (H1 : Hp), H1 p = some (.lst [.int c, .int m, .ref wa, .int (t + 1)]) → H1 wa = some (.lst (ws.map V.int)) → But p H H1 →
        R_law_draw_8 K g E { nx := fun _ H' => Q .non H', rt := Q } [some (.ref p), some (.int n), none, some (.ref wa), some (.int more)] H1 := by
      intro more H1 a1 a2 a3
      refine ⟨_, _, .inl (SqL.of a1), rfl, .inr (by decide), _, _, .inl (SqL.of a1), rfl, .inl (by decide), by decide, p, _, _, _, rfl, rfl, a1, rfl, ?_⟩
      refine ⟨_, _, .inl (SqL.of upd_same), rfl, ⟨by decide, by decide⟩, .inr (by decide), _, _, .inl (SqL.of upd_same), rfl, by decide, ⟨by decide, by decide⟩, n0, ?_⟩
      refine q _ _ (Int.emod_nonneg _ (by omega)) (Int.emod_lt_of_pos _ n0) ⟨c, _, t + 1, ws, upd_same, ?_, h3, h4⟩ (a3.trans But.put)
      rw [upd_ne hne]
      exact a2
    have g1 : (upd H p (.lst [.int c, .int m, .ref wa, .int (t + 1)])) wa = some (.lst (ws.map V.int)) := by
      rw [upd_ne hne]
      exact h2
    refine ⟨by decide, fun b hb => .inr ⟨_, _, .lst (SqL.of ?_) (dp_ints ws), .lst (SqL.of upd_same) .nil, shaped_ints ws, by decide +kernel, ?_⟩⟩
    · rw [upd_ne (ne_of_none g1 hb)]
      exact g1
    · have np : p ≠ b := ne_of_none upd_same hb
      have g2 : (upd (upd H p (.lst [.int c, .int m, .ref wa, .int (t + 1)])) b (.lst [])) p = some (.lst [.int c, .int m, .ref wa, .int (t + 1)]) := by rw [upd_ne np, upd_same]
      have g3 : (upd (upd H p (.lst [.int c, .int m, .ref wa, .int (t + 1)])) b (.lst [])) wa = some (.lst (ws.map V.int)) := by
        rw [upd_ne (ne_of_none g1 hb)]
        exact g1
      have g4 : But p H (upd (upd H p (.lst [.int c, .int m, .ref wa, .int (t + 1)])) b (.lst [])) := But.put.trans (But.same (Same.put hb))
      cases ws with
      | nil => exact go 0 _ g2 g3 g4
      | cons x r =>
        have l0 : (0 : Int) < (((x :: r).map V.int).length : Nat) := by
          rw [List.length_map, List.length_cons]
          omega
        have hlt := Int.emod_lt_of_pos (t + 1) l0
        have hge := Int.emod_nonneg (t + 1) (show ((((x :: r).map V.int).length : Nat) : Int) ≠ 0 by omega)
        obtain ⟨k, hk⟩ : ∃ k : Nat, (t + 1) % ((((x :: r).map V.int).length : Nat) : Int) = k := ⟨((t + 1) % ((((x :: r).map V.int).length : Nat) : Int)).toNat, by omega⟩
        have hkl : k < (x :: r).length := by
          rw [hk, List.length_map] at hlt
          omega
        refine ⟨_, _, .inl (SqL.of g2), rfl, _, .inl (SqL.of g3), l0, _, .int (x :: r)[k], .inl (SqL.of g3), ?_, go _ _ g2 g3 g4⟩
        rw [hk]
        exact atI_nat (by rw [List.getElem?_map, List.getElem?_eq_getElem hkl]; rfl)
end Z
namespace Z
open PySem PySem.Spec PyProof.Rows L2
section
variable {P : Program} {w : World} {K : PySem.W.Frag} {mg : Str → Option Value} {base : Heap} {g : Ads}
theorem ok_check_name (T : Txt K mg g) : FnG false P w K mg base 3 g.f_check_name g.d_check_name ["thing"] (sp_check_name K g) := (raw_check_name T).imp pf_check_name
theorem ok_check_operand (T : Txt K mg g) : FnG false P w K mg base 3 g.f_check_operand g.d_check_operand ["thing"] (sp_check_operand K g) := (raw_check_operand T).imp pf_check_operand
theorem ok_law_deck (T : Txt K mg g) : FnZ P w K mg base 1 g.f_law_deck g.d_law_deck ["script", "turn"] (sp_law_deck K g) := (raw_law_deck T).imp pf_law_deck
theorem ok_law_draw (T : Txt K mg g) : FnZ P w K mg base 1 g.f_law_draw g.d_law_draw ["deck", "many"] (sp_law_draw K g) := (raw_law_draw T).imp pf_law_draw
end
theorem sc_law_of : FnScope ["deck", "some"] ["deck", "some"] (defScope s_law_of) := ⟨rfl, rfl, rfl, by decide +kernel, rfl, by decide +kernel, by decide +kernel⟩
def R_law_of (K : PySem.W.Frag) (g : Ads) (E : XK) : TS :=
  (tRet (tOp (zIx K) (zVar 1) (zCall (sp_law_draw K g) [] (WE (fun cls d _ H => E cls d H)) (tCons (zVar 0) (tCons (tCB (zLen K) (tCons (zVar 1) tNil)) tNil)))))
def rw_law_of (K : PySem.W.Frag) (g : Ads) : Sp := fun vs H Q E => vs.length = 2 ∧ R_law_of K g E { nx := fun _ H' => Q .non H', rt := Q } (start ["deck", "some"] vs) H
theorem raw_law_of {P : Program} {w : World} {K : PySem.W.Frag} {mg : Str → Option Value} {base : Heap} {g : Ads} (T : Txt K mg g) : FnG true P w K mg base 2 g.f_law_of g.d_law_of ["deck", "some"] (rw_law_of K g) := by
  refine okZ T.f_law_of sc_law_of (fun vs H Q E h => h.1) (fun cdv A outer s H vs Q E hr hgu h => ⟨R_law_of K g E, ?_, h.2⟩)
  exact (pss_one (ps_ret (pe_ix ix_z (zv 1) (pe_callZ (ok_law_draw T) (hr.mono (by decide)) hgu rfl T.g_law_draw T.k_law_draw T.e_law_draw .nil (fun σ => passAt (takes_of rfl rfl rfl rfl) σ) (pa_cons (zv 0) (pa_cons (pe_callB call_lenZ (by rfl) T.b_len (by decide +kernel) (pa_cons (zv 1) pa_nil)) pa_nil))) (fun _ _ => rfl))))
theorem But.seq {K : PySem.W.Frag} {p a : Addr} {H H' : Hp} {xs : List V} (b : But p H H') (n : a ≠ p) (h : SqL K H a xs) : SqL K H' a xs := by
  rcases h with (h | ⟨o, h⟩) | h
  · exact .inl (.inl (b _ _ h n))
  · exact .inl (.inr ⟨o, b _ _ h n⟩)
  · exact .inr h
theorem But.tup {K : PySem.W.Frag} {p a : Addr} {H H' : Hp} {xs : List V} (b : But p H H') (n : a ≠ p) (h : SqT K H a xs) : SqT K H' a xs := by
  rcases h with (h | ⟨o, h⟩) | h
  · exact .inl (.inl (b _ _ h n))
  · exact .inl (.inr ⟨o, b _ _ h n⟩)
  · exact .inr h
theorem DeckAt.same {H H' : Hp} {p wa : Addr} (d : DeckAt H p wa) (s : Same H H') : DeckAt H' p wa := by
  obtain ⟨c, m, t, ws, h1, h2, h3, h4⟩ := d
  exact ⟨c, m, t, ws, s _ _ h1, s _ _ h2, h3, h4⟩
theorem DeckAt.ne {H : Hp} {p wa b : Addr} (d : DeckAt H p wa) (n : H b = none) : b ≠ p := by
  obtain ⟨c, m, t, ws, h1, h2, h3, h4⟩ := d
  exact (ne_of_none h1 n).symm
/-- an item by a drawn place -/
theorem drawn_at {xs : List V} {r : Int} (h0 : 0 ≤ r) (h1 : r < (xs.length : Int)) : ∃ (j : Nat) (x : V), xs[j]? = some x ∧ atI xs r = some x := by
  obtain ⟨k, rfl⟩ : ∃ k : Nat, r = k := ⟨r.toNat, by omega⟩
  have hk : k < xs.length := by omega
  exact ⟨k, xs[k], List.getElem?_eq_getElem hk, atI_nat (List.getElem?_eq_getElem hk)⟩
def sp_law_of (K : PySem.W.Frag) (g : Ads) : Sp := fun vs H Q E => ∃ (p wa a : Addr) (xs : List V), vs = [.ref p, .ref a] ∧ DeckAt H p wa ∧ (SqL K H a xs ∨ SqT K H a xs) ∧ a ≠ p ∧ xs ≠ [] ∧ xs.length ≤ 1000000 ∧
  ∀ (j : Nat) x H', xs[j]? = some x → DeckAt H' p wa → But p H H' → Q x H'
theorem pf_law_of {K : PySem.W.Frag} {g : Ads} (vs : List V) (H : Hp) (Q : VK) (E : XK) (h : sp_law_of K g vs H Q E) : rw_law_of K g vs H Q E := by
  obtain ⟨p, wa, a, xs, rfl, hd, ha, hne, hx, hl, q⟩ := h
  have l0 : 0 < xs.length := List.length_pos_iff.mpr hx
  refine ⟨rfl, ⟨xs, ha, p, wa, _, rfl, hd, by omega, by omega, fun r H' r0 r1 d' b' => ?_⟩⟩
  obtain ⟨j, x, e1, e2⟩ := drawn_at r0 r1
  refine ⟨xs, x, ?_, e2, q j x H' e1 d' b'⟩
  exact ha.elim (fun z => .inl (b'.seq hne z)) fun z => .inr (b'.tup hne z)
theorem ok_law_of {P : Program} {w : World} {K : PySem.W.Frag} {mg : Str → Option Value} {base : Heap} {g : Ads} (T : Txt K mg g) : FnZ P w K mg base 2 g.f_law_of g.d_law_of ["deck", "some"] (sp_law_of K g) := (raw_law_of T).imp pf_law_of
theorem sc_law_number : FnScope ["deck", "way", "found", "turn"] ["deck"] (defScope s_law_number) := ⟨rfl, rfl, rfl, by decide +kernel, rfl, by decide +kernel, by decide +kernel⟩
def R_law_number_3 (K : PySem.W.Frag) (g : Ads) (E : XK) : TS :=
  (tRet (tOp zSub (zCall (sp_law_draw K g) [] (WE (fun cls d _ H => E cls d H)) (tCons (zVar 0) (tCons (tC (.int 10)) tNil))) (tC (.int 4))))
def R_law_number_5 (K : PySem.W.Frag) (g : Ads) (E : XK) : TS :=
  (tRet (zCall (sp_law_of K g) [] (WE (fun cls d _ H => E cls d H)) (tCons (zVar 0) (tCons (tLst (tCons (tOp zSub (tOp zPow (tC (.int 10)) (tC (.int 20))) (tC (.int 1))) (tCons (tOp zSub (tC (.int 1)) (tOp zPow (tC (.int 10)) (tC (.int 20)))) tNil))) tNil))))
def R_law_number_8 (K : PySem.W.Frag) (g : Ads) (E : XK) : TS :=
  (tAsg (tOp zAdd (tOp zMul (zVar 2) (tC (.int 100000))) (zCall (sp_law_draw K g) [] (WE (fun cls d _ H => E cls d H)) (tCons (zVar 0) (tCons (tC (.int 100000)) tNil)))) (gName 2))
def R_law_number_9 (K : PySem.W.Frag) (g : Ads) (E : XK) : TS :=
  (tRet (zCall (sp_law_of K g) [] (WE (fun cls d _ H => E cls d H)) (tCons (zVar 0) (tCons (tLst (tCons (zVar 2) (tCons (zNeg (zVar 2)) tNil))) tNil))))
def R_law_number_7 (K : PySem.W.Frag) (g : Ads) (E : XK) : TS :=
  (tSeq (zFor (iRng1 (tCons (tOp zSub (zVar 1) (tC (.int 1))) tNil)) (gName 3)
  (R_law_number_8 K g E))
  (R_law_number_9 K g E))
def R_law_number_6 (K : PySem.W.Frag) (g : Ads) (E : XK) : TS :=
  (tSeq (tAsg (tC (.int 0)) (gName 2))
  (R_law_number_7 K g E))
def R_law_number_4 (K : PySem.W.Frag) (g : Ads) (E : XK) : TS :=
  (tSeq (tIfS (zTest (tOp (zEq K) (zVar 1) (tC (.int 2))))
  (R_law_number_5 K g E)
  tNext)
  (R_law_number_6 K g E))
def R_law_number_2 (K : PySem.W.Frag) (g : Ads) (E : XK) : TS :=
  (tSeq (tIfS (zTest (tOp zLt (zVar 1) (tC (.int 2))))
  (R_law_number_3 K g E)
  tNext)
  (R_law_number_4 K g E))
def R_law_number (K : PySem.W.Frag) (g : Ads) (E : XK) : TS :=
  (tSeq (tAsg (zCall (sp_law_draw K g) [] (WE (fun cls d _ H => E cls d H)) (tCons (zVar 0) (tCons (tC (.int 6)) tNil))) (gName 1))
  (R_law_number_2 K g E))
def rw_law_number (K : PySem.W.Frag) (g : Ads) : Sp := fun vs H Q E => vs.length = 1 ∧ R_law_number K g E { nx := fun _ H' => Q .non H', rt := Q } (start ["deck", "way", "found", "turn"] vs) H
theorem raw_law_number {P : Program} {w : World} {K : PySem.W.Frag} {mg : Str → Option Value} {base : Heap} {g : Ads} (T : Txt K mg g) : FnG true P w K mg base 3 g.f_law_number g.d_law_number ["deck"] (rw_law_number K g) := by
  refine okZ T.f_law_number sc_law_number (fun vs H Q E h => h.1) (fun cdv A outer s H vs Q E hr hgu h => ⟨R_law_number K g E, ?_, h.2⟩)
  exact (pss_cons (ps_set (i := 1) sc_law_number.nd rfl (Or.inl rfl) (pe_callZ (ok_law_draw T) (hr.mono (by decide)) hgu rfl T.g_law_draw T.k_law_draw T.e_law_draw .nil (fun σ => passAt (takes_of rfl rfl rfl rfl) σ) (pa_cons (zv 0) (pa_cons pe_int pa_nil))))
  (pss_cons (ps_if (ptz_cmp op_zLt (zv 1) pe_int (nomark _))
  (pss_one (ps_ret (pe_op op_zSub (pe_callZ (ok_law_draw T) (hr.mono (by decide)) hgu rfl T.g_law_draw T.k_law_draw T.e_law_draw .nil (fun σ => passAt (takes_of rfl rfl rfl rfl) σ) (pa_cons (zv 0) (pa_cons pe_int pa_nil))) pe_int)))
  pss_nil)
  (pss_cons (ps_if (ptz_cmp (op_zEq hr.units) (zv 1) pe_int (nomark _))
  (pss_one (ps_ret (pe_callZ (ok_law_of T) (hr.mono (by decide)) hgu rfl T.g_law_of T.k_law_of T.e_law_of .nil (fun σ => passAt (takes_of rfl rfl rfl rfl) σ) (pa_cons (zv 0) (pa_cons (pe_lst (pa_cons (pe_op op_zSub (pe_op op_zPow pe_int pe_int) pe_int) (pa_cons (pe_op op_zSub pe_int (pe_op op_zPow pe_int pe_int)) pa_nil))) pa_nil)))))
  pss_nil)
  (pss_cons (ps_set (i := 2) sc_law_number.nd rfl (Or.inl rfl) pe_int)
  (pss_cons (psz_for PassesOwn.leaving rfl (pi_range1 rfl T.b_range (pa_cons (pe_op op_zSub (zv 1) pe_int) pa_nil)) (pg_name (i := 3) sc_law_number.nd rfl (Or.inl rfl))
  (pss_one (ps_set (i := 2) sc_law_number.nd rfl (Or.inl rfl) (pe_op op_zAdd (pe_op op_zMul (zv 2) pe_int) (pe_callZ (ok_law_draw T) (hr.mono (by decide)) hgu rfl T.g_law_draw T.k_law_draw T.e_law_draw .nil (fun σ => passAt (takes_of rfl rfl rfl rfl) σ) (pa_cons (zv 0) (pa_cons pe_int pa_nil)))))))
  (pss_one (ps_ret (pe_callZ (ok_law_of T) (hr.mono (by decide)) hgu rfl T.g_law_of T.k_law_of T.e_law_of .nil (fun σ => passAt (takes_of rfl rfl rfl rfl) σ) (pa_cons (zv 0) (pa_cons (pe_lst (pa_cons (zv 2) (pa_cons (pez_neg (zv 2)) pa_nil))) pa_nil))))))))))
def sp_law_number (K : PySem.W.Frag) (g : Ads) : Sp := fun vs H Q E => ∃ (p wa : Addr), vs = [.ref p] ∧ DeckAt H p wa ∧
  ∀ i H', -100000000000000000000 < i → i < 100000000000000000000 → DeckAt H' p wa → But p H H' → Q (.int i) H'
theorem two_of {x : V} {a b : V} {j : Nat} (h : [a, b][j]? = some x) : x = a ∨ x = b := by
  match j, h with
  | 0, h => exact .inl (Option.some.inj h).symm
  | 1, h => exact .inr (Option.some.inj h).symm
  | j + 2, h => simp at h
theorem pf_law_number {K : PySem.W.Frag} {g : Ads} (vs : List V) (H : Hp) (Q : VK) (E : XK) (h : sp_law_number K g vs H Q E) : rw_law_number K g vs H Q E := by
  obtain ⟨p, wa, rfl, hd, q⟩ := h
  refine ⟨rfl, p, wa, _, rfl, hd, by decide, by decide, fun r H1 r0 r1 d1 b1 => zite (fun h1 => ?_) (fun h1 => ?_)⟩
  · refine ⟨p, wa, _, rfl, d1, by decide, by decide, fun r2 H2 r3 r4 d2 b2 => q _ _ (by omega) (by omega) d2 (b1.trans b2)⟩
  · have h1' : ¬ r < 2 := by simpa using h1
    refine .inl ⟨rfl, zite (fun h2 => ?_) (fun h2 => ?_)⟩
    · refine ⟨⟨by decide, by decide, by decide⟩, ⟨by decide, by decide, by decide⟩, by decide, fun l hl => ?_⟩
      refine ⟨p, wa, l, _, rfl, d1.same (Same.put hl), .inl (SqL.of upd_same), d1.ne hl, by simp, by decide, fun j x H2 hx d2 b2 => ?_⟩
      have b3 : But p H H2 := (b1.trans (But.same (Same.put hl))).trans b2
      rcases two_of hx with rfl | rfl
      · exact q _ _ (by decide) (by decide) d2 b3
      · exact q _ _ (by decide) (by decide) d2 b3
    · have h2' : ¬ r = 2 := by simpa using h2
      refine ⟨r - 1, rfl, by omega, by omega, for_z (walk_range (lo := 0) (n := (r - 1).toNat)) (fun i σ H2 => ∃ (f : Int) (v : Option V), σ = [some (.ref p), some (.int r), some (.int f), v] ∧ 0 ≤ f ∧ f < 100000 ^ i ∧ DeckAt H2 p wa ∧ But p H1 H2)
        ⟨0, none, rfl, by decide, by decide, d1, But.refl _ _⟩ (fun _ _ _ _ _ => trivial) ?_ ?_⟩
      · rintro i x σ H2 H3 hi ⟨f, v, rfl, f0, f1, d2, b2⟩ ⟨rfl, rfl⟩
        refine ⟨.inr (by decide), p, wa, _, rfl, d2, by decide, by decide, fun r2 H4 r3 r4 d4 b4 => ⟨_, _, rfl, by omega, ?_, d4, b2.trans b4⟩⟩
        rw [Int.pow_succ]
        generalize (100000 : Int) ^ i = P at f1 ⊢
        omega
      · rintro σ H2 ⟨f, v, rfl, f0, f1, d2, b2⟩
        have f2 : f < 100000000000000000000 := by
          have e : r = 3 ∨ r = 4 ∨ r = 5 := by omega
          rcases e with rfl | rfl | rfl
          · exact Int.lt_of_lt_of_le f1 (by decide)
          · exact Int.lt_of_lt_of_le f1 (by decide)
          · exact Int.lt_of_lt_of_le f1 (by decide)
        refine ⟨(show 2 ≤ sizeLine by decide), fun l hl => ?_⟩
        refine ⟨p, wa, l, _, rfl, d2.same (Same.put hl), .inl (SqL.of upd_same), d2.ne hl, by simp, (show 2 ≤ 1000000 by decide), fun j x H4 hx d4 b4 => ?_⟩
        have b5 : But p H H4 := ((b1.trans b2).trans (But.same (Same.put hl))).trans b4
        rcases two_of hx with rfl | rfl
        · exact q _ _ (by omega) f2 d4 b5
        · exact q _ _ (by omega) (by omega) d4 b5
theorem ok_law_number {P : Program} {w : World} {K : PySem.W.Frag} {mg : Str → Option Value} {base : Heap} {g : Ads} (T : Txt K mg g) : FnZ P w K mg base 3 g.f_law_number g.d_law_number ["deck"] (sp_law_number K g) := (raw_law_number T).imp pf_law_number
theorem sc_law_names : FnScope ["deck", "many", "letters", "stem", "first", "is_ahead", "turn", "found", "k", "at", "two"] ["deck", "many"] (defScope s_law_names) := ⟨rfl, rfl, rfl, by decide +kernel, rfl, by decide +kernel, by decide +kernel⟩
def R_law_names_4 (K : PySem.W.Frag) (g : Ads) (E : XK) : TS :=
  (tAsg (tOp zAdd (zVar 3) (zCall (sp_law_of K g) [] (WE (fun cls d _ H => E cls d H)) (tCons (zVar 0) (tCons (tLst (tCons (tC (.str "a")) (tCons (tC (.str "z")) (tCons (tC (.str "q")) (tCons (tC (.str "m")) tNil))))) tNil)))) (gName 3))
def R_law_names_9 (K : PySem.W.Frag) (g : Ads) (E : XK) : TS :=
  (tDrop (tBM K "list" rAppend (zVar 7) (tCons (tIf (zTru K (zVar 5)) (tOp zAdd (zVar 10) (zVar 3)) (tOp zAdd (zVar 3) (zVar 10))) tNil)))
def R_law_names_8 (K : PySem.W.Frag) (g : Ads) (E : XK) : TS :=
  (tSeq (tAsg (tOp zAdd (tOp (zIx K) (zVar 2) (tOp zFdiv (zVar 9) (tC (.int 26)))) (tOp (zIx K) (zVar 2) (tOp zMod (zVar 9) (tC (.int 26))))) (gName 10))
  (R_law_names_9 K g E))
def R_law_names_7 (K : PySem.W.Frag) (g : Ads) (E : XK) : TS :=
  (tSeq (tAsg (tOp zMod (tOp zAdd (zVar 4) (tOp zMul (tC (.int 7)) (zVar 8))) (tC (.int 676))) (gName 9))
  (R_law_names_8 K g E))
def R_law_names_6 (K : PySem.W.Frag) (g : Ads) (E : XK) : TS :=
  (tSeq (zFor (iRng1 (tCons (zVar 1) tNil)) (gName 8)
  (R_law_names_7 K g E))
  (tRet (zVar 7)))
def R_law_names_5 (K : PySem.W.Frag) (g : Ads) (E : XK) : TS :=
  (tSeq (tAsg (tLst tNil) (gName 7))
  (R_law_names_6 K g E))
def R_law_names_3 (K : PySem.W.Frag) (g : Ads) (E : XK) : TS :=
  (tSeq (zFor (iRng1 (tCons (zCall (sp_law_draw K g) [] (WE (fun cls d _ H => E cls d H)) (tCons (zVar 0) (tCons (tC (.int 7)) tNil))) tNil)) (gName 6)
  (R_law_names_4 K g E))
  (R_law_names_5 K g E))
def R_law_names_2 (K : PySem.W.Frag) (g : Ads) (E : XK) : TS :=
  (tSeq (tPar3 3 4 5 (tCons (tC (.str "")) (tCons (zCall (sp_law_draw K g) [] (WE (fun cls d _ H => E cls d H)) (tCons (zVar 0) (tCons (tC (.int 676)) tNil))) (tCons (tOp (zEq K) (zCall (sp_law_draw K g) [] (WE (fun cls d _ H => E cls d H)) (tCons (zVar 0) (tCons (tC (.int 2)) tNil))) (tC (.int 0))) tNil))))
  (R_law_names_3 K g E))
def R_law_names (K : PySem.W.Frag) (g : Ads) (E : XK) : TS :=
  (tSeq (tAsg (tC (.str "abcdefghijklmnopqrstuvwxyz")) (gName 2))
  (R_law_names_2 K g E))
def rw_law_names (K : PySem.W.Frag) (g : Ads) : Sp := fun vs H Q E => vs.length = 2 ∧ R_law_names K g E { nx := fun _ H' => Q .non H', rt := Q } (start ["deck", "many", "letters", "stem", "first", "is_ahead", "turn", "found", "k", "at", "two"] vs) H
theorem raw_law_names {P : Program} {w : World} {K : PySem.W.Frag} {mg : Str → Option Value} {base : Heap} {g : Ads} (T : Txt K mg g) : FnG true P w K mg base 3 g.f_law_names g.d_law_names ["deck", "many"] (rw_law_names K g) := by
  refine okZ T.f_law_names sc_law_names (fun vs H Q E h => h.1) (fun cdv A outer s H vs Q E hr hgu h => ⟨R_law_names K g E, ?_, h.2⟩)
  exact (pss_cons (ps_set (i := 2) sc_law_names.nd rfl (Or.inl rfl) pe_str)
  (pss_cons (ps_par3 (i := 3) (j := 4) (l := 5) (by rfl) sc_law_names.nd rfl rfl rfl (by decide) (by decide) (by decide) rfl rfl rfl (pa_cons pe_str (pa_cons (pe_callZ (ok_law_draw T) (hr.mono (by decide)) hgu rfl T.g_law_draw T.k_law_draw T.e_law_draw .nil (fun σ => passAt (takes_of rfl rfl rfl rfl) σ) (pa_cons (zv 0) (pa_cons pe_int pa_nil))) (pa_cons (pe_cmpR (op_zEq hr.units) (pe_callZ (ok_law_draw T) (hr.mono (by decide)) hgu rfl T.g_law_draw T.k_law_draw T.e_law_draw .nil (fun σ => passAt (takes_of rfl rfl rfl rfl) σ) (pa_cons (zv 0) (pa_cons pe_int pa_nil))) pe_int (nomark _)) pa_nil))) (by rfl))
  (pss_cons (psz_for PassesOwn.leaving rfl (pi_range1 rfl T.b_range (pa_cons (pe_callZ (ok_law_draw T) (hr.mono (by decide)) hgu rfl T.g_law_draw T.k_law_draw T.e_law_draw .nil (fun σ => passAt (takes_of rfl rfl rfl rfl) σ) (pa_cons (zv 0) (pa_cons pe_int pa_nil))) pa_nil)) (pg_name (i := 6) sc_law_names.nd rfl (Or.inl rfl))
  (pss_one (ps_set (i := 3) sc_law_names.nd rfl (Or.inl rfl) (pe_op op_zAdd (zv 3) (pe_callZ (ok_law_of T) (hr.mono (by decide)) hgu rfl T.g_law_of T.k_law_of T.e_law_of .nil (fun σ => passAt (takes_of rfl rfl rfl rfl) σ) (pa_cons (zv 0) (pa_cons (pe_lst (pa_cons pe_str (pa_cons pe_str (pa_cons pe_str (pa_cons pe_str pa_nil))))) pa_nil)))))))
  (pss_cons (ps_set (i := 7) sc_law_names.nd rfl (Or.inl rfl) (pe_lst pa_nil))
  (pss_cons (psz_for PassesOwn.leaving rfl (pi_range1 rfl T.b_range (pa_cons (zv 1) pa_nil)) (pg_name (i := 8) sc_law_names.nd rfl (Or.inl rfl))
  (pss_cons (ps_set (i := 9) sc_law_names.nd rfl (Or.inl rfl) (pe_op op_zMod (pe_op op_zAdd (zv 4) (pe_op op_zMul pe_int (zv 8))) pe_int))
  (pss_cons (ps_set (i := 10) sc_law_names.nd rfl (Or.inl rfl) (pe_op op_zAdd (pe_ix ix_z (zv 2) (pe_op op_zFdiv (zv 9) pe_int) (fun _ _ => rfl)) (pe_ix ix_z (zv 2) (pe_op op_zMod (zv 9) pe_int) (fun _ _ => rfl))))
  (pss_one (ps_expr (pe_bm PySem.F.plainAttrs_list PySem.F.slot_list_append PySem.F.type_list_append mt_append (zv 7) (pa_cons (pe_ifExp (ptz_truth (zv 5) (by intro _; rfl)) (pe_op op_zAdd (zv 10) (zv 3)) (pe_op op_zAdd (zv 3) (zv 10))) pa_nil)))))))
  (pss_one (ps_ret (zv 7))))))))
/-! ### texts of letters -/
abbrev abc : Str := "abcdefghijklmnopqrstuvwxyz"
theorem abc_at : ∀ i : Nat, i < 26 → abc.cps.toList[i]? = some (97 + i) := by decide +kernel
theorem abc_len : abc.length = 26 := by decide +kernel
theorem abc_ix {i : Int} (h0 : 0 ≤ i) (h1 : i < 26) : atI abc.cps.toList i = some (97 + i.toNat) := by
  obtain ⟨k, rfl⟩ : ∃ k : Nat, i = k := ⟨i.toNat, by omega⟩
  exact atI_nat (abc_at k (by omega))
/-- signs below 128 -/
def Asc (z : Str) : Prop := ∀ c ∈ z.cps.toList, c < 128
theorem Asc.app {x y : Str} (a : Asc x) (b : Asc y) : Asc (x ++ y) := fun c hc => by
  have e : (x ++ y).cps.toList = x.cps.toList ++ y.cps.toList := by
    show (x.cps ++ y.cps).toList = _
    simp
  rw [e] at hc
  exact (List.mem_append.mp hc).elim (a c) (b c)
theorem Asc.cut {x : Str} (a : Asc x) (lo hi : Option Int) : Asc (cutS x lo hi) := fun c hc => by
  have hc' : c ∈ (x.cps.toList.drop (HT.sIx x.length 0 lo)).take (HT.sIx x.length x.length hi - HT.sIx x.length 0 lo) := by simpa [cutS] using hc
  exact a c (List.mem_of_mem_drop (List.mem_of_mem_take hc'))
theorem asc_one {c : Nat} (h : c < 128) : Asc ⟨#[c]⟩ := fun d hd => by
  have e : d = c := by simpa using hd
  omega
theorem len_app (x y : Str) : (x ++ y).length = x.length + y.length := by
  show (x.cps ++ y.cps).size = x.cps.size + y.cps.size
  simp
theorem len_one (c : Nat) : (⟨#[c]⟩ : Str).length = 1 := rfl
/-- a word of the names that are drawn: two letters ahead of a stem, or behind it -/
def twoOf (first : Int) (k : Nat) : Str := ⟨#[97 + ((first + 7 * (k : Int)) % 676 / 26).toNat]⟩ ++ ⟨#[97 + ((first + 7 * (k : Int)) % 676 % 26).toNat]⟩
def nmOf (ahead : Bool) (stem : Str) (first : Int) (k : Nat) : Str := if ahead = true then twoOf first k ++ stem else stem ++ twoOf first k
def Stem (z : Str) : Prop := z.length ≤ 6 ∧ ∀ c ∈ z.cps.toList, c = 97 ∨ c = 122 ∨ c = 113 ∨ c = 109
def sp_law_names (K : PySem.W.Frag) (g : Ads) : Sp := fun vs H Q E => ∃ (p wa : Addr) (n : Int), vs = [.ref p, .int n] ∧ DeckAt H p wa ∧ 0 ≤ n ∧ n ≤ 1000 ∧
  ∀ (ah : Bool) (stem : Str) (first : Int) (D : Addr) (H' : Hp), Stem stem → 0 ≤ first → first < 676 → DeckAt H' p wa → But p H H' → H D = none →
    H' D = some (.lst ((List.range n.toNat).map fun k => V.str (nmOf ah stem first k))) → Q (.ref D) H'
theorem four_of {x a b c d : V} {j : Nat} (h : [a, b, c, d][j]? = some x) : x = a ∨ x = b ∨ x = c ∨ x = d := by
  match j, h with
  | 0, h => exact .inl (Option.some.inj h).symm
  | 1, h => exact .inr (.inl (Option.some.inj h).symm)
  | 2, h => exact .inr (.inr (.inl (Option.some.inj h).symm))
  | 3, h => exact .inr (.inr (.inr (Option.some.inj h).symm))
  | j + 4, h => simp at h
theorem pf_law_names {K : PySem.W.Frag} {g : Ads} (vs : List V) (H : Hp) (Q : VK) (E : XK) (h : sp_law_names K g vs H Q E) : rw_law_names K g vs H Q E := by
  obtain ⟨p, wa, n, rfl, hd, n0, n1, q⟩ := h
  refine ⟨rfl, p, wa, _, rfl, hd, by decide, by decide, fun first H1 r0 r1 d1 b1 => ⟨p, wa, _, rfl, d1, by decide, by decide, fun ra H2 r2 r3 d2 b2 => .inl ⟨rfl, _, _, _, rfl, ?_⟩⟩⟩
  refine ⟨p, wa, _, rfl, d2, by decide, by decide, fun r4 H3 r5 r6 d3 b3 => ⟨r4, rfl, by omega, by omega, for_z (walk_range (lo := 0) (n := r4.toNat)) (fun i σ H4 => ∃ (stem : Str) (v : Option V),
    σ = [some (.ref p), some (.int n), some (.str abc), some (.str stem), some (.int first), some (.bl (decide (V.int ra = V.int 0))), v, none, none, none, none] ∧ stem.length ≤ i ∧ (∀ c ∈ stem.cps.toList, c = 97 ∨ c = 122 ∨ c = 113 ∨ c = 109) ∧ DeckAt H4 p wa ∧ But p H H4)
    ⟨"", none, rfl, Nat.le_refl _, (fun c hc => absurd hc (by simp [show ("" : Str).cps = #[] from rfl])), d3, (b1.trans b2).trans b3⟩ (fun _ _ _ _ _ => trivial) ?_ ?_⟩⟩
  · rintro i x σ H4 H5 hi ⟨stem, v, rfl, f0, f1, d4, b4⟩ ⟨rfl, rfl⟩
    refine ⟨by decide, fun l hl => ⟨p, wa, l, _, rfl, d4.same (Same.put hl), .inl (SqL.of upd_same), d4.ne hl, by simp, by decide, fun j x H6 hx d6 b6 => ?_⟩⟩
    have b7 : But p H H6 := (b4.trans (But.same (Same.put hl))).trans b6
    have hi6 : i < 6 := by omega
    have key : ∀ c : Nat, (c = 97 ∨ c = 122 ∨ c = 113 ∨ c = 109) → x = .str ⟨#[c]⟩ → zAdd (.str stem) x H6 fun z H7 => ∃ (stem' : Str) (v' : Option V),
        [some (V.ref p), some (.int n), some (.str abc), some z, some (.int first), some (.bl (decide (V.int ra = V.int 0))), some (.int (0 + (i : Int))), none, none, none, none] =
          [some (V.ref p), some (.int n), some (.str abc), some (.str stem'), some (.int first), some (.bl (decide (V.int ra = V.int 0))), v', none, none, none, none] ∧
          stem'.length ≤ i + 1 ∧ (∀ c ∈ stem'.cps.toList, c = 97 ∨ c = 122 ∨ c = 113 ∨ c = 109) ∧ DeckAt H7 p wa ∧ But p H H7 := by
      rintro c hc rfl
      refine ⟨?_, _, _, rfl, ?_, ?_, d6, b7⟩
      · rw [len_one]
        exact Nat.le_trans (show stem.length + 1 ≤ 7 by omega) (by decide)
      · rw [len_app, len_one]
        omega
      · intro d hd
        have e : (stem ++ (⟨#[c]⟩ : Str)).cps.toList = stem.cps.toList ++ [c] := by
          show (stem.cps ++ #[c]).toList = _
          simp
        rw [e] at hd
        rcases List.mem_append.mp hd with z | z
        · exact f1 d z
        · have e2 : d = c := by simpa using z
          rw [e2]
          exact hc
    rcases four_of hx with e | e | e | e
    · exact key 97 (by simp) e
    · exact key 122 (by simp) e
    · exact key 113 (by simp) e
    · exact key 109 (by simp) e
  · rintro σ H4 ⟨stem, v, rfl, f0, f1, d4, b4⟩
    have hst : Stem stem := ⟨by omega, f1⟩
    refine ⟨by decide, fun D hD => ?_⟩
    have hDH : H D = none := by
      cases e : H D with
      | none => rfl
      | some o =>
        by_cases z : D = p
        · exact absurd z (d4.ne hD)
        · have := b4 D o e z
          rw [hD] at this
          cases this
    have hDp : D ≠ p := d4.ne hD
    refine ⟨n, rfl, by omega, by omega, for_z (walk_range (lo := 0) (n := n.toNat)) (fun i σ H5 => ∃ (v6 v8 v9 v10 : Option V),
      σ = [some (.ref p), some (.int n), some (.str abc), some (.str stem), some (.int first), some (.bl (decide (V.int ra = V.int 0))), v6, some (.ref D), v8, v9, v10] ∧
        H5 D = some (.lst ((List.range i).map fun k => V.str (nmOf (decide (V.int ra = V.int 0)) stem first k))) ∧ DeckAt H5 p wa ∧ But p H H5)
      ⟨v, none, none, none, rfl, upd_same, d4.same (Same.put hD), b4.trans (But.same (Same.put hD))⟩ (fun _ _ _ _ _ => trivial) ?_ ?_⟩
    · rintro i x σ H5 H6 hi ⟨v6, v8, v9, v10, rfl, g1, g2, g3⟩ ⟨rfl, rfl⟩
      have q0 := Int.emod_nonneg (first + 7 * (0 + (i : Int))) (show (676 : Int) ≠ 0 by decide)
      have q1 := Int.emod_lt_of_pos (first + 7 * (0 + (i : Int))) (show (0 : Int) < 676 by decide)
      refine ⟨.inl (by decide), by decide, ⟨by decide, by decide⟩, by decide, _, abc_ix (by omega) (by omega), by decide, by decide, _, abc_ix (by omega) (by omega), (show 2 ≤ sizeLine by decide), ?_⟩
      have hin : (List.range i).length < sizeLine := by
        rw [List.length_range]
        exact Nat.lt_of_lt_of_le (show i < 1000 by omega) (by decide)
      have hwD : wa ≠ D := by
        obtain ⟨c, m, t, ws, a1, a2, a3, a4⟩ := d4
        exact ne_of_none a2 hD
      have hfin : ∀ z : Str, z = nmOf (decide (V.int ra = V.int 0)) stem first i →
          (upd H6 D (.lst (((List.range i).map fun k => V.str (nmOf (decide (V.int ra = V.int 0)) stem first k)) ++ [.str z]))) D =
            some (.lst ((List.range (i + 1)).map fun k => V.str (nmOf (decide (V.int ra = V.int 0)) stem first k))) ∧
          DeckAt (upd H6 D (.lst (((List.range i).map fun k => V.str (nmOf (decide (V.int ra = V.int 0)) stem first k)) ++ [.str z]))) p wa ∧
          But p H (upd H6 D (.lst (((List.range i).map fun k => V.str (nmOf (decide (V.int ra = V.int 0)) stem first k)) ++ [.str z]))) := by
        rintro z rfl
        refine ⟨?_, ?_, ?_⟩
        · rw [upd_same, List.range_succ, List.map_append]
          rfl
        · obtain ⟨c, m, t, ws, a1, a2, a3, a4⟩ := g2
          exact ⟨c, m, t, ws, by rw [upd_ne hDp.symm]; exact a1, by rw [upd_ne hwD]; exact a2, a3, a4⟩
        · intro b o e nb
          rw [upd_ne (ne_of_none e hDH)]
          exact g3 b o e nb
      have hln : ((List.range i).map fun k => V.str (nmOf (decide (V.int ra = V.int 0)) stem first k)).length < sizeLine := by
        rw [List.length_map]
        exact hin
      have e0 : (0 : Int) + (i : Int) = (i : Int) := Int.zero_add _
      have l2 : ∀ x y : Nat, ((⟨#[x]⟩ : Str) ++ ⟨#[y]⟩).length = 2 := fun x y => rfl
      have l6 : stem.length ≤ 6 := hst.1
      refine ⟨.inl ⟨rfl, _, SqL.of g1⟩, ?_⟩
      refine zite (fun ha => ?_) (fun ha => ?_)
      · have hz : ((⟨#[97 + ((first + 7 * (0 + (i : Int))) % 676 / 26).toNat]⟩ : Str) ++ (⟨#[97 + ((first + 7 * (0 + (i : Int))) % 676 % 26).toNat]⟩ : Str)) ++ stem = nmOf (decide (V.int ra = V.int 0)) stem first i := by
          rw [e0]
          simp only [nmOf, ha, if_true, twoOf]
        refine ⟨?_, D, _, _, rfl, rfl, g1, hln, v6, _, _, _, rfl, hfin _ hz⟩
        rw [l2]
        exact Nat.le_trans (show 2 + stem.length ≤ 8 by omega) (by decide)
      · have hz : stem ++ ((⟨#[97 + ((first + 7 * (0 + (i : Int))) % 676 / 26).toNat]⟩ : Str) ++ (⟨#[97 + ((first + 7 * (0 + (i : Int))) % 676 % 26).toNat]⟩ : Str)) = nmOf (decide (V.int ra = V.int 0)) stem first i := by
          rw [e0]
          simp only [nmOf, ha, twoOf]
          rfl
        refine ⟨?_, D, _, _, rfl, rfl, g1, hln, v6, _, _, _, rfl, hfin _ hz⟩
        rw [l2]
        exact Nat.le_trans (show stem.length + 2 ≤ 8 by omega) (by decide)
    · rintro σ H5 ⟨v6, v8, v9, v10, rfl, g1, g2, g3⟩
      exact q _ stem first D H5 hst r0 r1 g2 g3 hDH g1
end Z
namespace Z
open PySem PySem.Spec PyProof.Rows L2
theorem ok_law_names {P : Program} {w : World} {K : PySem.W.Frag} {mg : Str → Option Value} {base : Heap} {g : Ads} (T : Txt K mg g) : FnZ P w K mg base 3 g.f_law_names g.d_law_names ["deck", "many"] (sp_law_names K g) := (raw_law_names T).imp pf_law_names
/-! ### what comes of checks -/
inductive EK where
  | nm | vl | mn
def EK.c (g : Ads) : EK → Addr
  | .nm => g.c_BadName
  | .vl => g.c_BadValue
  | .mn => g.c_TooMany
def EK.f : EK → Str
  | .nm => "name"
  | .vl => "value"
  | .mn => "limit"
def EK.n : EK → Str
  | .nm => "BadName"
  | .vl => "BadValue"
  | .mn => "TooMany"
inductive Out where
  | ok : Out
  | err (k : EK) (v : V) (d : PyData) : Out
def Out.and : Out → Out → Out
  | .ok, o => o
  | e, _ => e
/-- checks, in their order: of a name (true) or of an operand -/
def chk : List (Bool × V × PyData) → Out
  | [] => .ok
  | c :: r => if c.1 = true then (if isNameV c.2.1 = true then chk r else .err .nm c.2.1 c.2.2) else (if isOperV c.2.1 = true then chk r else .err .vl c.2.1 c.2.2)
def chkOps (cs : List (V × PyData)) : Out := (chk (cs.map fun c => (false, c))).and (if cs.length ≤ 3 then .ok else .err .mn (.int 3) (.int 3))
theorem chk_app : ∀ a b : List (Bool × V × PyData), chk (a ++ b) = (chk a).and (chk b)
  | [], b => rfl
  | c :: r, b => by
    have ih := chk_app r b
    rw [List.cons_append]
    have e : ∀ l, chk (c :: l) = if c.1 = true then (if isNameV c.2.1 = true then chk l else .err .nm c.2.1 c.2.2) else (if isOperV c.2.1 = true then chk l else .err .vl c.2.1 c.2.2) := fun l => rfl
    rw [e, e]
    split
    · split
      · exact ih
      · rfl
    · split
      · exact ih
      · rfl
def Errs (g : Ads) (o : Out) (H : Hp) (E : XK) : Prop := ∀ k v d, o = .err k v d → ∀ H' dd, Same H H' → H dd = none → H' dd = some (.xd [(k.f, v)]) → E (.ref (k.c g)) (some dd) H'
def sp_check_operands (K : PySem.W.Frag) (g : Ads) : Sp := fun vs H Q E => ∃ (t : Addr) (cs : List (V × PyData)), vs = [.ref t] ∧ SqT K H t (cs.map (·.1)) ∧ (∀ c ∈ cs, Knd K H c.1) ∧ cs.length ≤ 1000 ∧
  (chkOps cs = .ok → ∀ H', Same H H' → Q (.ref t) H') ∧ Errs g (chkOps cs) H E
theorem sc_check_operands : FnScope ["things", "thing"] ["things"] (defScope s_check_operands) := ⟨rfl, rfl, rfl, by decide +kernel, rfl, by decide +kernel, by decide +kernel⟩
def R_check_operands_2 (K : PySem.W.Frag) (g : Ads) (E : XK) : TS :=
  (tDrop (zCall (sp_check_operand K g) [] (WE (fun cls d _ H => E cls d H)) (tCons (zVar 1) tNil)))
def R_check_operands_4 (K : PySem.W.Frag) (g : Ads) (E : XK) : TS :=
  (zRaise (fun cls d _ H => E cls d H) g.c_TooMany (sp_TooMany_init K g) (tCons (tC (.int 3)) tNil))
def R_check_operands_5 (K : PySem.W.Frag) (g : Ads) (E : XK) : TS :=
  (tRet (tCB (zTupOf K) (tCons (zVar 0) tNil)))
def R_check_operands_3 (K : PySem.W.Frag) (g : Ads) (E : XK) : TS :=
  (tSeq (tIfS (zTest (tOp zGt (tCB (zLen K) (tCons (zVar 0) tNil)) (tC (.int 3))))
  (R_check_operands_4 K g E)
  tNext)
  (R_check_operands_5 K g E))
def R_check_operands (K : PySem.W.Frag) (g : Ads) (E : XK) : TS :=
  (tSeq (zFor (iTup K (zVar 0)) (gName 1)
  (R_check_operands_2 K g E))
  (R_check_operands_3 K g E))
def rw_check_operands (K : PySem.W.Frag) (g : Ads) : Sp := fun vs H Q E => vs.length = 1 ∧ R_check_operands K g E { nx := fun _ H' => Q .non H', rt := Q } (start ["things", "thing"] vs) H
theorem raw_check_operands {P : Program} {w : World} {K : PySem.W.Frag} {mg : Str → Option Value} {base : Heap} {g : Ads} (T : Txt K mg g) : FnG false P w K mg base 4 g.f_check_operands g.d_check_operands ["things"] (rw_check_operands K g) := by
  refine okZ T.f_check_operands sc_check_operands (fun vs H Q E h => h.1) (fun cdv A outer s H vs Q E hr hgu h => ⟨R_check_operands K g E, ?_, h.2⟩)
  exact (pss_cons (psz_for PassesOwn.leaving rfl (pi_tup (zv 0)) (pg_name (i := 1) sc_check_operands.nd rfl (Or.inl rfl))
  (pss_one (ps_expr (pe_callZ (ok_check_operand T) (hr.mono (by decide)) (fun z => nomatch z) rfl T.g_check_operand T.k_check_operand T.e_check_operand .nil (fun σ => passAt (takes_of rfl rfl rfl rfl) σ) (pa_cons (zv 1) pa_nil)))))
  (pss_cons (ps_if (ptz_cmp op_zGt (pe_callB call_lenZ (by rfl) T.b_len (by decide +kernel) (pa_cons (zv 0) pa_nil)) (pe_cint rfl T.n_MOST_OPERANDS) (nomark _))
  (pss_one (ps_raise rfl (takes_of rfl rfl rfl rfl) (pmk_ZB T.o_TooMany T.i_TooMany T.t_TooMany (ok_TooMany_init T) (hr.mono (by decide)) (fun z => nomatch z) T.e_TooMany_init rfl T.g_TooMany (by exact (pa_cons (pe_cint rfl T.n_MOST_OPERANDS) pa_nil)))))
  pss_nil)
  (pss_one (ps_ret (pe_callTy call_tupZ (by rfl) T.b_tuple (by decide +kernel) (pa_cons (zv 0) pa_nil))))))
theorem Same.tup {K : PySem.W.Frag} {H H' : Hp} {a : Addr} {xs : List V} (s : Same H H') (h : SqT K H a xs) : SqT K H' a xs := by
  rcases h with (h | ⟨o, h⟩) | h
  · exact .inl (.inl (s _ _ h))
  · exact .inl (.inr ⟨o, s _ _ h⟩)
  · exact .inr h
theorem pf_check_operands {K : PySem.W.Frag} {g : Ads} (vs : List V) (H : Hp) (Q : VK) (E : XK) (h : sp_check_operands K g vs H Q E) : rw_check_operands K g vs H Q E := by
  obtain ⟨t, cs, rfl, ht, hk, hl, q1, q2⟩ := h
  refine ⟨rfl, t, rfl, ⟨_, ht⟩, for_z (walk_tup (xs := cs.map (·.1))) (fun i σ H' => Same H H' ∧ chk ((cs.take i).map fun c => (false, c)) = .ok ∧ ∃ v, σ = [some (.ref t), v]) ⟨Same.refl H, rfl, _, rfl⟩ (fun i σ H' _ hh => Z.Same.tup hh.1 ht) ?_ ?_⟩
  · rintro i x σ H1 H1' hi ⟨s1, c1, v, rfl⟩ ⟨rfl, hx⟩
    rw [List.getElem?_map] at hx
    cases e : cs[i]? with
    | none =>
      rw [e] at hx
      cases hx
    | some c =>
      rw [e] at hx
      cases hx
      have hm := List.mem_of_getElem? e
      have et : cs.take (i + 1) = cs.take i ++ [c] := by rw [List.take_succ, e]; rfl
      refine ⟨c.1, rfl, (hk c hm).same s1, fun n H2 s2 => ⟨s1.trans s2, ?_, _, rfl⟩, fun n H2 dd s2 hd ex => ?_⟩
      · rw [et, List.map_append, chk_app, c1]
        show chk [(false, c)] = .ok
        simp [chk, n]
      · refine q2 .vl c.1 c.2 ?_ H2 dd (s1.trans s2) (s1.free hd) ex
        have e2 : cs = cs.take i ++ (c :: cs.drop (i + 1)) := by
          have l : i < cs.length := (List.getElem?_eq_some_iff.mp e).1
          have := List.take_append_drop i cs
          rw [List.drop_eq_getElem_cons l] at this
          rw [← (List.getElem?_eq_some_iff.mp e).2]
          exact this.symm
        unfold chkOps
        rw [show chk (cs.map fun c => (false, c)) = .err .vl c.1 c.2 by
          rw [e2, List.map_append, chk_app, c1]
          show chk ((false, c) :: _) = _
          simp [chk, n]]
        rfl
  · rintro σ H1 ⟨s1, c1, v, rfl⟩
    have c2 : chk (cs.map fun c => (false, c)) = .ok := by
      rw [List.length_map, List.take_length] at c1
      exact c1
    refine ⟨_, .inr (Z.Same.tup s1 ht), zite (fun h => ?_) (fun h => ?_)⟩
    · have h' : ¬ cs.length ≤ 3 := by
        have := of_decide_eq_true h
        rw [List.length_map] at this
        omega
      refine raise_at fun d hd => q2 .mn (.int 3) (.int 3) ?_ _ d (s1.trans (Same.put hd)) (s1.free hd) upd_same
      unfold chkOps
      rw [c2, if_neg h']
      rfl
    · have h' : cs.length ≤ 3 := by
        have := of_decide_eq_false h
        rw [List.length_map] at this
        omega
      refine ⟨_, .inr ⟨Z.Same.tup s1 ht, q1 ?_ H1 s1⟩⟩
      unfold chkOps
      rw [c2, if_pos h']
      rfl
theorem ok_check_operands {P : Program} {w : World} {K : PySem.W.Frag} {mg : Str → Option Value} {base : Heap} {g : Ads} (T : Txt K mg g) : FnG false P w K mg base 4 g.f_check_operands g.d_check_operands ["things"] (sp_check_operands K g) := (raw_check_operands T).imp pf_check_operands
end Z
namespace Z
open PySem PySem.Spec PyProof.Rows L2
/-! ### instances that are being made -/
def hid (S : List Addr) (H : Hp) : Hp := fun b => if b ∈ S then none else H b
theorem hid_of {S : List Addr} {H : Hp} {b : Addr} {o : HO} (e : hid S H b = some o) : b ∉ S ∧ H b = some o := by
  unfold hid at e
  by_cases h : b ∈ S
  · rw [if_pos h] at e
    cases e
  · rw [if_neg h] at e
    exact ⟨h, e⟩
theorem hid_at {S : List Addr} {H : Hp} {b : Addr} {o : HO} (h : b ∉ S) (e : H b = some o) : hid S H b = some o := by
  unfold hid
  rw [if_neg h]
  exact e
theorem hid_same {S : List Addr} {H H' : Hp} (k : ∀ b o, H b = some o → b ∉ S → H' b = some o) : Same (hid S H) (hid S H') := fun b o e => hid_at (hid_of e).1 (k _ _ (hid_of e).2 (hid_of e).1)
theorem hid_sub {S : List Addr} {H : Hp} : Same (hid S H) H := fun b o e => (hid_of e).2
theorem hid_but {p : Addr} {H H' : Hp} (b : But p H H') : Same (hid [p] H) (hid [p] H') := hid_same fun c o e n => b c o e fun z => n (by rw [z]; simp)
theorem but_free {o d : Addr} {u : HO} {H H' : Hp} (b : But o H H') (e : H' o = some u) (hd : H' d = none) : H d = none := by
  cases z : H d with
  | none => rfl
  | some w =>
    have nd : d ≠ o := fun y => by
      rw [y, e] at hd
      cases hd
    rw [b _ _ z nd] at hd
    cases hd
def ErrsB (g : Ads) (a : Addr) (o : Out) (H : Hp) (E : XK) : Prop := ∀ k v d, o = .err k v d → ∀ H' dd, But a H H' → H dd = none → H' dd = some (.xd [(k.f, v)]) → E (.ref (k.c g)) (some dd) H'
/-- whether a thing equals the empty tuple -/
def EqE (K : PySem.W.Frag) (H : Hp) (v : V) (b : Bool) : Prop := (∃ d, Dp K H v d ∧ SeqAt.shaped d = true ∧ PyData.eqv d (.tuple []) = b) ∨ ∃ (a : Addr) (kvs : List (Key × V)), v = .ref a ∧ H a = some (.dK kvs) ∧ b = false
mutual
theorem Dp_same {K : PySem.W.Frag} {H H' : Hp} (s : Same H H') : ∀ (d : PyData) (v : V), Dp K H v d → Dp K H' v d
  | .none, _, h => by cases h; exact .non
  | .bool b, _, h => by cases h; exact .bl _
  | .int i, _, h => by cases h; exact .int _
  | .str x, _, h => by cases h; exact .str _
  | .list ds, _, h => by
    cases h with
    | lst a b => exact .lst (s.seq a) (Dp_sames s ds _ b)
  | .tuple ds, _, h => by
    cases h with
    | tup a b => exact .tup (Z.Same.tup s a) (Dp_sames s ds _ b)
  | .dict _, _, h => by cases h
theorem Dp_sames {K : PySem.W.Frag} {H H' : Hp} (s : Same H H') : ∀ (ds : List PyData) (vs : List V), DpAll K H vs ds → DpAll K H' vs ds
  | [], _, h => by cases h; exact .nil
  | d :: ds, _, h => by
    cases h with
    | cons a b => exact .cons (Dp_same s d _ a) (Dp_sames s ds _ b)
end
theorem EqE.same {K : PySem.W.Frag} {H H' : Hp} {v : V} {b : Bool} (h : EqE K H v b) (s : Same H H') : EqE K H' v b := by
  rcases h with ⟨d, h1, h2, h3⟩ | ⟨a, kvs, h1, h2, h3⟩
  · exact .inl ⟨d, Dp_same s _ _ h1, h2, h3⟩
  · exact .inr ⟨a, kvs, h1, s _ _ h2, h3⟩
/-- v == () -/
theorem eqE_step {K : PySem.W.Frag} {H : Hp} {v : V} {b : Bool} {p : Addr} {Q : VK} (h : EqE K H v b) (e : H p = some (.tup [])) (q : Q (.bl b) H) : zEqI K v (.ref p) H Q := by
  rcases h with ⟨d, h1, h2, h3⟩ | ⟨a, kvs, rfl, h2, rfl⟩
  · refine .inr (.inr (.inr ⟨d, .tuple [], h1, .tup (SqT.of e) .nil, h2, rfl, ?_⟩))
    rw [h3]
    exact q
  · exact .inr (.inl ⟨a, p, kvs, [], rfl, rfl, h2, SqT.of e, q⟩)
def sp_Let_init (K : PySem.W.Frag) (g : Ads) : Sp := fun vs H Q E => ∃ (o dx : Addr) (x1 x2 : V) (d1 d2 : PyData), vs = [.ref o, x1, x2] ∧ H o = some (.ins g.c_Let dx []) ∧ Knd K (hid [o] H) x1 ∧ Knd K (hid [o] H) x2 ∧
  (chk [(true, x1, d1), (false, x2, d2)] = .ok → ∀ H', But o H H' → H' o = some (.ins g.c_Let dx [("into", x1), ("value", x2)]) → Q .non H') ∧ ErrsB g o (chk [(true, x1, d1), (false, x2, d2)]) H E
theorem sc_Let_init : FnScope ["self", "into", "value"] ["self", "into", "value"] (defScope s_Let_init) := ⟨rfl, rfl, rfl, by decide +kernel, rfl, by decide +kernel, by decide +kernel⟩
def R_Let_init_2 (K : PySem.W.Frag) (g : Ads) (E : XK) : TS :=
  (sFld K (zVar 0) (zCall (sp_check_operand K g) [] (WE (fun cls d _ H => E cls d H)) (tCons (zVar 2) tNil)) "value")
def R_Let_init (K : PySem.W.Frag) (g : Ads) (E : XK) : TS :=
  (tSeq (sFld K (zVar 0) (zCall (sp_check_name K g) [] (WE (fun cls d _ H => E cls d H)) (tCons (zVar 1) tNil)) "into")
  (R_Let_init_2 K g E))
def rw_Let_init (K : PySem.W.Frag) (g : Ads) : Sp := fun vs H Q E => vs.length = 3 ∧ R_Let_init K g E { nx := fun _ H' => Q .non H', rt := Q } (start ["self", "into", "value"] vs) H
theorem raw_Let_init {P : Program} {w : World} {K : PySem.W.Frag} {mg : Str → Option Value} {base : Heap} {g : Ads} (T : Txt K mg g) : FnG true P w K mg base 4 g.f_Let_init g.d_Let_init ["self", "into", "value"] (rw_Let_init K g) := by
  refine okZ T.f_Let_init sc_Let_init (fun vs H Q E h => h.1) (fun cdv A outer s H vs Q E hr hgu h => ⟨R_Let_init K g E, ?_, h.2⟩)
  exact (pss_cons (ps_fld (zv 0) (pe_callZ (ok_check_name T) (hr.mono (by decide)) (fun z => nomatch z) rfl T.g_check_name T.k_check_name T.e_check_name .nil (fun σ => passAt (takes_of rfl rfl rfl rfl) σ) (pa_cons (zv 1) pa_nil)) rfl)
  (pss_one (ps_fld (zv 0) (pe_callZ (ok_check_operand T) (hr.mono (by decide)) (fun z => nomatch z) rfl T.g_check_operand T.k_check_operand T.e_check_operand .nil (fun σ => passAt (takes_of rfl rfl rfl rfl) σ) (pa_cons (zv 2) pa_nil)) rfl)))
theorem pf_Let_init {K : PySem.W.Frag} {mg : Str → Option Value} {g : Ads} (T : Txt K mg g) (vs : List V) (H : Hp) (Q : VK) (E : XK) (h : sp_Let_init K g vs H Q E) : rw_Let_init K g vs H Q E := by
  obtain ⟨o, dx, x1, x2, d1, d2, rfl, ho, k1, k2, q1, q2⟩ := h
  refine ⟨rfl, ?_⟩
  have b0 : But o H H := fun _ _ e _ => e
  refine ⟨x1, rfl, (k1.same (hid_but b0)).same hid_sub, fun n1 Ha1 sa1 => ⟨o, _, dx, _, rfl, sa1 _ _ ho, T.cl_Let, T.na_Let_into, (by simp), ?_⟩, fun n1 Ha1 dd sa1 hd ex => q2 .nm _ d1 (by simp [chk, Out.and, n1]) Ha1 dd (b0.trans (But.same sa1)) (but_free b0 ho hd) ex⟩
  have b1 : But o H (upd Ha1 o (.ins g.c_Let dx [("into", x1)])) := (b0.trans (But.same sa1)).trans But.put
  have e1 : (upd Ha1 o (.ins g.c_Let dx [("into", x1)])) o = some (.ins g.c_Let dx [("into", x1)]) := upd_same
  show R_Let_init_2 K g E { nx := fun _ H' => Q .non H', rt := Q } [some (.ref o), some x1, some x2] (upd Ha1 o (.ins g.c_Let dx [("into", x1)]))
  generalize (upd Ha1 o (.ins g.c_Let dx [("into", x1)])) = H1 at b1 e1 ⊢
  refine ⟨x2, rfl, (k2.same (hid_but b1)).same hid_sub, fun n2 Ha2 sa2 => ⟨o, _, dx, _, rfl, sa2 _ _ e1, T.cl_Let, T.na_Let_value, (by simp), ?_⟩, fun n2 Ha2 dd sa2 hd ex => q2 .vl _ d2 (by simp [chk, Out.and, n1, n2]) Ha2 dd (b1.trans (But.same sa2)) (but_free b1 e1 hd) ex⟩
  exact q1 (by simp [chk, Out.and, n1, n2]) _ ((b1.trans (But.same sa2)).trans But.put) upd_same
theorem ok_Let_init {P : Program} {w : World} {K : PySem.W.Frag} {mg : Str → Option Value} {base : Heap} {g : Ads} (T : Txt K mg g) : FnZ P w K mg base 4 g.f_Let_init g.d_Let_init ["self", "into", "value"] (sp_Let_init K g) := (raw_Let_init T).imp (pf_Let_init T)
def sp_Put_init (K : PySem.W.Frag) (g : Ads) : Sp := fun vs H Q E => ∃ (o dx : Addr) (x1 x2 x3 : V) (d1 d2 : PyData), vs = [.ref o, x1, x2, x3] ∧ H o = some (.ins g.c_Put dx []) ∧ Knd K (hid [o] H) x1 ∧ Knd K (hid [o] H) x2 ∧
  (chk [(true, x1, d1), (false, x2, d2)] = .ok → ∀ H', But o H H' → H' o = some (.ins g.c_Put dx [("cell", x1), ("value", x2), ("typed", x3)]) → Q .non H') ∧ ErrsB g o (chk [(true, x1, d1), (false, x2, d2)]) H E
theorem sc_Put_init : FnScope ["self", "cell", "value", "typed"] ["self", "cell", "value", "typed"] (defScope s_Put_init) := ⟨rfl, rfl, rfl, by decide +kernel, rfl, by decide +kernel, by decide +kernel⟩
def R_Put_init_2 (K : PySem.W.Frag) (g : Ads) (E : XK) : TS :=
  (tSeq (sFld K (zVar 0) (zCall (sp_check_operand K g) [] (WE (fun cls d _ H => E cls d H)) (tCons (zVar 2) tNil)) "value")
  (sFld K (zVar 0) (zVar 3) "typed"))
def R_Put_init (K : PySem.W.Frag) (g : Ads) (E : XK) : TS :=
  (tSeq (sFld K (zVar 0) (zCall (sp_check_name K g) [] (WE (fun cls d _ H => E cls d H)) (tCons (zVar 1) tNil)) "cell")
  (R_Put_init_2 K g E))
def rw_Put_init (K : PySem.W.Frag) (g : Ads) : Sp := fun vs H Q E => vs.length = 4 ∧ R_Put_init K g E { nx := fun _ H' => Q .non H', rt := Q } (start ["self", "cell", "value", "typed"] vs) H
theorem raw_Put_init {P : Program} {w : World} {K : PySem.W.Frag} {mg : Str → Option Value} {base : Heap} {g : Ads} (T : Txt K mg g) : FnG true P w K mg base 4 g.f_Put_init g.d_Put_init ["self", "cell", "value", "typed"] (rw_Put_init K g) := by
  refine okZ T.f_Put_init sc_Put_init (fun vs H Q E h => h.1) (fun cdv A outer s H vs Q E hr hgu h => ⟨R_Put_init K g E, ?_, h.2⟩)
  exact (pss_cons (ps_fld (zv 0) (pe_callZ (ok_check_name T) (hr.mono (by decide)) (fun z => nomatch z) rfl T.g_check_name T.k_check_name T.e_check_name .nil (fun σ => passAt (takes_of rfl rfl rfl rfl) σ) (pa_cons (zv 1) pa_nil)) rfl)
  (pss_cons (ps_fld (zv 0) (pe_callZ (ok_check_operand T) (hr.mono (by decide)) (fun z => nomatch z) rfl T.g_check_operand T.k_check_operand T.e_check_operand .nil (fun σ => passAt (takes_of rfl rfl rfl rfl) σ) (pa_cons (zv 2) pa_nil)) rfl)
  (pss_one (ps_fld (zv 0) (zv 3) rfl))))
theorem pf_Put_init {K : PySem.W.Frag} {mg : Str → Option Value} {g : Ads} (T : Txt K mg g) (vs : List V) (H : Hp) (Q : VK) (E : XK) (h : sp_Put_init K g vs H Q E) : rw_Put_init K g vs H Q E := by
  obtain ⟨o, dx, x1, x2, x3, d1, d2, rfl, ho, k1, k2, q1, q2⟩ := h
  refine ⟨rfl, ?_⟩
  have b0 : But o H H := fun _ _ e _ => e
  refine ⟨x1, rfl, (k1.same (hid_but b0)).same hid_sub, fun n1 Ha1 sa1 => ⟨o, _, dx, _, rfl, sa1 _ _ ho, T.cl_Put, T.na_Put_cell, (by simp), ?_⟩, fun n1 Ha1 dd sa1 hd ex => q2 .nm _ d1 (by simp [chk, Out.and, n1]) Ha1 dd (b0.trans (But.same sa1)) (but_free b0 ho hd) ex⟩
  have b1 : But o H (upd Ha1 o (.ins g.c_Put dx [("cell", x1)])) := (b0.trans (But.same sa1)).trans But.put
  have e1 : (upd Ha1 o (.ins g.c_Put dx [("cell", x1)])) o = some (.ins g.c_Put dx [("cell", x1)]) := upd_same
  show R_Put_init_2 K g E { nx := fun _ H' => Q .non H', rt := Q } [some (.ref o), some x1, some x2, some x3] (upd Ha1 o (.ins g.c_Put dx [("cell", x1)]))
  generalize (upd Ha1 o (.ins g.c_Put dx [("cell", x1)])) = H1 at b1 e1 ⊢
  refine ⟨x2, rfl, (k2.same (hid_but b1)).same hid_sub, fun n2 Ha2 sa2 => ⟨o, _, dx, _, rfl, sa2 _ _ e1, T.cl_Put, T.na_Put_value, (by simp), ?_⟩, fun n2 Ha2 dd sa2 hd ex => q2 .vl _ d2 (by simp [chk, Out.and, n1, n2]) Ha2 dd (b1.trans (But.same sa2)) (but_free b1 e1 hd) ex⟩
  have b2 : But o H (upd Ha2 o (.ins g.c_Put dx [("cell", x1), ("value", x2)])) := (b1.trans (But.same sa2)).trans But.put
  have e2 : (upd Ha2 o (.ins g.c_Put dx [("cell", x1), ("value", x2)])) o = some (.ins g.c_Put dx [("cell", x1), ("value", x2)]) := upd_same
  show sFld K (zVar 0) (zVar 3) "typed" { nx := fun _ H' => Q .non H', rt := Q } [some (.ref o), some x1, some x2, some x3] (upd Ha2 o (.ins g.c_Put dx [("cell", x1), ("value", x2)]))
  generalize (upd Ha2 o (.ins g.c_Put dx [("cell", x1), ("value", x2)])) = H2 at b2 e2 ⊢
  exact ⟨o, _, dx, _, rfl, e2, T.cl_Put, T.na_Put_typed, (by simp), q1 (by simp [chk, Out.and, n1, n2]) _ (b2.trans But.put) upd_same⟩
theorem ok_Put_init {P : Program} {w : World} {K : PySem.W.Frag} {mg : Str → Option Value} {base : Heap} {g : Ads} (T : Txt K mg g) : FnZ P w K mg base 4 g.f_Put_init g.d_Put_init ["self", "cell", "value", "typed"] (sp_Put_init K g) := (raw_Put_init T).imp (pf_Put_init T)
def sp_Keep_init (K : PySem.W.Frag) (g : Ads) : Sp := fun vs H Q E => ∃ (o dx : Addr) (x1 x2 x3 : V) (d1 d2 : PyData), vs = [.ref o, x1, x2, x3] ∧ H o = some (.ins g.c_Keep dx []) ∧ Knd K (hid [o] H) x1 ∧ Knd K (hid [o] H) x2 ∧
  (chk [(true, x1, d1), (false, x2, d2)] = .ok → ∀ H', But o H H' → H' o = some (.ins g.c_Keep dx [("slot", x1), ("value", x2), ("late", x3)]) → Q .non H') ∧ ErrsB g o (chk [(true, x1, d1), (false, x2, d2)]) H E
theorem sc_Keep_init : FnScope ["self", "slot", "value", "late"] ["self", "slot", "value", "late"] (defScope s_Keep_init) := ⟨rfl, rfl, rfl, by decide +kernel, rfl, by decide +kernel, by decide +kernel⟩
def R_Keep_init_2 (K : PySem.W.Frag) (g : Ads) (E : XK) : TS :=
  (tSeq (sFld K (zVar 0) (zCall (sp_check_operand K g) [] (WE (fun cls d _ H => E cls d H)) (tCons (zVar 2) tNil)) "value")
  (sFld K (zVar 0) (zVar 3) "late"))
def R_Keep_init (K : PySem.W.Frag) (g : Ads) (E : XK) : TS :=
  (tSeq (sFld K (zVar 0) (zCall (sp_check_name K g) [] (WE (fun cls d _ H => E cls d H)) (tCons (zVar 1) tNil)) "slot")
  (R_Keep_init_2 K g E))
def rw_Keep_init (K : PySem.W.Frag) (g : Ads) : Sp := fun vs H Q E => vs.length = 4 ∧ R_Keep_init K g E { nx := fun _ H' => Q .non H', rt := Q } (start ["self", "slot", "value", "late"] vs) H
theorem raw_Keep_init {P : Program} {w : World} {K : PySem.W.Frag} {mg : Str → Option Value} {base : Heap} {g : Ads} (T : Txt K mg g) : FnG true P w K mg base 4 g.f_Keep_init g.d_Keep_init ["self", "slot", "value", "late"] (rw_Keep_init K g) := by
  refine okZ T.f_Keep_init sc_Keep_init (fun vs H Q E h => h.1) (fun cdv A outer s H vs Q E hr hgu h => ⟨R_Keep_init K g E, ?_, h.2⟩)
  exact (pss_cons (ps_fld (zv 0) (pe_callZ (ok_check_name T) (hr.mono (by decide)) (fun z => nomatch z) rfl T.g_check_name T.k_check_name T.e_check_name .nil (fun σ => passAt (takes_of rfl rfl rfl rfl) σ) (pa_cons (zv 1) pa_nil)) rfl)
  (pss_cons (ps_fld (zv 0) (pe_callZ (ok_check_operand T) (hr.mono (by decide)) (fun z => nomatch z) rfl T.g_check_operand T.k_check_operand T.e_check_operand .nil (fun σ => passAt (takes_of rfl rfl rfl rfl) σ) (pa_cons (zv 2) pa_nil)) rfl)
  (pss_one (ps_fld (zv 0) (zv 3) rfl))))
theorem pf_Keep_init {K : PySem.W.Frag} {mg : Str → Option Value} {g : Ads} (T : Txt K mg g) (vs : List V) (H : Hp) (Q : VK) (E : XK) (h : sp_Keep_init K g vs H Q E) : rw_Keep_init K g vs H Q E := by
  obtain ⟨o, dx, x1, x2, x3, d1, d2, rfl, ho, k1, k2, q1, q2⟩ := h
  refine ⟨rfl, ?_⟩
  have b0 : But o H H := fun _ _ e _ => e
  refine ⟨x1, rfl, (k1.same (hid_but b0)).same hid_sub, fun n1 Ha1 sa1 => ⟨o, _, dx, _, rfl, sa1 _ _ ho, T.cl_Keep, T.na_Keep_slot, (by simp), ?_⟩, fun n1 Ha1 dd sa1 hd ex => q2 .nm _ d1 (by simp [chk, Out.and, n1]) Ha1 dd (b0.trans (But.same sa1)) (but_free b0 ho hd) ex⟩
  have b1 : But o H (upd Ha1 o (.ins g.c_Keep dx [("slot", x1)])) := (b0.trans (But.same sa1)).trans But.put
  have e1 : (upd Ha1 o (.ins g.c_Keep dx [("slot", x1)])) o = some (.ins g.c_Keep dx [("slot", x1)]) := upd_same
  show R_Keep_init_2 K g E { nx := fun _ H' => Q .non H', rt := Q } [some (.ref o), some x1, some x2, some x3] (upd Ha1 o (.ins g.c_Keep dx [("slot", x1)]))
  generalize (upd Ha1 o (.ins g.c_Keep dx [("slot", x1)])) = H1 at b1 e1 ⊢
  refine ⟨x2, rfl, (k2.same (hid_but b1)).same hid_sub, fun n2 Ha2 sa2 => ⟨o, _, dx, _, rfl, sa2 _ _ e1, T.cl_Keep, T.na_Keep_value, (by simp), ?_⟩, fun n2 Ha2 dd sa2 hd ex => q2 .vl _ d2 (by simp [chk, Out.and, n1, n2]) Ha2 dd (b1.trans (But.same sa2)) (but_free b1 e1 hd) ex⟩
  have b2 : But o H (upd Ha2 o (.ins g.c_Keep dx [("slot", x1), ("value", x2)])) := (b1.trans (But.same sa2)).trans But.put
  have e2 : (upd Ha2 o (.ins g.c_Keep dx [("slot", x1), ("value", x2)])) o = some (.ins g.c_Keep dx [("slot", x1), ("value", x2)]) := upd_same
  show sFld K (zVar 0) (zVar 3) "late" { nx := fun _ H' => Q .non H', rt := Q } [some (.ref o), some x1, some x2, some x3] (upd Ha2 o (.ins g.c_Keep dx [("slot", x1), ("value", x2)]))
  generalize (upd Ha2 o (.ins g.c_Keep dx [("slot", x1), ("value", x2)])) = H2 at b2 e2 ⊢
  exact ⟨o, _, dx, _, rfl, e2, T.cl_Keep, T.na_Keep_late, (by simp), q1 (by simp [chk, Out.and, n1, n2]) _ (b2.trans But.put) upd_same⟩
theorem ok_Keep_init {P : Program} {w : World} {K : PySem.W.Frag} {mg : Str → Option Value} {base : Heap} {g : Ads} (T : Txt K mg g) : FnZ P w K mg base 4 g.f_Keep_init g.d_Keep_init ["self", "slot", "value", "late"] (sp_Keep_init K g) := (raw_Keep_init T).imp (pf_Keep_init T)
def sp_Show_init (K : PySem.W.Frag) (g : Ads) : Sp := fun vs H Q E => ∃ (o dx : Addr) (x1 x2 x3 : V) (d1 d2 : PyData), vs = [.ref o, x1, x2, x3] ∧ H o = some (.ins g.c_Show dx []) ∧ Knd K (hid [o] H) x1 ∧ Knd K (hid [o] H) x2 ∧
  (chk [(true, x1, d1), (false, x2, d2)] = .ok → ∀ H', But o H H' → H' o = some (.ins g.c_Show dx [("field", x1), ("value", x2), ("guess", x3)]) → Q .non H') ∧ ErrsB g o (chk [(true, x1, d1), (false, x2, d2)]) H E
theorem sc_Show_init : FnScope ["self", "field", "value", "guess"] ["self", "field", "value", "guess"] (defScope s_Show_init) := ⟨rfl, rfl, rfl, by decide +kernel, rfl, by decide +kernel, by decide +kernel⟩
def R_Show_init_2 (K : PySem.W.Frag) (g : Ads) (E : XK) : TS :=
  (tSeq (sFld K (zVar 0) (zCall (sp_check_operand K g) [] (WE (fun cls d _ H => E cls d H)) (tCons (zVar 2) tNil)) "value")
  (sFld K (zVar 0) (zVar 3) "guess"))
def R_Show_init (K : PySem.W.Frag) (g : Ads) (E : XK) : TS :=
  (tSeq (sFld K (zVar 0) (zCall (sp_check_name K g) [] (WE (fun cls d _ H => E cls d H)) (tCons (zVar 1) tNil)) "field")
  (R_Show_init_2 K g E))
def rw_Show_init (K : PySem.W.Frag) (g : Ads) : Sp := fun vs H Q E => vs.length = 4 ∧ R_Show_init K g E { nx := fun _ H' => Q .non H', rt := Q } (start ["self", "field", "value", "guess"] vs) H
theorem raw_Show_init {P : Program} {w : World} {K : PySem.W.Frag} {mg : Str → Option Value} {base : Heap} {g : Ads} (T : Txt K mg g) : FnG true P w K mg base 4 g.f_Show_init g.d_Show_init ["self", "field", "value", "guess"] (rw_Show_init K g) := by
  refine okZ T.f_Show_init sc_Show_init (fun vs H Q E h => h.1) (fun cdv A outer s H vs Q E hr hgu h => ⟨R_Show_init K g E, ?_, h.2⟩)
  exact (pss_cons (ps_fld (zv 0) (pe_callZ (ok_check_name T) (hr.mono (by decide)) (fun z => nomatch z) rfl T.g_check_name T.k_check_name T.e_check_name .nil (fun σ => passAt (takes_of rfl rfl rfl rfl) σ) (pa_cons (zv 1) pa_nil)) rfl)
  (pss_cons (ps_fld (zv 0) (pe_callZ (ok_check_operand T) (hr.mono (by decide)) (fun z => nomatch z) rfl T.g_check_operand T.k_check_operand T.e_check_operand .nil (fun σ => passAt (takes_of rfl rfl rfl rfl) σ) (pa_cons (zv 2) pa_nil)) rfl)
  (pss_one (ps_fld (zv 0) (zv 3) rfl))))
theorem pf_Show_init {K : PySem.W.Frag} {mg : Str → Option Value} {g : Ads} (T : Txt K mg g) (vs : List V) (H : Hp) (Q : VK) (E : XK) (h : sp_Show_init K g vs H Q E) : rw_Show_init K g vs H Q E := by
  obtain ⟨o, dx, x1, x2, x3, d1, d2, rfl, ho, k1, k2, q1, q2⟩ := h
  refine ⟨rfl, ?_⟩
  have b0 : But o H H := fun _ _ e _ => e
  refine ⟨x1, rfl, (k1.same (hid_but b0)).same hid_sub, fun n1 Ha1 sa1 => ⟨o, _, dx, _, rfl, sa1 _ _ ho, T.cl_Show, T.na_Show_field, (by simp), ?_⟩, fun n1 Ha1 dd sa1 hd ex => q2 .nm _ d1 (by simp [chk, Out.and, n1]) Ha1 dd (b0.trans (But.same sa1)) (but_free b0 ho hd) ex⟩
  have b1 : But o H (upd Ha1 o (.ins g.c_Show dx [("field", x1)])) := (b0.trans (But.same sa1)).trans But.put
  have e1 : (upd Ha1 o (.ins g.c_Show dx [("field", x1)])) o = some (.ins g.c_Show dx [("field", x1)]) := upd_same
  show R_Show_init_2 K g E { nx := fun _ H' => Q .non H', rt := Q } [some (.ref o), some x1, some x2, some x3] (upd Ha1 o (.ins g.c_Show dx [("field", x1)]))
  generalize (upd Ha1 o (.ins g.c_Show dx [("field", x1)])) = H1 at b1 e1 ⊢
  refine ⟨x2, rfl, (k2.same (hid_but b1)).same hid_sub, fun n2 Ha2 sa2 => ⟨o, _, dx, _, rfl, sa2 _ _ e1, T.cl_Show, T.na_Show_value, (by simp), ?_⟩, fun n2 Ha2 dd sa2 hd ex => q2 .vl _ d2 (by simp [chk, Out.and, n1, n2]) Ha2 dd (b1.trans (But.same sa2)) (but_free b1 e1 hd) ex⟩
  have b2 : But o H (upd Ha2 o (.ins g.c_Show dx [("field", x1), ("value", x2)])) := (b1.trans (But.same sa2)).trans But.put
  have e2 : (upd Ha2 o (.ins g.c_Show dx [("field", x1), ("value", x2)])) o = some (.ins g.c_Show dx [("field", x1), ("value", x2)]) := upd_same
  show sFld K (zVar 0) (zVar 3) "guess" { nx := fun _ H' => Q .non H', rt := Q } [some (.ref o), some x1, some x2, some x3] (upd Ha2 o (.ins g.c_Show dx [("field", x1), ("value", x2)]))
  generalize (upd Ha2 o (.ins g.c_Show dx [("field", x1), ("value", x2)])) = H2 at b2 e2 ⊢
  exact ⟨o, _, dx, _, rfl, e2, T.cl_Show, T.na_Show_guess, (by simp), q1 (by simp [chk, Out.and, n1, n2]) _ (b2.trans But.put) upd_same⟩
theorem ok_Show_init {P : Program} {w : World} {K : PySem.W.Frag} {mg : Str → Option Value} {base : Heap} {g : Ads} (T : Txt K mg g) : FnZ P w K mg base 4 g.f_Show_init g.d_Show_init ["self", "field", "value", "guess"] (sp_Show_init K g) := (raw_Show_init T).imp (pf_Show_init T)
def sp_Has_init (K : PySem.W.Frag) (g : Ads) : Sp := fun vs H Q E => ∃ (o dx : Addr) (x1 : V) (d1 : PyData), vs = [.ref o, x1] ∧ H o = some (.ins g.c_Has dx []) ∧ Knd K (hid [o] H) x1 ∧
  (chk [(false, x1, d1)] = .ok → ∀ H', But o H H' → H' o = some (.ins g.c_Has dx [("value", x1)]) → Q .non H') ∧ ErrsB g o (chk [(false, x1, d1)]) H E
theorem sc_Has_init : FnScope ["self", "value"] ["self", "value"] (defScope s_Has_init) := ⟨rfl, rfl, rfl, by decide +kernel, rfl, by decide +kernel, by decide +kernel⟩
def R_Has_init (K : PySem.W.Frag) (g : Ads) (E : XK) : TS :=
  (sFld K (zVar 0) (zCall (sp_check_operand K g) [] (WE (fun cls d _ H => E cls d H)) (tCons (zVar 1) tNil)) "value")
def rw_Has_init (K : PySem.W.Frag) (g : Ads) : Sp := fun vs H Q E => vs.length = 2 ∧ R_Has_init K g E { nx := fun _ H' => Q .non H', rt := Q } (start ["self", "value"] vs) H
theorem raw_Has_init {P : Program} {w : World} {K : PySem.W.Frag} {mg : Str → Option Value} {base : Heap} {g : Ads} (T : Txt K mg g) : FnG true P w K mg base 4 g.f_Has_init g.d_Has_init ["self", "value"] (rw_Has_init K g) := by
  refine okZ T.f_Has_init sc_Has_init (fun vs H Q E h => h.1) (fun cdv A outer s H vs Q E hr hgu h => ⟨R_Has_init K g E, ?_, h.2⟩)
  exact (pss_one (ps_fld (zv 0) (pe_callZ (ok_check_operand T) (hr.mono (by decide)) (fun z => nomatch z) rfl T.g_check_operand T.k_check_operand T.e_check_operand .nil (fun σ => passAt (takes_of rfl rfl rfl rfl) σ) (pa_cons (zv 1) pa_nil)) rfl))
theorem pf_Has_init {K : PySem.W.Frag} {mg : Str → Option Value} {g : Ads} (T : Txt K mg g) (vs : List V) (H : Hp) (Q : VK) (E : XK) (h : sp_Has_init K g vs H Q E) : rw_Has_init K g vs H Q E := by
  obtain ⟨o, dx, x1, d1, rfl, ho, k1, q1, q2⟩ := h
  refine ⟨rfl, ?_⟩
  have b0 : But o H H := fun _ _ e _ => e
  refine ⟨x1, rfl, (k1.same (hid_but b0)).same hid_sub, fun n1 Ha1 sa1 => ⟨o, _, dx, _, rfl, sa1 _ _ ho, T.cl_Has, T.na_Has_value, (by simp), ?_⟩, fun n1 Ha1 dd sa1 hd ex => q2 .vl _ d1 (by simp [chk, Out.and, n1]) Ha1 dd (b0.trans (But.same sa1)) (but_free b0 ho hd) ex⟩
  exact q1 (by simp [chk, Out.and, n1]) _ ((b0.trans (But.same sa1)).trans But.put) upd_same
theorem ok_Has_init {P : Program} {w : World} {K : PySem.W.Frag} {mg : Str → Option Value} {base : Heap} {g : Ads} (T : Txt K mg g) : FnZ P w K mg base 4 g.f_Has_init g.d_Has_init ["self", "value"] (sp_Has_init K g) := (raw_Has_init T).imp (pf_Has_init T)
def sp_Typed_init (K : PySem.W.Frag) (g : Ads) : Sp := fun vs H Q E => ∃ (o dx : Addr) (x1 : V) (d1 : PyData), vs = [.ref o, x1] ∧ H o = some (.ins g.c_Typed dx []) ∧ Knd K (hid [o] H) x1 ∧
  (chk [(true, x1, d1)] = .ok → ∀ H', But o H H' → H' o = some (.ins g.c_Typed dx [("parameter", x1)]) → Q .non H') ∧ ErrsB g o (chk [(true, x1, d1)]) H E
theorem sc_Typed_init : FnScope ["self", "parameter"] ["self", "parameter"] (defScope s_Typed_init) := ⟨rfl, rfl, rfl, by decide +kernel, rfl, by decide +kernel, by decide +kernel⟩
def R_Typed_init (K : PySem.W.Frag) (g : Ads) (E : XK) : TS :=
  (sFld K (zVar 0) (zCall (sp_check_name K g) [] (WE (fun cls d _ H => E cls d H)) (tCons (zVar 1) tNil)) "parameter")
def rw_Typed_init (K : PySem.W.Frag) (g : Ads) : Sp := fun vs H Q E => vs.length = 2 ∧ R_Typed_init K g E { nx := fun _ H' => Q .non H', rt := Q } (start ["self", "parameter"] vs) H
theorem raw_Typed_init {P : Program} {w : World} {K : PySem.W.Frag} {mg : Str → Option Value} {base : Heap} {g : Ads} (T : Txt K mg g) : FnG true P w K mg base 4 g.f_Typed_init g.d_Typed_init ["self", "parameter"] (rw_Typed_init K g) := by
  refine okZ T.f_Typed_init sc_Typed_init (fun vs H Q E h => h.1) (fun cdv A outer s H vs Q E hr hgu h => ⟨R_Typed_init K g E, ?_, h.2⟩)
  exact (pss_one (ps_fld (zv 0) (pe_callZ (ok_check_name T) (hr.mono (by decide)) (fun z => nomatch z) rfl T.g_check_name T.k_check_name T.e_check_name .nil (fun σ => passAt (takes_of rfl rfl rfl rfl) σ) (pa_cons (zv 1) pa_nil)) rfl))
theorem pf_Typed_init {K : PySem.W.Frag} {mg : Str → Option Value} {g : Ads} (T : Txt K mg g) (vs : List V) (H : Hp) (Q : VK) (E : XK) (h : sp_Typed_init K g vs H Q E) : rw_Typed_init K g vs H Q E := by
  obtain ⟨o, dx, x1, d1, rfl, ho, k1, q1, q2⟩ := h
  refine ⟨rfl, ?_⟩
  have b0 : But o H H := fun _ _ e _ => e
  refine ⟨x1, rfl, (k1.same (hid_but b0)).same hid_sub, fun n1 Ha1 sa1 => ⟨o, _, dx, _, rfl, sa1 _ _ ho, T.cl_Typed, T.na_Typed_parameter, (by simp), ?_⟩, fun n1 Ha1 dd sa1 hd ex => q2 .nm _ d1 (by simp [chk, Out.and, n1]) Ha1 dd (b0.trans (But.same sa1)) (but_free b0 ho hd) ex⟩
  exact q1 (by simp [chk, Out.and, n1]) _ ((b0.trans (But.same sa1)).trans But.put) upd_same
theorem ok_Typed_init {P : Program} {w : World} {K : PySem.W.Frag} {mg : Str → Option Value} {base : Heap} {g : Ads} (T : Txt K mg g) : FnZ P w K mg base 4 g.f_Typed_init g.d_Typed_init ["self", "parameter"] (sp_Typed_init K g) := (raw_Typed_init T).imp (pf_Typed_init T)
def sp_Read_init (K : PySem.W.Frag) (g : Ads) : Sp := fun vs H Q E => ∃ (o dx : Addr) (x1 x2 x3 : V) (d1 d2 d3 : PyData) (b : Bool), vs = [.ref o, x1, x2, x3] ∧ H o = some (.ins g.c_Read dx []) ∧ Knd K (hid [o] H) x1 ∧ Knd K (hid [o] H) x2 ∧ Knd K (hid [o] H) x3 ∧ EqE K (hid [o] H) x3 b ∧
  ((chk [(true, x1, d1), (true, x2, d2)]).and (if b = true then .ok else chk [(false, x3, d3)]) = .ok → ∀ H' v, But o H H' → (b = true → ∃ p, v = .ref p ∧ H' p = some (.tup [])) → H' o = some (.ins g.c_Read dx [("into", x1), ("target", x2), ("default", v)]) → Q .non H') ∧ ErrsB g o ((chk [(true, x1, d1), (true, x2, d2)]).and (if b = true then .ok else chk [(false, x3, d3)])) H E
theorem sc_Read_init : FnScope ["self", "into", "target", "default"] ["self", "into", "target", "default"] (defScope s_Read_init) := ⟨rfl, rfl, rfl, by decide +kernel, rfl, by decide +kernel, by decide +kernel⟩
def R_Read_init_3 (K : PySem.W.Frag) (g : Ads) (E : XK) : TS :=
  (sFld K (zVar 0) (tIf (zTest (tOp (zEqI K) (zVar 3) (tTup tNil))) (tTup tNil) (zCall (sp_check_operand K g) [] (WE (fun cls d _ H => E cls d H)) (tCons (zVar 3) tNil))) "default")
def R_Read_init_2 (K : PySem.W.Frag) (g : Ads) (E : XK) : TS :=
  (tSeq (sFld K (zVar 0) (zCall (sp_check_name K g) [] (WE (fun cls d _ H => E cls d H)) (tCons (zVar 2) tNil)) "target")
  (R_Read_init_3 K g E))
def R_Read_init (K : PySem.W.Frag) (g : Ads) (E : XK) : TS :=
  (tSeq (sFld K (zVar 0) (zCall (sp_check_name K g) [] (WE (fun cls d _ H => E cls d H)) (tCons (zVar 1) tNil)) "into")
  (R_Read_init_2 K g E))
def rw_Read_init (K : PySem.W.Frag) (g : Ads) : Sp := fun vs H Q E => vs.length = 4 ∧ R_Read_init K g E { nx := fun _ H' => Q .non H', rt := Q } (start ["self", "into", "target", "default"] vs) H
theorem raw_Read_init {P : Program} {w : World} {K : PySem.W.Frag} {mg : Str → Option Value} {base : Heap} {g : Ads} (T : Txt K mg g) : FnG true P w K mg base 4 g.f_Read_init g.d_Read_init ["self", "into", "target", "default"] (rw_Read_init K g) := by
  refine okZ T.f_Read_init sc_Read_init (fun vs H Q E h => h.1) (fun cdv A outer s H vs Q E hr hgu h => ⟨R_Read_init K g E, ?_, h.2⟩)
  exact (pss_cons (ps_fld (zv 0) (pe_callZ (ok_check_name T) (hr.mono (by decide)) (fun z => nomatch z) rfl T.g_check_name T.k_check_name T.e_check_name .nil (fun σ => passAt (takes_of rfl rfl rfl rfl) σ) (pa_cons (zv 1) pa_nil)) rfl)
  (pss_cons (ps_fld (zv 0) (pe_callZ (ok_check_name T) (hr.mono (by decide)) (fun z => nomatch z) rfl T.g_check_name T.k_check_name T.e_check_name .nil (fun σ => passAt (takes_of rfl rfl rfl rfl) σ) (pa_cons (zv 2) pa_nil)) rfl)
  (pss_one (ps_fld (zv 0) (pe_ifExp (ptz_cmp (op_zEqI hr.units) (zv 3) (pe_tup pa_nil) (nomark _)) (pe_tup pa_nil) (pe_callZ (ok_check_operand T) (hr.mono (by decide)) (fun z => nomatch z) rfl T.g_check_operand T.k_check_operand T.e_check_operand .nil (fun σ => passAt (takes_of rfl rfl rfl rfl) σ) (pa_cons (zv 3) pa_nil))) rfl))))
theorem pf_Read_init {K : PySem.W.Frag} {mg : Str → Option Value} {g : Ads} (T : Txt K mg g) (vs : List V) (H : Hp) (Q : VK) (E : XK) (h : sp_Read_init K g vs H Q E) : rw_Read_init K g vs H Q E := by
  obtain ⟨o, dx, x1, x2, x3, d1, d2, d3, b, rfl, ho, k1, k2, k3, ke, q1, q2⟩ := h
  refine ⟨rfl, ?_⟩
  have b0 : But o H H := fun _ _ e _ => e
  refine ⟨x1, rfl, (k1.same (hid_but b0)).same hid_sub, fun n1 Ha1 sa1 => ⟨o, _, dx, _, rfl, sa1 _ _ ho, T.cl_Read, T.na_Read_into, (by simp), ?_⟩, fun n1 Ha1 dd sa1 hd ex => q2 .nm _ d1 (by simp [chk, Out.and, n1]) Ha1 dd (b0.trans (But.same sa1)) (but_free b0 ho hd) ex⟩
  have b1 : But o H (upd Ha1 o (.ins g.c_Read dx [("into", x1)])) := (b0.trans (But.same sa1)).trans But.put
  have e1 : (upd Ha1 o (.ins g.c_Read dx [("into", x1)])) o = some (.ins g.c_Read dx [("into", x1)]) := upd_same
  show R_Read_init_2 K g E { nx := fun _ H' => Q .non H', rt := Q } [some (.ref o), some x1, some x2, some x3] (upd Ha1 o (.ins g.c_Read dx [("into", x1)]))
  generalize (upd Ha1 o (.ins g.c_Read dx [("into", x1)])) = H1 at b1 e1 ⊢
  refine ⟨x2, rfl, (k2.same (hid_but b1)).same hid_sub, fun n2 Ha2 sa2 => ⟨o, _, dx, _, rfl, sa2 _ _ e1, T.cl_Read, T.na_Read_target, (by simp), ?_⟩, fun n2 Ha2 dd sa2 hd ex => q2 .nm _ d2 (by simp [chk, Out.and, n1, n2]) Ha2 dd (b1.trans (But.same sa2)) (but_free b1 e1 hd) ex⟩
  have b2 : But o H (upd Ha2 o (.ins g.c_Read dx [("into", x1), ("target", x2)])) := (b1.trans (But.same sa2)).trans But.put
  have e2 : (upd Ha2 o (.ins g.c_Read dx [("into", x1), ("target", x2)])) o = some (.ins g.c_Read dx [("into", x1), ("target", x2)]) := upd_same
  show R_Read_init_3 K g E { nx := fun _ H' => Q .non H', rt := Q } [some (.ref o), some x1, some x2, some x3] (upd Ha2 o (.ins g.c_Read dx [("into", x1), ("target", x2)]))
  generalize (upd Ha2 o (.ins g.c_Read dx [("into", x1), ("target", x2)])) = H2 at b2 e2 ⊢
  have ke2 := ke.same (hid_but b2)
  refine ⟨show 0 ≤ sizeLine by decide, fun p hp => ?_⟩
  have sp := Same.put (o := .tup []) hp
  refine eqE_step ((ke2.same hid_sub).same sp) upd_same (zite (fun hb => ?_) (fun hb => ?_))
  · refine ⟨show 0 ≤ sizeLine by decide, fun p2 hp2 => ?_⟩
    have sp2 := Same.put (o := .tup []) hp2
    have e3 := (sp.trans sp2) _ _ e2
    have np2 : o ≠ p2 := ne_of_none (sp _ _ e2) hp2
    refine ⟨o, _, dx, _, rfl, e3, T.cl_Read, T.na_Read_default, (by simp), q1 (by simp [chk, Out.and, n1, n2, hb]) _ _ ((b2.trans (But.same (sp.trans sp2))).trans But.put) (fun _ => ⟨p2, rfl, by rw [upd_ne np2.symm, upd_same]⟩) upd_same⟩
  · refine ⟨x3, rfl, ((k3.same (hid_but b2)).same hid_sub).same sp, fun n3 Ha3 sa3 => ⟨o, _, dx, _, rfl, (sp.trans sa3) _ _ e2, T.cl_Read, T.na_Read_default, (by simp), q1 (by simp [chk, Out.and, n1, n2, hb, n3]) _ _ ((b2.trans (But.same (sp.trans sa3))).trans But.put) (fun z => by rw [hb] at z; cases z) upd_same⟩,
      fun n3 Ha3 dd sa3 hd ex => q2 .vl _ d3 (by simp [chk, Out.and, n1, n2, hb, n3]) Ha3 dd (b2.trans (But.same (sp.trans sa3))) (but_free b2 e2 (sp.free hd)) ex⟩
theorem ok_Read_init {P : Program} {w : World} {K : PySem.W.Frag} {mg : Str → Option Value} {base : Heap} {g : Ads} (T : Txt K mg g) : FnZ P w K mg base 4 g.f_Read_init g.d_Read_init ["self", "into", "target", "default"] (sp_Read_init K g) := (raw_Read_init T).imp (pf_Read_init T)
def sp_Work_initB (K : PySem.W.Frag) (g : Ads) : Sp := fun vs H Q E => ∃ (o dx : Addr) (x1 x2 x3 : V) (d1 d2 : PyData) (t : Addr) (cs : List (V × PyData)), vs = [.ref o, x1, x2, x3] ∧ H o = some (.ins g.c_Work dx []) ∧ Knd K (hid [o] H) x1 ∧ Knd K (hid [o] H) x2 ∧ x3 = .ref t ∧ SqT K (hid [o] H) t (cs.map (·.1)) ∧ (∀ c ∈ cs, Knd K (hid [o] H) c.1) ∧ cs.length ≤ 1000 ∧
  ((chk [(true, x1, d1), (true, x2, d2)]).and (chkOps cs) = .ok → ∀ H', But o H H' → H' o = some (.ins g.c_Work dx [("into", x1), ("function", x2), ("operands", x3)]) → Q .non H') ∧ ErrsB g o ((chk [(true, x1, d1), (true, x2, d2)]).and (chkOps cs)) H E
def sp_Work_init (K : PySem.W.Frag) (g : Ads) : Sp := spStar 3 (sp_Work_initB K g)
theorem sc_Work_init : FnScope ["self", "into", "function", "operands"] ["self", "into", "function", "operands"] (defScope s_Work_init) := ⟨rfl, rfl, rfl, by decide +kernel, rfl, by decide +kernel, by decide +kernel⟩
def R_Work_init_3 (K : PySem.W.Frag) (g : Ads) (E : XK) : TS :=
  (sFld K (zVar 0) (zCall (sp_check_operands K g) [] (WE (fun cls d _ H => E cls d H)) (tCons (zVar 3) tNil)) "operands")
def R_Work_init_2 (K : PySem.W.Frag) (g : Ads) (E : XK) : TS :=
  (tSeq (sFld K (zVar 0) (zCall (sp_check_name K g) [] (WE (fun cls d _ H => E cls d H)) (tCons (zVar 2) tNil)) "function")
  (R_Work_init_3 K g E))
def R_Work_init (K : PySem.W.Frag) (g : Ads) (E : XK) : TS :=
  (tSeq (sFld K (zVar 0) (zCall (sp_check_name K g) [] (WE (fun cls d _ H => E cls d H)) (tCons (zVar 1) tNil)) "into")
  (R_Work_init_2 K g E))
def rw_Work_init (K : PySem.W.Frag) (g : Ads) : Sp := fun vs H Q E => vs.length = 4 ∧ R_Work_init K g E { nx := fun _ H' => Q .non H', rt := Q } (start ["self", "into", "function", "operands"] vs) H
theorem raw_Work_init {P : Program} {w : World} {K : PySem.W.Frag} {mg : Str → Option Value} {base : Heap} {g : Ads} (T : Txt K mg g) : FnR P w K mg base (L2.CX P w) 5 g.f_Work_init (spStar 3 (rw_Work_init K g)) := by
  refine okStar (ps := ["self", "into", "function"]) (pv := "operands") T.f_Work_init sc_Work_init (fun kV doc pm an cdv ct => bind_star3 (B := fun l => bindArgs (PySem.W.fnOf "__init__" "Work.__init__" (defArgs s_Work_init) (defBody s_Work_init) (defScope s_Work_init) .none kV doc pm an cdv ct) ⟨l, []⟩) (fun _ _ _ => rfl) (fun _ _ _ _ _ => rfl)) (fun cdv A outer s H vs Q E hr h => ⟨R_Work_init K g E, ?_, h.2⟩)
  exact (pss_cons (ps_fld (zv 0) (pe_callZ (ok_check_name T) (hr.mono (by decide)) (fun z => nomatch z) rfl T.g_check_name T.k_check_name T.e_check_name .nil (fun σ => passAt (takes_of rfl rfl rfl rfl) σ) (pa_cons (zv 1) pa_nil)) rfl)
  (pss_cons (ps_fld (zv 0) (pe_callZ (ok_check_name T) (hr.mono (by decide)) (fun z => nomatch z) rfl T.g_check_name T.k_check_name T.e_check_name .nil (fun σ => passAt (takes_of rfl rfl rfl rfl) σ) (pa_cons (zv 2) pa_nil)) rfl)
  (pss_one (ps_fld (zv 0) (pe_callZ (ok_check_operands T) (hr.mono (by decide)) (fun z => nomatch z) rfl T.g_check_operands T.k_check_operands T.e_check_operands .nil (fun σ => passAt (takes_of rfl rfl rfl rfl) σ) (pa_cons (zv 3) pa_nil)) rfl))))
theorem pf_Work_init {K : PySem.W.Frag} {mg : Str → Option Value} {g : Ads} (T : Txt K mg g) (vs : List V) (H : Hp) (Q : VK) (E : XK) (h : sp_Work_initB K g vs H Q E) : rw_Work_init K g vs H Q E := by
  obtain ⟨o, dx, x1, x2, x3, d1, d2, t, cs, rfl, ho, k1, k2, rfl, kt, kc, kl, q1, q2⟩ := h
  refine ⟨rfl, ?_⟩
  have b0 : But o H H := fun _ _ e _ => e
  refine ⟨x1, rfl, (k1.same (hid_but b0)).same hid_sub, fun n1 Ha1 sa1 => ⟨o, _, dx, _, rfl, sa1 _ _ ho, T.cl_Work, T.na_Work_into, (by simp), ?_⟩, fun n1 Ha1 dd sa1 hd ex => q2 .nm _ d1 (by simp [chk, Out.and, n1]) Ha1 dd (b0.trans (But.same sa1)) (but_free b0 ho hd) ex⟩
  have b1 : But o H (upd Ha1 o (.ins g.c_Work dx [("into", x1)])) := (b0.trans (But.same sa1)).trans But.put
  have e1 : (upd Ha1 o (.ins g.c_Work dx [("into", x1)])) o = some (.ins g.c_Work dx [("into", x1)]) := upd_same
  show R_Work_init_2 K g E { nx := fun _ H' => Q .non H', rt := Q } [some (.ref o), some x1, some x2, some (.ref t)] (upd Ha1 o (.ins g.c_Work dx [("into", x1)]))
  generalize (upd Ha1 o (.ins g.c_Work dx [("into", x1)])) = H1 at b1 e1 ⊢
  refine ⟨x2, rfl, (k2.same (hid_but b1)).same hid_sub, fun n2 Ha2 sa2 => ⟨o, _, dx, _, rfl, sa2 _ _ e1, T.cl_Work, T.na_Work_function, (by simp), ?_⟩, fun n2 Ha2 dd sa2 hd ex => q2 .nm _ d2 (by simp [chk, Out.and, n1, n2]) Ha2 dd (b1.trans (But.same sa2)) (but_free b1 e1 hd) ex⟩
  have b2 : But o H (upd Ha2 o (.ins g.c_Work dx [("into", x1), ("function", x2)])) := (b1.trans (But.same sa2)).trans But.put
  have e2 : (upd Ha2 o (.ins g.c_Work dx [("into", x1), ("function", x2)])) o = some (.ins g.c_Work dx [("into", x1), ("function", x2)]) := upd_same
  show R_Work_init_3 K g E { nx := fun _ H' => Q .non H', rt := Q } [some (.ref o), some x1, some x2, some (.ref t)] (upd Ha2 o (.ins g.c_Work dx [("into", x1), ("function", x2)]))
  generalize (upd Ha2 o (.ins g.c_Work dx [("into", x1), ("function", x2)])) = H2 at b2 e2 ⊢
  refine ⟨t, cs, rfl, Z.Same.tup ((hid_but b2).trans hid_sub) kt, fun c hc => ((kc c hc).same (hid_but b2)).same hid_sub, kl, fun n9 Ha9 sa9 => ⟨o, _, dx, _, rfl, sa9 _ _ e2, T.cl_Work, T.na_Work_operands, (by simp), q1 (by simp [chk, Out.and, n1, n2, n9]) _ ((b2.trans (But.same sa9)).trans But.put) upd_same⟩,
    fun k v d ec Ha9 dd sa9 hd ex => q2 k v d (by simp [chk, Out.and, n1, n2, ec]) Ha9 dd (b2.trans (But.same sa9)) (but_free b2 e2 hd) ex⟩
theorem ok_Work_init {P : Program} {w : World} {K : PySem.W.Frag} {mg : Str → Option Value} {base : Heap} {g : Ads} (T : Txt K mg g) : FnR P w K mg base (L2.CX P w) 5 g.f_Work_init (sp_Work_init K g) := (raw_Work_init T).imp fun vs H Q E ⟨ws, rest, e, l, z, k⟩ => ⟨ws, rest, e, l, z, fun p hp => pf_Work_init T _ _ _ _ (k p hp)⟩
def sp_Holds_initB (K : PySem.W.Frag) (g : Ads) : Sp := fun vs H Q E => ∃ (o dx : Addr) (x1 x2 : V) (d1 : PyData) (t : Addr) (cs : List (V × PyData)), vs = [.ref o, x1, x2] ∧ H o = some (.ins g.c_Holds dx []) ∧ Knd K (hid [o] H) x1 ∧ x2 = .ref t ∧ SqT K (hid [o] H) t (cs.map (·.1)) ∧ (∀ c ∈ cs, Knd K (hid [o] H) c.1) ∧ cs.length ≤ 1000 ∧
  ((chk [(true, x1, d1)]).and (chkOps cs) = .ok → ∀ H', But o H H' → H' o = some (.ins g.c_Holds dx [("test", x1), ("operands", x2)]) → Q .non H') ∧ ErrsB g o ((chk [(true, x1, d1)]).and (chkOps cs)) H E
def sp_Holds_init (K : PySem.W.Frag) (g : Ads) : Sp := spStar 2 (sp_Holds_initB K g)
theorem sc_Holds_init : FnScope ["self", "test", "operands"] ["self", "test", "operands"] (defScope s_Holds_init) := ⟨rfl, rfl, rfl, by decide +kernel, rfl, by decide +kernel, by decide +kernel⟩
def R_Holds_init_2 (K : PySem.W.Frag) (g : Ads) (E : XK) : TS :=
  (sFld K (zVar 0) (zCall (sp_check_operands K g) [] (WE (fun cls d _ H => E cls d H)) (tCons (zVar 2) tNil)) "operands")
def R_Holds_init (K : PySem.W.Frag) (g : Ads) (E : XK) : TS :=
  (tSeq (sFld K (zVar 0) (zCall (sp_check_name K g) [] (WE (fun cls d _ H => E cls d H)) (tCons (zVar 1) tNil)) "test")
  (R_Holds_init_2 K g E))
def rw_Holds_init (K : PySem.W.Frag) (g : Ads) : Sp := fun vs H Q E => vs.length = 3 ∧ R_Holds_init K g E { nx := fun _ H' => Q .non H', rt := Q } (start ["self", "test", "operands"] vs) H
theorem raw_Holds_init {P : Program} {w : World} {K : PySem.W.Frag} {mg : Str → Option Value} {base : Heap} {g : Ads} (T : Txt K mg g) : FnR P w K mg base (L2.CX P w) 5 g.f_Holds_init (spStar 2 (rw_Holds_init K g)) := by
  refine okStar (ps := ["self", "test"]) (pv := "operands") T.f_Holds_init sc_Holds_init (fun kV doc pm an cdv ct => StX.bind_star2 (B := fun l => bindArgs (PySem.W.fnOf "__init__" "Holds.__init__" (defArgs s_Holds_init) (defBody s_Holds_init) (defScope s_Holds_init) .none kV doc pm an cdv ct) ⟨l, []⟩) (fun _ _ => rfl) (fun _ _ _ _ => rfl)) (fun cdv A outer s H vs Q E hr h => ⟨R_Holds_init K g E, ?_, h.2⟩)
  exact (pss_cons (ps_fld (zv 0) (pe_callZ (ok_check_name T) (hr.mono (by decide)) (fun z => nomatch z) rfl T.g_check_name T.k_check_name T.e_check_name .nil (fun σ => passAt (takes_of rfl rfl rfl rfl) σ) (pa_cons (zv 1) pa_nil)) rfl)
  (pss_one (ps_fld (zv 0) (pe_callZ (ok_check_operands T) (hr.mono (by decide)) (fun z => nomatch z) rfl T.g_check_operands T.k_check_operands T.e_check_operands .nil (fun σ => passAt (takes_of rfl rfl rfl rfl) σ) (pa_cons (zv 2) pa_nil)) rfl)))
theorem pf_Holds_init {K : PySem.W.Frag} {mg : Str → Option Value} {g : Ads} (T : Txt K mg g) (vs : List V) (H : Hp) (Q : VK) (E : XK) (h : sp_Holds_initB K g vs H Q E) : rw_Holds_init K g vs H Q E := by
  obtain ⟨o, dx, x1, x2, d1, t, cs, rfl, ho, k1, rfl, kt, kc, kl, q1, q2⟩ := h
  refine ⟨rfl, ?_⟩
  have b0 : But o H H := fun _ _ e _ => e
  refine ⟨x1, rfl, (k1.same (hid_but b0)).same hid_sub, fun n1 Ha1 sa1 => ⟨o, _, dx, _, rfl, sa1 _ _ ho, T.cl_Holds, T.na_Holds_test, (by simp), ?_⟩, fun n1 Ha1 dd sa1 hd ex => q2 .nm _ d1 (by simp [chk, Out.and, n1]) Ha1 dd (b0.trans (But.same sa1)) (but_free b0 ho hd) ex⟩
  have b1 : But o H (upd Ha1 o (.ins g.c_Holds dx [("test", x1)])) := (b0.trans (But.same sa1)).trans But.put
  have e1 : (upd Ha1 o (.ins g.c_Holds dx [("test", x1)])) o = some (.ins g.c_Holds dx [("test", x1)]) := upd_same
  show R_Holds_init_2 K g E { nx := fun _ H' => Q .non H', rt := Q } [some (.ref o), some x1, some (.ref t)] (upd Ha1 o (.ins g.c_Holds dx [("test", x1)]))
  generalize (upd Ha1 o (.ins g.c_Holds dx [("test", x1)])) = H1 at b1 e1 ⊢
  refine ⟨t, cs, rfl, Z.Same.tup ((hid_but b1).trans hid_sub) kt, fun c hc => ((kc c hc).same (hid_but b1)).same hid_sub, kl, fun n9 Ha9 sa9 => ⟨o, _, dx, _, rfl, sa9 _ _ e1, T.cl_Holds, T.na_Holds_operands, (by simp), q1 (by simp [chk, Out.and, n1, n9]) _ ((b1.trans (But.same sa9)).trans But.put) upd_same⟩,
    fun k v d ec Ha9 dd sa9 hd ex => q2 k v d (by simp [chk, Out.and, n1, ec]) Ha9 dd (b1.trans (But.same sa9)) (but_free b1 e1 hd) ex⟩
theorem ok_Holds_init {P : Program} {w : World} {K : PySem.W.Frag} {mg : Str → Option Value} {base : Heap} {g : Ads} (T : Txt K mg g) : FnR P w K mg base (L2.CX P w) 5 g.f_Holds_init (sp_Holds_init K g) := (raw_Holds_init T).imp fun vs H Q E ⟨ws, rest, e, l, z, k⟩ => ⟨ws, rest, e, l, z, fun p hp => pf_Holds_init T _ _ _ _ (k p hp)⟩
end Z
namespace Z
open PySem PySem.Spec PyProof.Rows L2
/-! ### what is new and what stays while an instance is made -/
theorem mk_same {H : Hp} {o dx C : Addr} (ho : H o = none) (hd : H dx = none) (ne : dx ≠ o) : Same H (upd (upd H dx (.own o)) o (.ins C dx [])) ∧ (upd H dx (.own o)) o = none := by
  have h1 : (upd H dx (.own o)) o = none := by
    rw [upd_ne ne.symm]
    exact ho
  exact ⟨(Same.put hd).trans (Same.put h1), h1⟩
theorem mk_hid {H H1 : Hp} {o : Addr} (ho : H o = none) (s : Same H H1) : Same H (hid [o] H1) := fun b u e => hid_at (by simpa using ne_of_none e ho) (s _ _ e)
theorem mk_out {H H1 H2 : Hp} {o : Addr} (ho : H o = none) (s : Same H H1) (b : But o H1 H2) : Same H H2 := fun c u e => b _ _ (s _ _ e) (ne_of_none e ho)
def sp_Holds_made (K : PySem.W.Frag) (g : Ads) : Sp := fun vs H Q E => ∃ (x1 : V) (d1 : PyData) (l : Addr) (cs : List (V × PyData)), vs = [.ref g.c_Holds, x1, .ref l] ∧ (SqT K H l (cs.map (·.1)) ∨ SqL K H l (cs.map (·.1))) ∧ Knd K H x1 ∧ (∀ c ∈ cs, Knd K H c.1) ∧ cs.length ≤ 1000 ∧
  ((chk [(true, x1, d1)]).and (chkOps cs) = .ok → ∀ H' o dx t, Same H H' → H' o = some (.ins g.c_Holds dx [("test", x1), ("operands", .ref t)]) → H' t = some (.tup (cs.map (·.1))) → Q (.ref o) H') ∧ Errs g ((chk [(true, x1, d1)]).and (chkOps cs)) H E
def sp_Work_made (K : PySem.W.Frag) (g : Ads) : Sp := fun vs H Q E => ∃ (x1 x2 : V) (d1 d2 : PyData) (l : Addr) (cs : List (V × PyData)), vs = [.ref g.c_Work, x1, x2, .ref l] ∧ (SqT K H l (cs.map (·.1)) ∨ SqL K H l (cs.map (·.1))) ∧ Knd K H x1 ∧ Knd K H x2 ∧ (∀ c ∈ cs, Knd K H c.1) ∧ cs.length ≤ 1000 ∧
  ((chk [(true, x1, d1), (true, x2, d2)]).and (chkOps cs) = .ok → ∀ H' o dx t, Same H H' → H' o = some (.ins g.c_Work dx [("into", x1), ("function", x2), ("operands", .ref t)]) → H' t = some (.tup (cs.map (·.1))) → Q (.ref o) H') ∧
  Errs g ((chk [(true, x1, d1), (true, x2, d2)]).and (chkOps cs)) H E
/-- the constructors with *operands, by their items -/
theorem holds_new {K : PySem.W.Frag} {g : Ads} {H : Hp} {Q : VK} {E : XK} {x1 : V} {d1 : PyData} {cs : List (V × PyData)} (k1 : Knd K H x1) (kc : ∀ c ∈ cs, Knd K H c.1) (hl : cs.length ≤ 1000)
    (q1 : (chk [(true, x1, d1)]).and (chkOps cs) = .ok → ∀ H' o dx t, Same H H' → H' o = some (.ins g.c_Holds dx [("test", x1), ("operands", .ref t)]) → H' t = some (.tup (cs.map (·.1))) → Q (.ref o) H') (q2 : Errs g ((chk [(true, x1, d1)]).and (chkOps cs)) H E) :
    ∀ o dx, H o = none → H dx = none → dx ≠ o → sp_Holds_init K g (.ref o :: x1 :: cs.map (·.1)) (upd (upd H dx (.own o)) o (.ins g.c_Holds dx [])) (fun v H2 => v = .non ∧ Q (.ref o) H2) E := by
  intro o dx ho hd ne
  obtain ⟨s1, _⟩ := mk_same (C := g.c_Holds) ho hd ne
  refine ⟨[.ref o, x1], cs.map (·.1), rfl, rfl, ?_, fun p hp => ?_⟩
  · rw [List.length_map]
    exact Nat.le_trans hl (by decide)
  have s2 := s1.trans (Same.put (o := .tup (cs.map (·.1))) hp)
  have np : o ≠ p := ne_of_none upd_same hp
  refine ⟨o, dx, x1, .ref p, d1, p, cs, rfl, by rw [upd_ne np, upd_same], k1.same (mk_hid ho s2), rfl, .inl (.inl (hid_at (by simpa using np.symm) upd_same)), fun c hc => (kc c hc).same (mk_hid ho s2), hl, fun e H' b e1 => ⟨rfl, ?_⟩, fun k v d e H' dd b hdd ex => q2 k v d e H' dd (mk_out ho s2 b) (s2.free hdd) ex⟩
  exact q1 e H' o dx p (mk_out ho s2 b) e1 (b _ _ upd_same np.symm)
theorem work_new {K : PySem.W.Frag} {g : Ads} {H : Hp} {Q : VK} {E : XK} {x1 x2 : V} {d1 d2 : PyData} {cs : List (V × PyData)} (k1 : Knd K H x1) (k2 : Knd K H x2) (kc : ∀ c ∈ cs, Knd K H c.1) (hl : cs.length ≤ 1000)
    (q1 : (chk [(true, x1, d1), (true, x2, d2)]).and (chkOps cs) = .ok → ∀ H' o dx t, Same H H' → H' o = some (.ins g.c_Work dx [("into", x1), ("function", x2), ("operands", .ref t)]) → H' t = some (.tup (cs.map (·.1))) → Q (.ref o) H')
    (q2 : Errs g ((chk [(true, x1, d1), (true, x2, d2)]).and (chkOps cs)) H E) :
    ∀ o dx, H o = none → H dx = none → dx ≠ o → sp_Work_init K g (.ref o :: x1 :: x2 :: cs.map (·.1)) (upd (upd H dx (.own o)) o (.ins g.c_Work dx [])) (fun v H2 => v = .non ∧ Q (.ref o) H2) E := by
  intro o dx ho hd ne
  obtain ⟨s1, _⟩ := mk_same (C := g.c_Work) ho hd ne
  refine ⟨[.ref o, x1, x2], cs.map (·.1), rfl, rfl, ?_, fun p hp => ?_⟩
  · rw [List.length_map]
    exact Nat.le_trans hl (by decide)
  have s2 := s1.trans (Same.put (o := .tup (cs.map (·.1))) hp)
  have np : o ≠ p := ne_of_none upd_same hp
  refine ⟨o, dx, x1, x2, .ref p, d1, d2, p, cs, rfl, by rw [upd_ne np, upd_same], k1.same (mk_hid ho s2), k2.same (mk_hid ho s2), rfl, .inl (.inl (hid_at (by simpa using np.symm) upd_same)), fun c hc => (kc c hc).same (mk_hid ho s2), hl, fun e H' b e1 => ⟨rfl, ?_⟩, fun k v d e H' dd b hdd ex => q2 k v d e H' dd (mk_out ho s2 b) (s2.free hdd) ex⟩
  exact q1 e H' o dx p (mk_out ho s2 b) e1 (b _ _ upd_same np.symm)
theorem sc_Work_made : FnScope ["cls", "into", "function", "operands"] ["cls", "into", "function", "operands"] (defScope s_Work_made) := ⟨rfl, rfl, rfl, by decide +kernel, rfl, by decide +kernel, by decide +kernel⟩
def R_Work_made (K : PySem.W.Frag) (g : Ads) (E : XK) : TS :=
  (tRet (zNewS 0 g.c_Work (sp_Work_init K g) E (tCons (zVar 1) (tCons (zVar 2) (StX.tStar K (zVar 3) tNil)))))
def rw_Work_made (K : PySem.W.Frag) (g : Ads) : Sp := fun vs H Q E => vs.length = 4 ∧ R_Work_made K g E { nx := fun _ H' => Q .non H', rt := Q } (start ["cls", "into", "function", "operands"] vs) H
theorem raw_Work_made {P : Program} {w : World} {K : PySem.W.Frag} {mg : Str → Option Value} {base : Heap} {g : Ads} (T : Txt K mg g) : FnG true P w K mg base 7 g.f_Work_made g.d_Work_made ["cls", "into", "function", "operands"] (rw_Work_made K g) := by
  refine okZ T.f_Work_made sc_Work_made (fun vs H Q E h => h.1) (fun cdv A outer s H vs Q E hr hgu h => ⟨R_Work_made K g E, ?_, h.2⟩)
  exact (pss_one (ps_ret (pe_zNewS (i := 0) T.m_Work (ok_Work_init T) (hr.mono (by decide)) rfl (Or.inl rfl) (passes_call (takes_of rfl rfl rfl rfl) (fun _ _ _ _ h => h)) (pa_cons (zv 1) (pa_cons (zv 2) (StX.pa_star (zv 3) pa_nil))))))
theorem sc_Holds_made : FnScope ["cls", "test", "operands"] ["cls", "test", "operands"] (defScope s_Holds_made) := ⟨rfl, rfl, rfl, by decide +kernel, rfl, by decide +kernel, by decide +kernel⟩
def R_Holds_made (K : PySem.W.Frag) (g : Ads) (E : XK) : TS :=
  (tRet (zNewS 0 g.c_Holds (sp_Holds_init K g) E (tCons (zVar 1) (StX.tStar K (zVar 2) tNil))))
def rw_Holds_made (K : PySem.W.Frag) (g : Ads) : Sp := fun vs H Q E => vs.length = 3 ∧ R_Holds_made K g E { nx := fun _ H' => Q .non H', rt := Q } (start ["cls", "test", "operands"] vs) H
theorem raw_Holds_made {P : Program} {w : World} {K : PySem.W.Frag} {mg : Str → Option Value} {base : Heap} {g : Ads} (T : Txt K mg g) : FnG true P w K mg base 7 g.f_Holds_made g.d_Holds_made ["cls", "test", "operands"] (rw_Holds_made K g) := by
  refine okZ T.f_Holds_made sc_Holds_made (fun vs H Q E h => h.1) (fun cdv A outer s H vs Q E hr hgu h => ⟨R_Holds_made K g E, ?_, h.2⟩)
  exact (pss_one (ps_ret (pe_zNewS (i := 0) T.m_Holds (ok_Holds_init T) (hr.mono (by decide)) rfl (Or.inl rfl) (passes_call (takes_of rfl rfl rfl rfl) (fun _ _ _ _ h => h)) (pa_cons (zv 1) (StX.pa_star (zv 2) pa_nil)))))
theorem ok_Work_made {P : Program} {w : World} {K : PySem.W.Frag} {mg : Str → Option Value} {base : Heap} {g : Ads} (T : Txt K mg g) : FnZ P w K mg base 7 g.f_Work_made g.d_Work_made ["cls", "into", "function", "operands"] (sp_Work_made K g) :=
  (raw_Work_made T).imp fun vs H Q E ⟨x1, x2, d1, d2, l, cs, e, hs, k1, k2, kc, hl, q1, q2⟩ => by
    subst e
    refine ⟨rfl, rfl, l, _, rfl, hs, ?_⟩
    show ∀ o dx, H o = none → H dx = none → dx ≠ o → sp_Work_init K g (.ref o :: x1 :: x2 :: (cs.map (·.1) ++ [])) (upd (upd H dx (.own o)) o (.ins g.c_Work dx [])) (fun v H2 => v = .non ∧ Q (.ref o) H2) E
    rw [List.append_nil]
    exact work_new k1 k2 kc hl q1 q2
theorem ok_Holds_made {P : Program} {w : World} {K : PySem.W.Frag} {mg : Str → Option Value} {base : Heap} {g : Ads} (T : Txt K mg g) : FnZ P w K mg base 7 g.f_Holds_made g.d_Holds_made ["cls", "test", "operands"] (sp_Holds_made K g) :=
  (raw_Holds_made T).imp fun vs H Q E ⟨x1, d1, l, cs, e, hs, k1, kc, hl, q1, q2⟩ => by
    subst e
    refine ⟨rfl, rfl, l, _, rfl, hs, ?_⟩
    show ∀ o dx, H o = none → H dx = none → dx ≠ o → sp_Holds_init K g (.ref o :: x1 :: (cs.map (·.1) ++ [])) (upd (upd H dx (.own o)) o (.ins g.c_Holds dx [])) (fun v H2 => v = .non ∧ Q (.ref o) H2) E
    rw [List.append_nil]
    exact holds_new k1 kc hl q1 q2
end Z
namespace Z
open PySem PySem.Spec PyProof.Rows L2
structure FitX (d : PyData) : Prop where
  sh : d.showable = true
  lv : d.leavesShort 22 = true
  wt : d.weight ≤ 400
  dp : d.depth ≤ 4
theorem FitX.le {d : PyData} (f : FitX d) : d.shown.length ≤ sizeLine := by
  have := PyData.shown_le 22 (by decide) d f.lv
  have : (22 + 2) * d.weight ≤ 24 * 400 := Nat.mul_le_mul (Nat.le_refl _) f.wt
  rw [sizeLine_eq]
  omega
theorem DpR.same {K : PySem.W.Frag} {H H' : Hp} {v : V} {d : PyData} (h : DpR K H v d) (s : Same H H') : DpR K H' v d := by
  rcases h with ⟨h, e⟩ | ⟨a, kvs, kds, e1, e2, e3, e4⟩
  · exact .inl ⟨Dp_same s _ _ h, e⟩
  · exact .inr ⟨a, kvs, kds, e1, s _ _ e2, e3, e4⟩
/-- a part of a step: its kind, what repr tells of it; it is no empty tuple -/
structure Thing (K : PySem.W.Frag) (H : Hp) (v : V) (d : PyData) : Prop where
  kn : Knd K H v
  dp : DpR K H v d
  fx : FitX d
  ee : EqE K H v false
theorem Thing.same {K : PySem.W.Frag} {H H' : Hp} {v : V} {d : PyData} (t : Thing K H v d) (s : Same H H') : Thing K H' v d := ⟨t.kn.same s, t.dp.same s, t.fx, t.ee.same s⟩
/-- what is asked of the parts of a step, by its word -/
inductive Req : Str → List (V × PyData) → Out → Prop
  | read2 (a b : V × PyData) : Req "read" [a, b] (chk [(true, a), (true, b)])
  | read3 (a b c : V × PyData) : Req "read" [a, b, c] (chk [(true, a), (true, b), (false, c)])
  | let_ (a b : V × PyData) : Req "let" [a, b] (chk [(true, a), (false, b)])
  | put (a b : V × PyData) : Req "put" [a, b] (chk [(true, a), (false, b)])
  | keep (a b : V × PyData) : Req "keep" [a, b] (chk [(true, a), (false, b)])
  | show_ (a b : V × PyData) : Req "show" [a, b] (chk [(true, a), (false, b)])
  | has (a : V × PyData) : Req "has" [a] (chk [(false, a)])
  | typed (a : V × PyData) : Req "typed" [a] (chk [(true, a)])
  | holds (a : V × PyData) (r : List (V × PyData)) : Req "holds" (a :: r) ((chk [(true, a)]).and (chkOps r))
  | work (a b : V × PyData) (r : List (V × PyData)) : Req "work" (a :: b :: r) ((chk [(true, a), (true, b)]).and (chkOps r))
def sp_law_made (K : PySem.W.Frag) (g : Ads) : Sp := fun vs H Q E => ∃ (wd : Str) (p : Addr) (cs : List (V × PyData)) (o : Out), vs = [.str wd, .ref p] ∧ SqL K H p (cs.map (·.1)) ∧ (∀ c ∈ cs, Thing K H c.1 c.2) ∧ cs.length ≤ 100 ∧ Req wd cs o ∧
  (o = .ok → ∀ a H', Same H H' → Q (.ref a) H') ∧ Errs g o H E
theorem and_ok (o : Out) : o.and .ok = o := by cases o <;> rfl
theorem cut1 (a : V) (r : List V) : cutV (a :: r) (some 1) none = r := by
  unfold cutV
  rw [show (some (1 : Int)) = some ((1 : Nat) : Int) from rfl, HT.sIx_nat, HT.sIx_none, List.length_cons, Nat.min_eq_left (by omega)]
  simp
theorem cut2 (a b : V) (r : List V) : cutV (a :: b :: r) (some 2) none = r := by
  unfold cutV
  rw [show (some (2 : Int)) = some ((2 : Nat) : Int) from rfl, HT.sIx_nat, HT.sIx_none, List.length_cons, List.length_cons, Nat.min_eq_left (by omega)]
  simp
theorem sc_law_made : FnScope ["word", "parts"] ["word", "parts"] (defScope s_law_made) := ⟨rfl, rfl, rfl, by decide +kernel, rfl, by decide +kernel, by decide +kernel⟩
def R_law_made_2 (K : PySem.W.Frag) (g : Ads) (E : XK) : TS :=
  (tRet (tIf (zTest (tOp (zEq K) (tCB (zLen K) (tCons (zVar 1) tNil)) (tC (.int 3)))) (zMakeK g.c_Read 2 1 (sp_Read_init K g) (fun us ws => us ++ ws) (WE (fun cls d _ H => E cls d H)) (tCons (tOp (zIx K) (zVar 1) (tC (.int 0))) (tCons (tOp (zIx K) (zVar 1) (tC (.int 1))) tNil)) (tCons (tOp (zIx K) (zVar 1) (tC (.int 2))) tNil)) (zMake g.c_Read (sp_Read_init K g) [.ref g.t_Read_init] (WE (fun cls d _ H => E cls d H)) (tCons (tOp (zIx K) (zVar 1) (tC (.int 0))) (tCons (tOp (zIx K) (zVar 1) (tC (.int 1))) tNil)))))
def R_law_made_4 (K : PySem.W.Frag) (g : Ads) (E : XK) : TS :=
  (tRet (zMake g.c_Let (sp_Let_init K g) [] (WE (fun cls d _ H => E cls d H)) (tCons (tOp (zIx K) (zVar 1) (tC (.int 0))) (tCons (tOp (zIx K) (zVar 1) (tC (.int 1))) tNil))))
def R_law_made_6 (K : PySem.W.Frag) (g : Ads) (E : XK) : TS :=
  (tRet (zMakeK g.c_Put 2 1 (sp_Put_init K g) (fun us ws => us ++ ws) (WE (fun cls d _ H => E cls d H)) (tCons (tOp (zIx K) (zVar 1) (tC (.int 0))) (tCons (tOp (zIx K) (zVar 1) (tC (.int 1))) tNil)) (tCons (tC (.bl true)) tNil)))
def R_law_made_8 (K : PySem.W.Frag) (g : Ads) (E : XK) : TS :=
  (tRet (zMakeK g.c_Keep 2 1 (sp_Keep_init K g) (fun us ws => us ++ ws) (WE (fun cls d _ H => E cls d H)) (tCons (tOp (zIx K) (zVar 1) (tC (.int 0))) (tCons (tOp (zIx K) (zVar 1) (tC (.int 1))) tNil)) (tCons (tC (.bl true)) tNil)))
def R_law_made_10 (K : PySem.W.Frag) (g : Ads) (E : XK) : TS :=
  (tRet (zMakeK g.c_Show 2 1 (sp_Show_init K g) (fun us ws => us ++ ws) (WE (fun cls d _ H => E cls d H)) (tCons (tOp (zIx K) (zVar 1) (tC (.int 0))) (tCons (tOp (zIx K) (zVar 1) (tC (.int 1))) tNil)) (tCons (tC (.bl true)) tNil)))
def R_law_made_12 (K : PySem.W.Frag) (g : Ads) (E : XK) : TS :=
  (tRet (zMake g.c_Has (sp_Has_init K g) [] (WE (fun cls d _ H => E cls d H)) (tCons (tOp (zIx K) (zVar 1) (tC (.int 0))) tNil)))
def R_law_made_14 (K : PySem.W.Frag) (g : Ads) (E : XK) : TS :=
  (tRet (zMake g.c_Typed (sp_Typed_init K g) [] (WE (fun cls d _ H => E cls d H)) (tCons (tOp (zIx K) (zVar 1) (tC (.int 0))) tNil)))
def R_law_made_16 (K : PySem.W.Frag) (g : Ads) (E : XK) : TS :=
  (tRet (tCMethS g.c_Holds (sp_Holds_made K g) (WE (fun cls d _ H => E cls d H)) (tC (.ref g.c_Holds)) (tCons (tOp (zIx K) (zVar 1) (tC (.int 0))) (tCons (tSl (rSlL K) (zVar 1) (tPart (tC (.int 1))) tNoPart) tNil))))
def R_law_made_17 (K : PySem.W.Frag) (g : Ads) (E : XK) : TS :=
  (tRet (tCMethS g.c_Work (sp_Work_made K g) (WE (fun cls d _ H => E cls d H)) (tC (.ref g.c_Work)) (tCons (tOp (zIx K) (zVar 1) (tC (.int 0))) (tCons (tOp (zIx K) (zVar 1) (tC (.int 1))) (tCons (tSl (rSlL K) (zVar 1) (tPart (tC (.int 2))) tNoPart) tNil)))))
def R_law_made_15 (K : PySem.W.Frag) (g : Ads) (E : XK) : TS :=
  (tSeq (tIfS (zTest (tOp (zEq K) (zVar 0) (tC (.str "holds"))))
  (R_law_made_16 K g E)
  tNext)
  (R_law_made_17 K g E))
def R_law_made_13 (K : PySem.W.Frag) (g : Ads) (E : XK) : TS :=
  (tSeq (tIfS (zTest (tOp (zEq K) (zVar 0) (tC (.str "typed"))))
  (R_law_made_14 K g E)
  tNext)
  (R_law_made_15 K g E))
def R_law_made_11 (K : PySem.W.Frag) (g : Ads) (E : XK) : TS :=
  (tSeq (tIfS (zTest (tOp (zEq K) (zVar 0) (tC (.str "has"))))
  (R_law_made_12 K g E)
  tNext)
  (R_law_made_13 K g E))
def R_law_made_9 (K : PySem.W.Frag) (g : Ads) (E : XK) : TS :=
  (tSeq (tIfS (zTest (tOp (zEq K) (zVar 0) (tC (.str "show"))))
  (R_law_made_10 K g E)
  tNext)
  (R_law_made_11 K g E))
def R_law_made_7 (K : PySem.W.Frag) (g : Ads) (E : XK) : TS :=
  (tSeq (tIfS (zTest (tOp (zEq K) (zVar 0) (tC (.str "keep"))))
  (R_law_made_8 K g E)
  tNext)
  (R_law_made_9 K g E))
def R_law_made_5 (K : PySem.W.Frag) (g : Ads) (E : XK) : TS :=
  (tSeq (tIfS (zTest (tOp (zEq K) (zVar 0) (tC (.str "put"))))
  (R_law_made_6 K g E)
  tNext)
  (R_law_made_7 K g E))
def R_law_made_3 (K : PySem.W.Frag) (g : Ads) (E : XK) : TS :=
  (tSeq (tIfS (zTest (tOp (zEq K) (zVar 0) (tC (.str "let"))))
  (R_law_made_4 K g E)
  tNext)
  (R_law_made_5 K g E))
def R_law_made (K : PySem.W.Frag) (g : Ads) (E : XK) : TS :=
  (tSeq (tIfS (zTest (tOp (zEq K) (zVar 0) (tC (.str "read"))))
  (R_law_made_2 K g E)
  tNext)
  (R_law_made_3 K g E))
def rw_law_made (K : PySem.W.Frag) (g : Ads) : Sp := fun vs H Q E => vs.length = 2 ∧ R_law_made K g E { nx := fun _ H' => Q .non H', rt := Q } (start ["word", "parts"] vs) H
theorem raw_law_made {P : Program} {w : World} {K : PySem.W.Frag} {mg : Str → Option Value} {base : Heap} {g : Ads} (T : Txt K mg g) : FnG true P w K mg base 8 g.f_law_made g.d_law_made ["word", "parts"] (rw_law_made K g) := by
  refine okZ T.f_law_made sc_law_made (fun vs H Q E h => h.1) (fun cdv A outer s H vs Q E hr hgu h => ⟨R_law_made K g E, ?_, h.2⟩)
  exact (pss_cons (ps_if (ptz_cmp (op_zEq hr.units) (zv 0) pe_str (nomark _))
  (pss_one (ps_ret (pe_ifExp (ptz_cmp (op_zEq hr.units) (pe_callB call_lenZ (by rfl) T.b_len (by decide +kernel) (pa_cons (zv 1) pa_nil)) pe_int (nomark _)) (pe_makeZK (ks := ["default"]) T.m_Read (ok_Read_init T) (hr.mono (by decide)) hgu rfl T.g_Read T.kz_3 (fun σ => passAt (takes_of rfl rfl rfl rfl) σ) (pa_cons (pe_ix ix_z (zv 1) pe_int (fun _ _ => rfl)) (pa_cons (pe_ix ix_z (zv 1) pe_int (fun _ _ => rfl)) pa_nil)) (pk_cons (pe_ix ix_z (zv 1) pe_int (fun _ _ => rfl)) pk_nil)) (pe_makeZ T.m_Read (ok_Read_init T) (hr.mono (by decide)) hgu rfl T.g_Read T.e_Read_init (.cons rfl .nil) (fun σ => passAt (takes_of rfl rfl rfl rfl) σ) (pa_cons (pe_ix ix_z (zv 1) pe_int (fun _ _ => rfl)) (pa_cons (pe_ix ix_z (zv 1) pe_int (fun _ _ => rfl)) pa_nil))))))
  pss_nil)
  (pss_cons (ps_if (ptz_cmp (op_zEq hr.units) (zv 0) pe_str (nomark _))
  (pss_one (ps_ret (pe_makeZ T.m_Let (ok_Let_init T) (hr.mono (by decide)) hgu rfl T.g_Let T.e_Let_init .nil (fun σ => passAt (takes_of rfl rfl rfl rfl) σ) (pa_cons (pe_ix ix_z (zv 1) pe_int (fun _ _ => rfl)) (pa_cons (pe_ix ix_z (zv 1) pe_int (fun _ _ => rfl)) pa_nil)))))
  pss_nil)
  (pss_cons (ps_if (ptz_cmp (op_zEq hr.units) (zv 0) pe_str (nomark _))
  (pss_one (ps_ret (pe_makeZK (ks := ["typed"]) T.m_Put (ok_Put_init T) (hr.mono (by decide)) hgu rfl T.g_Put T.kz_0 (fun σ => passAt (takes_of rfl rfl rfl rfl) σ) (pa_cons (pe_ix ix_z (zv 1) pe_int (fun _ _ => rfl)) (pa_cons (pe_ix ix_z (zv 1) pe_int (fun _ _ => rfl)) pa_nil)) (pk_cons pe_bl pk_nil))))
  pss_nil)
  (pss_cons (ps_if (ptz_cmp (op_zEq hr.units) (zv 0) pe_str (nomark _))
  (pss_one (ps_ret (pe_makeZK (ks := ["late"]) T.m_Keep (ok_Keep_init T) (hr.mono (by decide)) hgu rfl T.g_Keep T.kz_1 (fun σ => passAt (takes_of rfl rfl rfl rfl) σ) (pa_cons (pe_ix ix_z (zv 1) pe_int (fun _ _ => rfl)) (pa_cons (pe_ix ix_z (zv 1) pe_int (fun _ _ => rfl)) pa_nil)) (pk_cons pe_bl pk_nil))))
  pss_nil)
  (pss_cons (ps_if (ptz_cmp (op_zEq hr.units) (zv 0) pe_str (nomark _))
  (pss_one (ps_ret (pe_makeZK (ks := ["guess"]) T.m_Show (ok_Show_init T) (hr.mono (by decide)) hgu rfl T.g_Show T.kz_2 (fun σ => passAt (takes_of rfl rfl rfl rfl) σ) (pa_cons (pe_ix ix_z (zv 1) pe_int (fun _ _ => rfl)) (pa_cons (pe_ix ix_z (zv 1) pe_int (fun _ _ => rfl)) pa_nil)) (pk_cons pe_bl pk_nil))))
  pss_nil)
  (pss_cons (ps_if (ptz_cmp (op_zEq hr.units) (zv 0) pe_str (nomark _))
  (pss_one (ps_ret (pe_makeZ T.m_Has (ok_Has_init T) (hr.mono (by decide)) hgu rfl T.g_Has T.e_Has_init .nil (fun σ => passAt (takes_of rfl rfl rfl rfl) σ) (pa_cons (pe_ix ix_z (zv 1) pe_int (fun _ _ => rfl)) pa_nil))))
  pss_nil)
  (pss_cons (ps_if (ptz_cmp (op_zEq hr.units) (zv 0) pe_str (nomark _))
  (pss_one (ps_ret (pe_makeZ T.m_Typed (ok_Typed_init T) (hr.mono (by decide)) hgu rfl T.g_Typed T.e_Typed_init .nil (fun σ => passAt (takes_of rfl rfl rfl rfl) σ) (pa_cons (pe_ix ix_z (zv 1) pe_int (fun _ _ => rfl)) pa_nil))))
  pss_nil)
  (pss_cons (ps_if (ptz_cmp (op_zEq hr.units) (zv 0) pe_str (nomark _))
  (pss_one (ps_ret (pe_cmethS (pe_glob rfl T.g_Holds rfl) T.cr_Holds T.cm_Holds_made (ok_Holds_made T) (hr.mono (by decide)) hgu T.e_Holds_made (fun σ => passAt (takes_of rfl rfl rfl rfl) σ) (pa_cons (pe_ix ix_z (zv 1) pe_int (fun _ _ => rfl)) (pa_cons (pe_slice sl_list (zv 1) (po_some pe_int) po_none) pa_nil)))))
  pss_nil)
  (pss_one (ps_ret (pe_cmethS (pe_glob rfl T.g_Work rfl) T.cr_Work T.cm_Work_made (ok_Work_made T) (hr.mono (by decide)) hgu T.e_Work_made (fun σ => passAt (takes_of rfl rfl rfl rfl) σ) (pa_cons (pe_ix ix_z (zv 1) pe_int (fun _ _ => rfl)) (pa_cons (pe_ix ix_z (zv 1) pe_int (fun _ _ => rfl)) (pa_cons (pe_slice sl_list (zv 1) (po_some pe_int) po_none) pa_nil))))))))))))))
theorem at0 {a : V × PyData} {r : List (V × PyData)} : atI ((a :: r).map (·.1)) 0 = some a.1 := atI_nat (j := 0) rfl
theorem at1 {a b : V × PyData} {r : List (V × PyData)} : atI ((a :: b :: r).map (·.1)) 1 = some b.1 := atI_nat (j := 1) rfl
theorem pf_law_made {K : PySem.W.Frag} {mg : Str → Option Value} {g : Ads} (T : Txt K mg g) (vs : List V) (H : Hp) (Q : VK) (E : XK) (h : sp_law_made K g vs H Q E) : rw_law_made K g vs H Q E := by
  obtain ⟨wd, p, cs, o, rfl, hp, th, hl, hr, q1, q2⟩ := h
  refine ⟨rfl, ?_⟩
  cases hr with
  | read2 a b =>
    have ta := th a (by simp)
    have tb := th b (by simp)
    have e0 : (chk [(true, a), (true, b)]).and (if true = true then .ok else chk [(false, (.ref g.t_Read_init, .none))]) = chk [(true, a), (true, b)] := and_ok _
    rw [← e0] at q1 q2
    exact .inl ⟨rfl, zite (fun _ => ⟨_, .inl hp, .inl ⟨rfl, zite (fun h => absurd h (show ¬ decide (V.int 2 = V.int 3) = true by decide)) fun _ => ⟨_, _, .inl hp, rfl, _, _, .inl hp, rfl, fun o dx ho hd ne => (have ⟨s1, _⟩ := mk_same (C := g.c_Read) ho hd ne; ⟨o, dx, a.1, b.1, .ref g.t_Read_init, a.2, b.2, .none, true, rfl, upd_same, ta.kn.same (mk_hid ho s1), tb.kn.same (mk_hid ho s1), ⟨.tuple, _, T.kt_Read_init _⟩, .inl ⟨.tuple [], .tup (T.kt_Read_init _) .nil, rfl, rfl⟩, fun e H' v b2 hv e1 => ⟨rfl, q1 e o H' (mk_out ho s1 b2)⟩, fun k v d e H' dd b2 hdd ex => q2 k v d e H' dd (mk_out ho s1 b2) (s1.free hdd) ex⟩)⟩⟩⟩) (fun h => absurd h (by decide))⟩
  | read3 a b c =>
    have ta := th a (by simp)
    have tb := th b (by simp)
    have tc := th c (by simp)
    have e0 : (chk [(true, a), (true, b)]).and (if false = true then .ok else chk [(false, c)]) = chk [(true, a), (true, b), (false, c)] := (chk_app [(true, a), (true, b)] [(false, c)]).symm
    rw [← e0] at q1 q2
    exact .inl ⟨rfl, zite (fun _ => ⟨_, .inl hp, .inl ⟨rfl, zite (fun _ => ⟨_, _, .inl hp, rfl, _, _, .inl hp, rfl, _, _, .inl hp, rfl, rfl, rfl, fun o dx ho hd ne => (have ⟨s1, _⟩ := mk_same (C := g.c_Read) ho hd ne; ⟨o, dx, a.1, b.1, c.1, a.2, b.2, c.2, false, rfl, upd_same, ta.kn.same (mk_hid ho s1), tb.kn.same (mk_hid ho s1), tc.kn.same (mk_hid ho s1), tc.ee.same (mk_hid ho s1), fun e H' v b2 hv e1 => ⟨rfl, q1 e o H' (mk_out ho s1 b2)⟩, fun k v d e H' dd b2 hdd ex => q2 k v d e H' dd (mk_out ho s1 b2) (s1.free hdd) ex⟩)⟩) fun h => absurd h (show ¬ decide (V.int 3 = V.int 3) = false by decide)⟩⟩) (fun h => absurd h (by decide))⟩
  | let_ a b =>
    have ta := th a (by simp)
    have tb := th b (by simp)
    exact .inl ⟨rfl, zite (fun h => absurd h (by decide)) fun _ => .inl ⟨rfl, zite (fun _ => ⟨_, _, .inl hp, rfl, _, _, .inl hp, rfl, fun o dx ho hd ne => (have ⟨s1, _⟩ := mk_same (C := g.c_Let) ho hd ne; ⟨o, dx, a.1, b.1, a.2, b.2, rfl, upd_same, ta.kn.same (mk_hid ho s1), tb.kn.same (mk_hid ho s1), fun e H' b2 e1 => ⟨rfl, q1 e o H' (mk_out ho s1 b2)⟩, fun k v d e H' dd b2 hdd ex => q2 k v d e H' dd (mk_out ho s1 b2) (s1.free hdd) ex⟩)⟩) (fun h => absurd h (by decide))⟩⟩
  | put a b =>
    have ta := th a (by simp)
    have tb := th b (by simp)
    exact .inl ⟨rfl, zite (fun h => absurd h (by decide)) fun _ => .inl ⟨rfl, zite (fun h => absurd h (by decide)) fun _ => .inl ⟨rfl, zite (fun _ => ⟨_, _, .inl hp, rfl, _, _, .inl hp, rfl, rfl, rfl, fun o dx ho hd ne => (have ⟨s1, _⟩ := mk_same (C := g.c_Put) ho hd ne; ⟨o, dx, a.1, b.1, .bl true, a.2, b.2, rfl, upd_same, ta.kn.same (mk_hid ho s1), tb.kn.same (mk_hid ho s1), fun e H' b2 e1 => ⟨rfl, q1 e o H' (mk_out ho s1 b2)⟩, fun k v d e H' dd b2 hdd ex => q2 k v d e H' dd (mk_out ho s1 b2) (s1.free hdd) ex⟩)⟩) (fun h => absurd h (by decide))⟩⟩⟩
  | keep a b =>
    have ta := th a (by simp)
    have tb := th b (by simp)
    exact .inl ⟨rfl, zite (fun h => absurd h (by decide)) fun _ => .inl ⟨rfl, zite (fun h => absurd h (by decide)) fun _ => .inl ⟨rfl, zite (fun h => absurd h (by decide)) fun _ => .inl ⟨rfl, zite (fun _ => ⟨_, _, .inl hp, rfl, _, _, .inl hp, rfl, rfl, rfl, fun o dx ho hd ne => (have ⟨s1, _⟩ := mk_same (C := g.c_Keep) ho hd ne; ⟨o, dx, a.1, b.1, .bl true, a.2, b.2, rfl, upd_same, ta.kn.same (mk_hid ho s1), tb.kn.same (mk_hid ho s1), fun e H' b2 e1 => ⟨rfl, q1 e o H' (mk_out ho s1 b2)⟩, fun k v d e H' dd b2 hdd ex => q2 k v d e H' dd (mk_out ho s1 b2) (s1.free hdd) ex⟩)⟩) (fun h => absurd h (by decide))⟩⟩⟩⟩
  | show_ a b =>
    have ta := th a (by simp)
    have tb := th b (by simp)
    exact .inl ⟨rfl, zite (fun h => absurd h (by decide)) fun _ => .inl ⟨rfl, zite (fun h => absurd h (by decide)) fun _ => .inl ⟨rfl, zite (fun h => absurd h (by decide)) fun _ => .inl ⟨rfl, zite (fun h => absurd h (by decide)) fun _ => .inl ⟨rfl, zite (fun _ => ⟨_, _, .inl hp, rfl, _, _, .inl hp, rfl, rfl, rfl, fun o dx ho hd ne => (have ⟨s1, _⟩ := mk_same (C := g.c_Show) ho hd ne; ⟨o, dx, a.1, b.1, .bl true, a.2, b.2, rfl, upd_same, ta.kn.same (mk_hid ho s1), tb.kn.same (mk_hid ho s1), fun e H' b2 e1 => ⟨rfl, q1 e o H' (mk_out ho s1 b2)⟩, fun k v d e H' dd b2 hdd ex => q2 k v d e H' dd (mk_out ho s1 b2) (s1.free hdd) ex⟩)⟩) (fun h => absurd h (by decide))⟩⟩⟩⟩⟩
  | has a =>
    have ta := th a (by simp)
    exact .inl ⟨rfl, zite (fun h => absurd h (by decide)) fun _ => .inl ⟨rfl, zite (fun h => absurd h (by decide)) fun _ => .inl ⟨rfl, zite (fun h => absurd h (by decide)) fun _ => .inl ⟨rfl, zite (fun h => absurd h (by decide)) fun _ => .inl ⟨rfl, zite (fun h => absurd h (by decide)) fun _ => .inl ⟨rfl, zite (fun _ => ⟨_, _, .inl hp, rfl, fun o dx ho hd ne => (have ⟨s1, _⟩ := mk_same (C := g.c_Has) ho hd ne; ⟨o, dx, a.1, a.2, rfl, upd_same, ta.kn.same (mk_hid ho s1), fun e H' b2 e1 => ⟨rfl, q1 e o H' (mk_out ho s1 b2)⟩, fun k v d e H' dd b2 hdd ex => q2 k v d e H' dd (mk_out ho s1 b2) (s1.free hdd) ex⟩)⟩) (fun h => absurd h (by decide))⟩⟩⟩⟩⟩⟩
  | typed a =>
    have ta := th a (by simp)
    exact .inl ⟨rfl, zite (fun h => absurd h (by decide)) fun _ => .inl ⟨rfl, zite (fun h => absurd h (by decide)) fun _ => .inl ⟨rfl, zite (fun h => absurd h (by decide)) fun _ => .inl ⟨rfl, zite (fun h => absurd h (by decide)) fun _ => .inl ⟨rfl, zite (fun h => absurd h (by decide)) fun _ => .inl ⟨rfl, zite (fun h => absurd h (by decide)) fun _ => .inl ⟨rfl, zite (fun _ => ⟨_, _, .inl hp, rfl, fun o dx ho hd ne => (have ⟨s1, _⟩ := mk_same (C := g.c_Typed) ho hd ne; ⟨o, dx, a.1, a.2, rfl, upd_same, ta.kn.same (mk_hid ho s1), fun e H' b2 e1 => ⟨rfl, q1 e o H' (mk_out ho s1 b2)⟩, fun k v d e H' dd b2 hdd ex => q2 k v d e H' dd (mk_out ho s1 b2) (s1.free hdd) ex⟩)⟩) (fun h => absurd h (by decide))⟩⟩⟩⟩⟩⟩⟩
  | holds a r =>
    have ta := th a (by simp)
    have tr : ∀ c ∈ r, Knd K H c.1 := fun c hc => (th c (by simp [hc])).kn
    have hl2 : r.length ≤ 1000 := by
      have : (a :: r).length = r.length + 1 := rfl
      omega
    exact .inl ⟨rfl, zite (fun h => absurd h (by decide)) fun _ => .inl ⟨rfl, zite (fun h => absurd h (by decide)) fun _ => .inl ⟨rfl, zite (fun h => absurd h (by decide)) fun _ => .inl ⟨rfl, zite (fun h => absurd h (by decide)) fun _ => .inl ⟨rfl, zite (fun h => absurd h (by decide)) fun _ => .inl ⟨rfl, zite (fun h => absurd h (by decide)) fun _ => .inl ⟨rfl, zite (fun h => absurd h (by decide)) fun _ => .inl ⟨rfl, zite (fun _ => ⟨rfl, _, a.1, .inl hp, at0, 1, rfl, p, _, rfl, hp, fun l hn => (have sl := Same.put (o := .lst (cutV ((a :: r).map (·.1)) (some 1) none)) hn; ⟨a.1, a.2, l, r, rfl, .inr (SqL.of (by rw [upd_same]; exact congrArg _ (congrArg _ (cut1 a.1 (r.map fun (c : V × PyData) => c.1))))), ta.kn.same sl, fun c hc => (tr c hc).same sl, hl2, fun e H' o dx t s e1 e2 => q1 e o H' (sl.trans s), fun k v d e H' dd s hdd ex => q2 k v d e H' dd (sl.trans s) (sl.free hdd) ex⟩)⟩) (fun h => absurd h (by decide))⟩⟩⟩⟩⟩⟩⟩⟩
  | work a b r =>
    have ta := th a (by simp)
    have tb := th b (by simp)
    have tr : ∀ c ∈ r, Knd K H c.1 := fun c hc => (th c (by simp [hc])).kn
    have hl2 : r.length ≤ 1000 := by
      have : (a :: b :: r).length = r.length + 2 := rfl
      omega
    exact .inl ⟨rfl, zite (fun h => absurd h (by decide)) fun _ => .inl ⟨rfl, zite (fun h => absurd h (by decide)) fun _ => .inl ⟨rfl, zite (fun h => absurd h (by decide)) fun _ => .inl ⟨rfl, zite (fun h => absurd h (by decide)) fun _ => .inl ⟨rfl, zite (fun h => absurd h (by decide)) fun _ => .inl ⟨rfl, zite (fun h => absurd h (by decide)) fun _ => .inl ⟨rfl, zite (fun h => absurd h (by decide)) fun _ => .inl ⟨rfl, zite (fun h => absurd h (by decide)) fun _ => ⟨rfl, _, a.1, .inl hp, at0, _, b.1, .inl hp, at1, 2, rfl, p, _, rfl, hp, fun l hn => (have sl := Same.put (o := .lst (cutV ((a :: b :: r).map (·.1)) (some 2) none)) hn; ⟨a.1, b.1, a.2, b.2, l, r, rfl, .inr (SqL.of (by rw [upd_same]; exact congrArg _ (congrArg _ (cut2 a.1 b.1 (r.map fun (c : V × PyData) => c.1))))), ta.kn.same sl, tb.kn.same sl, fun c hc => (tr c hc).same sl, hl2, fun e H' o dx t s e1 e2 => q1 e o H' (sl.trans s), fun k v d e H' dd s hdd ex => q2 k v d e H' dd (sl.trans s) (sl.free hdd) ex⟩)⟩⟩⟩⟩⟩⟩⟩⟩⟩
theorem ok_law_made {P : Program} {w : World} {K : PySem.W.Frag} {mg : Str → Option Value} {base : Heap} {g : Ads} (T : Txt K mg g) : FnZ P w K mg base 8 g.f_law_made g.d_law_made ["word", "parts"] (sp_law_made K g) := (raw_law_made T).imp (pf_law_made T)
end Z
namespace Z
open PySem PySem.Spec PyProof.Rows L2
theorem sc_law_told : FnScope ["word", "parts", "e", "is_one"] ["word", "parts"] (defScope s_law_told) := ⟨rfl, rfl, rfl, by decide +kernel, rfl, by decide +kernel, by decide +kernel⟩
def R_law_told_11 (K : PySem.W.Frag) (g : Ads) (E : XK) : TS :=
  (tRet (tLst (tCons (tC (.str "made")) tNil)))
def R_law_told (K : PySem.W.Frag) (g : Ads) (E : XK) : TS :=
  (tSeq (fun D σ H => (fun W => (tDrop (zCall (sp_law_made K g) [] (WE W) (tCons (zVar 0) (tCons (zVar 1) tNil))))) (wAsVs K [(.ref g.c_BadName, 2, (tSeq (tAsg (zAndV (tCB (rIsV K) (tCons (zVar 2) (tCons (tC (.ty "ValueError")) tNil))) (zNotV (tCB (rIsV K) (tCons (zVar 2) (tCons (tC (.ref g.c_BadValue)) tNil))))) (gName 3))
  (tRet (tLst (tCons (tC (.str "BadName")) (tCons (tXv g.c_BadName "name" (zVar 2)) (tCons (tCB (zRepr K) (tCons (tXv g.c_BadName "name" (zVar 2)) tNil)) (tCons (zVar 3) tNil)))))))), (.ref g.c_BadValue, 2, (tRet (tLst (tCons (tC (.str "BadValue")) (tCons (tXv g.c_BadValue "value" (zVar 2)) (tCons (tCB (zRepr K) (tCons (tXv g.c_BadValue "value" (zVar 2)) tNil)) (tCons (tCB (rIsV K) (tCons (zVar 2) (tCons (tC (.ty "ValueError")) tNil))) tNil))))))), (.ref g.c_TooMany, 2, (tSeq (tAsg (zAndV (tCB (rIsV K) (tCons (zVar 2) (tCons (tC (.ty "OverflowError")) tNil))) (zNotV (tCB (rIsV K) (tCons (zVar 2) (tCons (tC (.ty "ValueError")) tNil))))) (gName 3))
  (tRet (tLst (tCons (tC (.str "TooMany")) (tCons (tXv g.c_TooMany "limit" (zVar 2)) (tCons (tCB (zRepr K) (tCons (tXv g.c_TooMany "limit" (zVar 2)) tNil)) (tCons (zVar 3) tNil))))))))] D) D σ H)
  (R_law_told_11 K g E))
def rw_law_told (K : PySem.W.Frag) (g : Ads) : Sp := fun vs H Q E => vs.length = 2 ∧ R_law_told K g E { nx := fun _ H' => Q .non H', rt := Q } (start ["word", "parts", "e", "is_one"] vs) H
theorem raw_law_told {P : Program} {w : World} {K : PySem.W.Frag} {mg : Str → Option Value} {base : Heap} {g : Ads} (T : Txt K mg g) : FnG true P w K mg base 9 g.f_law_told g.d_law_told ["word", "parts"] (rw_law_told K g) := by
  refine okZ T.f_law_told sc_law_told (fun vs H Q E h => h.1) (fun cdv A outer s H vs Q E hr hgu h => ⟨R_law_told K g E, ?_, h.2⟩)
  exact (pss_cons (ps_try_asVs (tb := fun W => (tDrop (zCall (sp_law_made K g) [] (WE W) (tCons (zVar 0) (tCons (zVar 1) tNil))))) (cs := [(.ref g.c_BadName, 2, (tSeq (tAsg (zAndV (tCB (rIsV K) (tCons (zVar 2) (tCons (tC (.ty "ValueError")) tNil))) (zNotV (tCB (rIsV K) (tCons (zVar 2) (tCons (tC (.ref g.c_BadValue)) tNil))))) (gName 3))
  (tRet (tLst (tCons (tC (.str "BadName")) (tCons (tXv g.c_BadName "name" (zVar 2)) (tCons (tCB (zRepr K) (tCons (tXv g.c_BadName "name" (zVar 2)) tNil)) (tCons (zVar 3) tNil)))))))), (.ref g.c_BadValue, 2, (tRet (tLst (tCons (tC (.str "BadValue")) (tCons (tXv g.c_BadValue "value" (zVar 2)) (tCons (tCB (zRepr K) (tCons (tXv g.c_BadValue "value" (zVar 2)) tNil)) (tCons (tCB (rIsV K) (tCons (zVar 2) (tCons (tC (.ty "ValueError")) tNil))) tNil))))))), (.ref g.c_TooMany, 2, (tSeq (tAsg (zAndV (tCB (rIsV K) (tCons (zVar 2) (tCons (tC (.ty "OverflowError")) tNil))) (zNotV (tCB (rIsV K) (tCons (zVar 2) (tCons (tC (.ty "ValueError")) tNil))))) (gName 3))
  (tRet (tLst (tCons (tC (.str "TooMany")) (tCons (tXv g.c_TooMany "limit" (zVar 2)) (tCons (tCB (zRepr K) (tCons (tXv g.c_TooMany "limit" (zVar 2)) tNil)) (tCons (zVar 3) tNil))))))))]) rfl rfl sc_law_told.nd
  (fun W pn xe tk po => (pss_one (ps_expr (pe_callZ (ok_law_made T) (hr.mono (by decide)) hgu rfl T.g_law_made T.k_law_made T.e_law_made .nil (fun σ => passAt tk σ) (pa_cons (zv 0) (pa_cons (zv 1) pa_nil))))))
  (.cons rfl rfl ⟨rfl, by decide, Or.inl T.g_BadName⟩ (fun a pn => (pss_cons (ps_set (i := 3) sc_law_told.nd rfl (Or.inl rfl) (pez_and (pe_callB call_isV (by rfl) T.b_isinstance (by decide +kernel) (pa_cons (zv 2) (pa_cons (pe_bltn (by rfl) T.b_ValueError (by decide +kernel) rfl) pa_nil))) (pe_one (pez_not (pe_callB call_isV (by rfl) T.b_isinstance (by decide +kernel) (pa_cons (zv 2) (pa_cons (pe_glob rfl T.g_BadValue rfl) pa_nil)))))))
  (pss_one (ps_ret (pe_lst (pa_cons pe_str (pa_cons (pe_xv T.xv_BadName T.a_BadName_name (zv 2)) (pa_cons (pe_callB (call_reprZ (hgu rfl) hr.units) (by rfl) T.b_repr (by decide +kernel) (pa_cons (pe_xv T.xv_BadName T.a_BadName_name (zv 2)) pa_nil)) (pa_cons (zv 3) pa_nil)))))))))
  (.cons rfl rfl ⟨rfl, by decide, Or.inl T.g_BadValue⟩ (fun a pn => (pss_one (ps_ret (pe_lst (pa_cons pe_str (pa_cons (pe_xv T.xv_BadValue T.a_BadValue_value (zv 2)) (pa_cons (pe_callB (call_reprZ (hgu rfl) hr.units) (by rfl) T.b_repr (by decide +kernel) (pa_cons (pe_xv T.xv_BadValue T.a_BadValue_value (zv 2)) pa_nil)) (pa_cons (pe_callB call_isV (by rfl) T.b_isinstance (by decide +kernel) (pa_cons (zv 2) (pa_cons (pe_bltn (by rfl) T.b_ValueError (by decide +kernel) rfl) pa_nil))) pa_nil))))))))
  (.cons rfl rfl ⟨rfl, by decide, Or.inl T.g_TooMany⟩ (fun a pn => (pss_cons (ps_set (i := 3) sc_law_told.nd rfl (Or.inl rfl) (pez_and (pe_callB call_isV (by rfl) T.b_isinstance (by decide +kernel) (pa_cons (zv 2) (pa_cons (pe_bltn (by rfl) T.b_OverflowError (by decide +kernel) rfl) pa_nil))) (pe_one (pez_not (pe_callB call_isV (by rfl) T.b_isinstance (by decide +kernel) (pa_cons (zv 2) (pa_cons (pe_bltn (by rfl) T.b_ValueError (by decide +kernel) rfl) pa_nil)))))))
  (pss_one (ps_ret (pe_lst (pa_cons pe_str (pa_cons (pe_xv T.xv_TooMany T.a_TooMany_limit (zv 2)) (pa_cons (pe_callB (call_reprZ (hgu rfl) hr.units) (by rfl) T.b_repr (by decide +kernel) (pa_cons (pe_xv T.xv_TooMany T.a_TooMany_limit (zv 2)) pa_nil)) (pa_cons (zv 3) pa_nil)))))))))
  .nil))) (by simp))
  (pss_one (ps_ret (pe_lst (pa_cons pe_str pa_nil)))))
theorem sc_law_due : FnScope ["roles", "parts", "odd", "is_many", "k", "part"] ["roles", "parts", "odd", "is_many"] (defScope s_law_due) := ⟨rfl, rfl, rfl, by decide +kernel, rfl, by decide +kernel, by decide +kernel⟩
def R_law_due_3 (K : PySem.W.Frag) (g : Ads) (E : XK) : TS :=
  (tRet (tLst (tCons (tIf (zTest (tOp (zEq K) (tOp (zIx K) (zVar 0) (zVar 4)) (tC (.str "n")))) (tC (.str "BadName")) (tC (.str "BadValue"))) (tCons (zVar 5) (tCons (tCB (zRepr K) (tCons (zVar 5) tNil)) (tCons (tC (.bl true)) tNil))))))
def R_law_due_2 (K : PySem.W.Frag) (g : Ads) (E : XK) : TS :=
  (tIfS (zTru K (tOp (zIx K) (zVar 2) (zVar 4)))
  (R_law_due_3 K g E)
  tNext)
def R_law_due_4 (K : PySem.W.Frag) (g : Ads) (E : XK) : TS :=
  (tRet (tIf (zTru K (zVar 3)) (tLst (tCons (tC (.str "TooMany")) (tCons (tC (.int 3)) (tCons (tC (.str "3")) (tCons (tC (.bl true)) tNil))))) (tLst (tCons (tC (.str "made")) tNil))))
def R_law_due (K : PySem.W.Frag) (g : Ads) (E : XK) : TS :=
  (tSeq (zFor (zEnum K (tCons (zVar 1) tNil)) (gTup K 2 (gCons (gName 4) (gCons (gName 5) gNil)))
  (R_law_due_2 K g E))
  (R_law_due_4 K g E))
def rw_law_due (K : PySem.W.Frag) (g : Ads) : Sp := fun vs H Q E => vs.length = 4 ∧ R_law_due K g E { nx := fun _ H' => Q .non H', rt := Q } (start ["roles", "parts", "odd", "is_many", "k", "part"] vs) H
theorem raw_law_due {P : Program} {w : World} {K : PySem.W.Frag} {mg : Str → Option Value} {base : Heap} {g : Ads} (T : Txt K mg g) : FnG true P w K mg base 1 g.f_law_due g.d_law_due ["roles", "parts", "odd", "is_many"] (rw_law_due K g) := by
  refine okZ T.f_law_due sc_law_due (fun vs H Q E h => h.1) (fun cdv A outer s H vs Q E hr hgu h => ⟨R_law_due K g E, ?_, h.2⟩)
  exact (pss_cons (psz_for PassesOwn.leaving rfl (pi_zEnum (by rfl) T.b_enumerate (pa_cons (zv 1) pa_nil)) (pg_tup rfl (pgs_cons (pg_name (i := 4) sc_law_due.nd rfl (Or.inl rfl)) (pgs_cons (pg_name (i := 5) sc_law_due.nd rfl (Or.inl rfl)) pgs_nil)))
  (pss_one (ps_if (ptz_truth (pe_ix ix_z (zv 2) (zv 4) (fun _ _ => rfl)) (by intro _; rfl))
  (pss_one (ps_ret (pe_lst (pa_cons (pe_ifExp (ptz_cmp (op_zEq hr.units) (pe_ix ix_z (zv 0) (zv 4) (fun _ _ => rfl)) pe_str (nomark _)) pe_str pe_str) (pa_cons (zv 5) (pa_cons (pe_callB (call_reprZ (hgu rfl) hr.units) (by rfl) T.b_repr (by decide +kernel) (pa_cons (zv 5) pa_nil)) (pa_cons pe_bl pa_nil)))))))
  pss_nil)))
  (pss_one (ps_ret (pe_ifExp (ptz_truth (zv 3) (by intro _; rfl)) (pe_lst (pa_cons pe_str (pa_cons pe_int (pa_cons pe_str (pa_cons pe_bl pa_nil))))) (pe_lst (pa_cons pe_str pa_nil))))))
def toldL : Out → List V
  | .ok => [.str "made"]
  | .err k v d => [.str k.n, v, .str d.shown, .bl true]
def sp_law_told (K : PySem.W.Frag) (g : Ads) : Sp := fun vs H Q E => ∃ (wd : Str) (p : Addr) (cs : List (V × PyData)) (o : Out), vs = [.str wd, .ref p] ∧ SqL K H p (cs.map (·.1)) ∧ (∀ c ∈ cs, Thing K H c.1 c.2) ∧ cs.length ≤ 100 ∧ Req wd cs o ∧
  (∀ k v d, o = .err k v d → DpR K H v d ∧ FitX d) ∧ ∀ l H', Same H H' → H' l = some (.lst (toldL o)) → Q (.ref l) H'
theorem look1 (f : Str) (v : V) : [(f, v)].lookup f = some v := by simp [List.lookup]
theorem pf_law_told {K : PySem.W.Frag} {mg : Str → Option Value} {g : Ads} (T : Txt K mg g) (vs : List V) (H : Hp) (Q : VK) (E : XK) (h : sp_law_told K g vs H Q E) : rw_law_told K g vs H Q E := by
  obtain ⟨wd, p, cs, o, rfl, hp, th, hl, hr, hd, q⟩ := h
  refine ⟨rfl, wd, p, cs, o, rfl, hp, th, hl, hr, fun eo a H' s => ⟨show 1 ≤ sizeLine by decide, fun l hl' => q l _ (s.trans (Same.put hl')) (by rw [upd_same, eo]; rfl)⟩, fun k v d eo H' dd s hdd ex => ?_⟩
  obtain ⟨dp, fx⟩ := hd k v d eo
  have fin : ∀ (a : Addr) (C : Addr) (ha : H' a = none) (H2 : Hp), H2 = upd H' a (ExV (.ref C) (some dd) a) → ∀ l, H2 l = none → ∀ H3, H3 = upd H2 l (.lst [.str k.n, v, .str d.shown, .bl true]) → Q (.ref l) H3 := by
    rintro a C ha H2 rfl l hl2 H3 rfl
    refine q l _ ((s.trans (Same.put ha)).trans (Same.put hl2)) ?_
    rw [upd_same, eo]
    rfl
  have dp2 : ∀ (a C : Addr), H' a = none → DpR K (upd H' a (ExV (.ref C) (some dd) a)) v d := fun a C ha => dp.same (s.trans (Same.put ha))
  have xa : ∀ (a C : Addr), H' a = none → ExA (upd H' a (ExV (.ref C) (some dd) a)) a C [(k.f, v)] := fun a C ha => ⟨dd, upd_same, by rw [upd_ne (ne_of_none ex ha)]; exact ex⟩
  have dep : d.depth ≤ 32 := Nat.le_trans fx.dp (by decide)
  cases k with
  | nm =>
    refine .inl ⟨T.h_BadName, fun a ha => ?_⟩
    have x := xa a g.c_BadName ha
    refine ⟨a, _, _, .ty "ValueError", .type "ValueError", true, rfl, x, T.xv_BadName, .ty _, T.kx_BadName_ValueError, a, _, _, .ref g.c_BadValue, .ref g.c_BadValue, false, rfl, x, T.xv_BadName, .own _, T.kx_BadName_BadValue, ?_⟩
    refine ⟨a, _, v, rfl, x, look1 _ _, a, _, v, rfl, x, look1 _ _, v, d, rfl, dp2 a _ ha, fx.sh, dep, fx.le, ⟨show 4 ≤ sizeLine by decide, fun l hl2 => ?_⟩⟩
    exact fin a _ ha _ rfl l hl2 _ rfl
  | vl =>
    refine .inr ⟨T.hx_BadValue_BadName, .inl ⟨T.h_BadValue, fun a ha => ?_⟩⟩
    have x := xa a g.c_BadValue ha
    refine ⟨a, _, v, rfl, x, look1 _ _, a, _, v, rfl, x, look1 _ _, v, d, rfl, dp2 a _ ha, fx.sh, dep, fx.le, a, _, _, .ty "ValueError", .type "ValueError", true, rfl, x, T.xv_BadValue, .ty _, T.kx_BadValue_ValueError, ⟨show 4 ≤ sizeLine by decide, fun l hl2 => ?_⟩⟩
    exact fin a _ ha _ rfl l hl2 _ rfl
  | mn =>
    refine .inr ⟨T.hx_TooMany_BadName, .inr ⟨T.hx_TooMany_BadValue, .inl ⟨T.h_TooMany, fun a ha => ?_⟩⟩⟩
    have x := xa a g.c_TooMany ha
    refine ⟨a, _, _, .ty "OverflowError", .type "OverflowError", true, rfl, x, T.xv_TooMany, .ty _, T.kx_TooMany_OverflowError, a, _, _, .ty "ValueError", .type "ValueError", false, rfl, x, T.xv_TooMany, .ty _, T.kx_TooMany_ValueError, ?_⟩
    refine ⟨a, _, v, rfl, x, look1 _ _, a, _, v, rfl, x, look1 _ _, v, d, rfl, dp2 a _ ha, fx.sh, dep, fx.le, ⟨show 4 ≤ sizeLine by decide, fun l hl2 => ?_⟩⟩
    exact fin a _ ha _ rfl l hl2 _ rfl
theorem ok_law_told {P : Program} {w : World} {K : PySem.W.Frag} {mg : Str → Option Value} {base : Heap} {g : Ads} (T : Txt K mg g) : FnZ P w K mg base 9 g.f_law_told g.d_law_told ["word", "parts"] (sp_law_told K g) := (raw_law_told T).imp (pf_law_told T)
/-- what is due: the first odd part -/
def dueO : List Nat → List (V × PyData) → List Bool → Bool → Out
  | r :: rs, c :: cs, b :: bs, many => if b = true then .err (if r = 110 then .nm else .vl) c.1 c.2 else dueO rs cs bs many
  | _, _, _, many => if many = true then .err .mn (.int 3) (.int 3) else .ok
theorem dueO_at : ∀ {rs : List Nat} {cs : List (V × PyData)} {bs : List Bool} {many : Bool} {i r : Nat} {c : V × PyData}, (∀ j, j < i → bs[j]? = some false) → bs[i]? = some true → rs[i]? = some r → cs[i]? = some c → dueO rs cs bs many = .err (if r = 110 then .nm else .vl) c.1 c.2
  | [], _, _, _, i, r, c, _, _, h, _ => by simp at h
  | _ :: _, [], _, _, i, r, c, _, _, _, h => by simp at h
  | _ :: _, _ :: _, [], _, i, r, c, _, h, _, _ => by simp at h
  | r0 :: rs, c0 :: cs, b0 :: bs, many, 0, r, c, h0, h1, h2, h3 => by
    cases h1
    cases h2
    cases h3
    rfl
  | r0 :: rs, c0 :: cs, b0 :: bs, many, i + 1, r, c, h0, h1, h2, h3 => by
    have e : b0 = false := by
      have := h0 0 (by omega)
      simpa using this
    subst e
    show dueO rs cs bs many = _
    exact dueO_at (i := i) (fun j hj => by simpa using h0 (j + 1) (by omega)) (by simpa using h1) (by simpa using h2) (by simpa using h3)
theorem dueO_end : ∀ {rs : List Nat} {cs : List (V × PyData)} {bs : List Bool} {many : Bool}, (∀ j, j < bs.length → bs[j]? = some false) → dueO rs cs bs many = if many = true then .err .mn (.int 3) (.int 3) else .ok
  | [], _, _, _, _ => rfl
  | _ :: _, [], _, _, _ => rfl
  | _ :: _, _ :: _, [], _, _ => rfl
  | r0 :: rs, c0 :: cs, b0 :: bs, many, h => by
    have e : b0 = false := by
      have := h 0 (by simp)
      simpa using this
    subst e
    show dueO rs cs bs many = _
    exact dueO_end fun j hj => by
      have := h (j + 1) (by simpa using hj)
      simpa using this
def sp_law_due (K : PySem.W.Frag) (g : Ads) : Sp := fun vs H Q E => ∃ (z : Str) (p o : Addr) (cs : List (V × PyData)) (bs : List Bool) (many : Bool), vs = [.str z, .ref p, .ref o, .bl many] ∧ SqL K H p (cs.map (·.1)) ∧ SqL K H o (bs.map V.bl) ∧ (∀ c ∈ cs, Thing K H c.1 c.2) ∧
  cs.length ≤ 100 ∧ bs.length = cs.length ∧ z.cps.toList.length = cs.length ∧ ∀ l H', Same H H' → H' l = some (.lst (toldL (dueO z.cps.toList cs bs many))) → Q (.ref l) H'
theorem pf_law_due {K : PySem.W.Frag} {g : Ads} (vs : List V) (H : Hp) (Q : VK) (E : XK) (h : sp_law_due K g vs H Q E) : rw_law_due K g vs H Q E := by
  obtain ⟨z, p, o, cs, bs, many, rfl, hp, ho, th, hl, lb, lz, q⟩ := h
  refine ⟨rfl, p, _, rfl, .inl ⟨hp, for_z (walk_enum (xs := cs.map (·.1))) (fun i σ H' => Same H H' ∧ (∀ j, j < i → bs[j]? = some false) ∧ ∃ v4 v5, σ = [some (.str z), some (.ref p), some (.ref o), some (.bl many), v4, v5]) ⟨Same.refl H, fun j hj => absurd hj (Nat.not_lt_zero _), _, _, rfl⟩
    (fun i σ H' _ hh => hh.1.seq hp) ?_ ?_⟩⟩
  · rintro i x σ H1 H2 hi ⟨s1, hb, v4, v5, rfl⟩ ⟨T1, x1, x2, rfl, hT, rfl, f1, f2⟩
    cases f1
    have f2 : (cs.map (·.1))[i]? = some x2 := f2
    rw [List.getElem?_map] at f2
    cases e : cs[i]? with
    | none =>
      rw [e] at f2
      cases f2
    | some c =>
      rw [e] at f2
      cases f2
      have li : i < cs.length := (List.getElem?_eq_some_iff.mp e).1
      have s2 := Same.put (o := .tup [V.int (i : Nat), c.1]) hT
      have s12 := s1.trans s2
      have eb : bs[i]? = some bs[i] := List.getElem?_eq_getElem (by omega)
      have tc := (th c (List.mem_of_getElem? e)).same s12
      refine ⟨T1, _, rfl, SqT.of upd_same, rfl, _, _, rfl, _, _, rfl, rfl, ⟨_, .bl bs[i], .inl (s12.seq ho), atI_nat (by rw [List.getElem?_map, eb]; rfl), zite (fun hbi => ?_) (fun hbi => ?_)⟩⟩
      · have lz' : i < z.cps.toList.length := by omega
        have er : z.cps.toList[i]? = some z.cps.toList[i] := List.getElem?_eq_getElem lz'
        have ed := dueO_at (rs := z.cps.toList) (cs := cs) (bs := bs) (many := many) (i := i) (r := z.cps.toList[i]) (c := c) hb (by rw [eb, hbi]) er e
        have fin : ∀ k : EK, (if z.cps.toList[i] = 110 then EK.nm else EK.vl) = k → zRepr K [c.1] (upd H1 T1 (.tup [V.int (i : Nat), c.1])) fun y H3 => 4 ≤ sizeLine ∧ ∀ l, H3 l = none → Q (.ref l) (upd H3 l (.lst [.str k.n, c.1, y, .bl true])) := by
          intro k hk
          refine ⟨c.1, c.2, rfl, tc.dp, tc.fx.sh, Nat.le_trans tc.fx.dp (by decide), tc.fx.le, by decide, fun l hl3 => q l _ (s12.trans (Same.put hl3)) ?_⟩
          rw [upd_same, ed, hk]
          rfl
        refine ⟨?_, z.cps.toList[i], atI_nat er, .inl ⟨rfl, zite (fun hn => ?_) (fun hn => ?_)⟩⟩
        · have : z.length = z.cps.toList.length := rfl
          rw [this, lz]
          exact Nat.le_trans hl (by decide)
        · refine fin .nm ?_
          have : z.cps.toList[i] = 110 := by
            have h2 : V.str ⟨#[z.cps.toList[i]]⟩ = V.str "n" := of_decide_eq_true hn
            have h3 : (⟨#[z.cps.toList[i]]⟩ : Str) = "n" := by injection h2
            have h4 := congrArg Str.cps h3
            have h5 : ("n" : Str).cps = #[110] := by decide +kernel
            rw [h5] at h4
            simpa using h4
          rw [if_pos this]
        · refine fin .vl ?_
          have : ¬ z.cps.toList[i] = 110 := by
            intro h2
            have h3 : ¬ V.str ⟨#[z.cps.toList[i]]⟩ = V.str "n" := of_decide_eq_false hn
            refine h3 ?_
            rw [h2]
            have h5 : ("n" : Str) = ⟨#[110]⟩ := by decide +kernel
            rw [h5]
          rw [if_neg this]
      · refine ⟨s12, fun j hj => ?_, _, _, rfl⟩
        by_cases hji : j = i
        · rw [hji, eb, hbi]
        · exact hb j (by omega)
  · rintro σ H1 ⟨s1, hb, v4, v5, rfl⟩
    have ed := dueO_end (rs := z.cps.toList) (cs := cs) (bs := bs) (many := many) fun j hj => hb j (by rw [List.length_map]; omega)
    refine zite (fun hm => ?_) (fun hm => ?_)
    · refine ⟨show 4 ≤ sizeLine by decide, fun l hl3 => q l _ (s1.trans (Same.put hl3)) ?_⟩
      rw [upd_same, ed, if_pos hm]
      rfl
    · refine ⟨show 1 ≤ sizeLine by decide, fun l hl3 => q l _ (s1.trans (Same.put hl3)) ?_⟩
      rw [upd_same, ed, if_neg (by rw [hm]; decide)]
      rfl
theorem ok_law_due {P : Program} {w : World} {K : PySem.W.Frag} {mg : Str → Option Value} {base : Heap} {g : Ads} (T : Txt K mg g) : FnZ P w K mg base 1 g.f_law_due g.d_law_due ["roles", "parts", "odd", "is_many"] (sp_law_due K g) := (raw_law_due T).imp pf_law_due
end Z
namespace Z
open PySem PySem.Spec PyProof.Rows L2
/-- what is new since H -/
def nwr (H H' : Hp) : Hp := fun b => match H b with | none => H' b | some _ => none
theorem nwr_at {H H' : Hp} {a : Addr} {o : HO} (n : H a = none) (e : H' a = some o) : nwr H H' a = some o := by
  unfold nwr
  rw [n]
  exact e
theorem nwr_of {H H' : Hp} {a : Addr} {o : HO} (e : nwr H H' a = some o) : H a = none ∧ H' a = some o := by
  unfold nwr at e
  cases h : H a with
  | none =>
    rw [h] at e
    exact ⟨rfl, e⟩
  | some u =>
    rw [h] at e
    cases e
theorem nwr_hid {S : List Addr} {H H' : Hp} (h : ∀ s ∈ S, H s ≠ none) : Same (nwr H H') (hid S H') := fun b o e => hid_at (fun z => h _ z (nwr_of e).1) (nwr_of e).2
theorem DeckAt.some {H : Hp} {p wa : Addr} (d : DeckAt H p wa) : ∃ o, H p = Option.some o := by
  obtain ⟨c, m, t, ws, h1, h2, h3, h4⟩ := d
  exact ⟨_, h1⟩
theorem DeckAt.wa {H : Hp} {p wa : Addr} (d : DeckAt H p wa) : ∃ o, H wa = Option.some o := by
  obtain ⟨c, m, t, ws, h1, h2, h3, h4⟩ := d
  exact ⟨_, h2⟩
theorem DeckAt.put {H : Hp} {p wa w : Addr} {o : HO} (d : DeckAt H p wa) (n1 : p ≠ w) (n2 : wa ≠ w) : DeckAt (upd H w o) p wa := by
  obtain ⟨c, m, t, ws, h1, h2, h3, h4⟩ := d
  exact ⟨c, m, t, ws, by rw [upd_ne n1]; exact h1, by rw [upd_ne n2]; exact h2, h3, h4⟩
/-! ### things by their kinds -/
theorem fit_int {i : Int} (h1 : -1000000000000000000000 < i) (h2 : i < 1000000000000000000000) : FitX (.int i) := by
  have la : i.natAbs < 10 ^ 21 := by omega
  have lg : i.natAbs.log2 < 70 := by
    by_cases h0 : i.natAbs = 0
    · rw [h0]
      decide
    · exact (Nat.log2_lt h0).mpr (show i.natAbs < 2 ^ 70 by omega)
  refine ⟨?_, ?_, ?_, by simp [PyData.depth]⟩
  · exact decide_eq_true (Nat.lt_trans lg (by decide))
  · refine decide_eq_true ?_
    have := int_text_length_le10 (a := i) (k := 21) (by decide) la
    show (Str.ofString (toString i)).length ≤ 22
    rw [PySem.ofString_length]
    omega
  · simp only [PyData.weight]
    split <;> omega
theorem fit_str {z : Str} (h : z.length ≤ 60) (a : Asc z) : FitX (.str z) := by
  refine ⟨rfl, ?_, ?_, by simp [PyData.depth]⟩
  · simp only [PyData.leavesShort, List.all_eq_true, decide_eq_true_eq]
    exact fun c hc => Nat.lt_trans (a c hc) (by decide)
  · simp only [PyData.weight]
    exact Nat.le_trans (show _ ≤ 61 by have : z.cps.size = z.length := rfl; omega) (by decide)
theorem ee_dp {K : PySem.W.Frag} {H : Hp} {v : V} {d : PyData} (h : Dp K H v d) (s : SeqAt.shaped d = true) (e : PyData.eqv d (.tuple []) = false) : EqE K H v false := .inl ⟨d, h, s, e⟩
theorem th_non {K : PySem.W.Frag} {H : Hp} : Thing K H .non .none := ⟨trivial, .inl ⟨.non, rfl⟩, ⟨rfl, rfl, by simp [PyData.weight], by simp [PyData.depth]⟩, ee_dp .non rfl (by simp [PyData.eqv])⟩
theorem th_bl {K : PySem.W.Frag} {H : Hp} (b : Bool) : Thing K H (.bl b) (.bool b) := ⟨trivial, .inl ⟨.bl b, rfl⟩, by cases b <;> exact ⟨rfl, by decide +kernel, by decide +kernel, by decide +kernel⟩, ee_dp (.bl b) rfl (by simp [PyData.eqv])⟩
theorem th_int {K : PySem.W.Frag} {H : Hp} {i : Int} (h1 : -1000000000000000000000 < i) (h2 : i < 1000000000000000000000) : Thing K H (.int i) (.int i) := ⟨trivial, .inl ⟨.int i, rfl⟩, fit_int h1 h2, ee_dp (.int i) rfl (by simp [PyData.eqv])⟩
theorem asc_ok {z : Str} (a : Asc z) : SeqAt.shaped (.str z) = true := by
  have e : PyData.strOk z = true := by
    unfold PyData.strOk
    rw [Array.all_eq_true]
    intro i hi
    refine decide_eq_true (Nat.lt_trans (a z.cps[i] ?_) (by decide))
    simp
  simp [SeqAt.shaped, PyData.canLay0, PyData.depth, e]
theorem th_str {K : PySem.W.Frag} {H : Hp} {z : Str} (h : z.length ≤ 60) (a : Asc z) : Thing K H (.str z) (.str z) := ⟨show z.length ≤ 1000 by omega, .inl ⟨.str z, rfl⟩, fit_str h a, ee_dp (.str z) (asc_ok a) (by simp [PyData.eqv])⟩
theorem th_lst0 {K : PySem.W.Frag} {H : Hp} {a : Addr} (h : H a = some (.lst [])) : Thing K H (.ref a) (.list []) := ⟨⟨.list, _, SqL.of h⟩, .inl ⟨.lst (SqL.of h) .nil, rfl⟩, ⟨rfl, rfl, by decide +kernel, by decide +kernel⟩, ee_dp (.lst (SqL.of h) .nil) rfl (by simp [PyData.eqv])⟩
theorem th_lst1 {K : PySem.W.Frag} {H : Hp} {a : Addr} {v : V} {d : PyData} (h : H a = some (.lst [v])) (e : Dp K H v d) (nd : d.hasDict = false) (s : SeqAt.shaped (.list [d]) = true) (f : FitX (.list [d])) : Thing K H (.ref a) (.list [d]) :=
  ⟨⟨.list, _, SqL.of h⟩, .inl ⟨.lst (SqL.of h) (.cons e .nil), by simp [PyData.hasDict, PyData.hasDictAll, nd]⟩, f, ee_dp (.lst (SqL.of h) (.cons e .nil)) s (by simp [PyData.eqv])⟩
theorem th_tup1 {K : PySem.W.Frag} {H : Hp} {a : Addr} {v : V} {d : PyData} (h : H a = some (.tup [v])) (e : Dp K H v d) (nd : d.hasDict = false) (s : SeqAt.shaped (.tuple [d]) = true) (f : FitX (.tuple [d])) : Thing K H (.ref a) (.tuple [d]) :=
  ⟨⟨.tuple, _, SqT.of h⟩, .inl ⟨.tup (SqT.of h) (.cons e .nil), by simp [PyData.hasDict, PyData.hasDictAll, nd]⟩, f, ee_dp (.tup (SqT.of h) (.cons e .nil)) s (by simp [PyData.eqv, PyData.eqvAll])⟩
theorem th_dic0 {K : PySem.W.Frag} {H : Hp} {a : Addr} (h : H a = some (.dK [])) : Thing K H (.ref a) (.dict []) := ⟨⟨.dict, .inl ⟨_, h⟩⟩, .inr ⟨_, _, _, rfl, h, rfl, .nil⟩, ⟨by decide +kernel, by decide +kernel, by decide +kernel, by decide +kernel⟩, .inr ⟨_, _, rfl, h, rfl⟩⟩
theorem th_dic1 {K : PySem.W.Frag} {H : Hp} {a : Addr} (h : H a = some (.dK [(.inr "a", .int 1)])) : Thing K H (.ref a) (.dict [(.str "a", .int 1)]) :=
  ⟨⟨.dict, .inl ⟨_, h⟩⟩, .inr ⟨_, _, _, rfl, h, rfl, .cons ⟨rfl, rfl⟩ .nil⟩, ⟨by decide +kernel, by decide +kernel, by decide +kernel, by decide +kernel⟩, .inr ⟨_, _, rfl, h, rfl⟩⟩
theorem mem_abc {c : Nat} (h0 : 97 ≤ c) (h1 : c ≤ 122) : c ∈ ("abcdefghijklmnopqrstuvwxyz" : Str).cps.toList := by
  have e : ("abcdefghijklmnopqrstuvwxyz" : Str).cps.toList = List.range' 97 26 := by decide +kernel
  rw [e]
  simp only [List.mem_range'_1]
  omega
theorem lett_of {z : Str} (h : ∀ c ∈ z.cps.toList, 97 ≤ c ∧ c ≤ 122) : lettB z = true := by
  unfold lettB
  rw [List.all_eq_true]
  intro b hb
  obtain ⟨i, hi, rfl⟩ := List.mem_map.mp hb
  have hi2 : i < z.cps.size := by simpa using hi
  have hm : z.cps.getD i 0 ∈ z.cps.toList := by
    rw [Array.getD_eq_getD_getElem?, Array.getElem?_eq_getElem hi2]
    simp
  obtain ⟨a, b⟩ := h _ hm
  exact decide_eq_true (mem_abc a b)
/-- the names that are drawn -/
theorem nm_ok {ah : Bool} {stem : Str} {first : Int} (k : Nat) (h : Stem stem) (h0 : 0 ≤ first) (h1 : first < 676) : nameB (nmOf ah stem first k) = true ∧ (nmOf ah stem first k).length ≤ 8 ∧ Asc (nmOf ah stem first k) := by
  obtain ⟨l1, st⟩ := h
  obtain ⟨x, hx⟩ : ∃ x : Nat, 97 + ((first + 7 * (k : Int)) % 676 / 26).toNat = x := ⟨_, rfl⟩
  obtain ⟨y, hy⟩ : ∃ y : Nat, 97 + ((first + 7 * (k : Int)) % 676 % 26).toNat = y := ⟨_, rfl⟩
  have x1 : 97 ≤ x ∧ x ≤ 122 := by omega
  have y1 : 97 ≤ y ∧ y ≤ 122 := by omega
  have tw : (twoOf first k).cps.toList = [x, y] := by
    unfold twoOf
    rw [hx, hy]
    rfl
  have ls : (nmOf ah stem first k).cps.toList = if ah = true then [x, y] ++ stem.cps.toList else stem.cps.toList ++ [x, y] := by
    unfold nmOf
    split
    · rw [← tw]
      show ((twoOf first k).cps ++ stem.cps).toList = _
      simp
    · rw [← tw]
      show (stem.cps ++ (twoOf first k).cps).toList = _
      simp
  have l2 : stem.cps.toList.length = stem.length := rfl
  have st : ∀ c ∈ stem.cps.toList, c = 97 ∨ c = 122 ∨ c = 113 ∨ c = 109 := st
  generalize stem.cps.toList = L at ls l2 st
  have lt : ∀ c ∈ (nmOf ah stem first k).cps.toList, 97 ≤ c ∧ c ≤ 122 := by
    intro c hc
    rw [ls] at hc
    have : c = x ∨ c = y ∨ c ∈ L := by
      by_cases e : ah = true
      · rw [if_pos e] at hc
        simpa using hc
      · rw [if_neg e] at hc
        have : c ∈ L ∨ c = x ∨ c = y := by simpa using hc
        rcases this with a | a | a
        · exact .inr (.inr a)
        · exact .inl a
        · exact .inr (.inl a)
    rcases this with e | e | e
    · omega
    · omega
    · have := st c e
      omega
  have ll : (nmOf ah stem first k).length = 2 + stem.length := by
    have : (nmOf ah stem first k).length = (nmOf ah stem first k).cps.toList.length := rfl
    rw [this, ls, ← l2]
    split <;> simp <;> omega
  have nn : nmOf ah stem first k ≠ "none" := by
    intro e
    have e2 : ("none" : Str).cps.toList = [110, 111, 110, 101] := by decide +kernel
    rw [e, e2] at ls
    by_cases ea : ah = true
    · rw [if_pos ea] at ls
      have : L = [110, 101] := by
        simp at ls
        exact ls.2.2.symm
      have := st 110 (by rw [this]; simp)
      omega
    · rw [if_neg ea] at ls
      cases L with
      | nil => simp at ls
      | cons a r =>
        have : a = 110 := by
          simp at ls
          exact ls.1.symm
        have := st a (by simp)
        omega
  refine ⟨?_, by omega, fun c hc => by have := lt c hc; omega⟩
  unfold nameB
  rw [lett_of lt, decide_eq_true (show (1 : Int) ≤ (nmOf ah stem first k).length by omega), decide_eq_true (show ((nmOf ah stem first k).length : Int) ≤ 8 by omega), decide_eq_false nn]
  rfl
end Z
namespace Z
open PySem PySem.Spec PyProof.Rows L2
theorem th_lit {K : PySem.W.Frag} {H : Hp} {z : Str} (h : z.length ≤ 60 ∧ ∀ c ∈ z.cps.toList, c < 128) : Thing K H (.str z) (.str z) := th_str h.1 h.2
def sp_odd (K : PySem.W.Frag) (is : V → Bool) : Sp := fun vs H Q E => ∃ (p wa : Addr), vs = [.ref p] ∧ DeckAt H p wa ∧ ∀ v d H', Thing K (nwr H H') v d → is v = false → DeckAt H' p wa → But p H H' → Q v H'
def sp_law_odd_name (K : PySem.W.Frag) (g : Ads) : Sp := sp_odd K isNameV
def sp_law_odd_operand (K : PySem.W.Frag) (g : Ads) : Sp := sp_odd K isOperV
theorem sc_law_odd_name : FnScope ["deck", "odd"] ["deck"] (defScope s_law_odd_name) := ⟨rfl, rfl, rfl, by decide +kernel, rfl, by decide +kernel, by decide +kernel⟩
def R_law_odd_name_2 (K : PySem.W.Frag) (g : Ads) (E : XK) : TS :=
  (tRet (zCall (sp_law_of K g) [] (WE (fun cls d _ H => E cls d H)) (tCons (zVar 0) (tCons (zVar 1) tNil))))
def R_law_odd_name (K : PySem.W.Frag) (g : Ads) (E : XK) : TS :=
  (tSeq (tAsg (tLst (tCons (tC .non) (tCons (tC (.int 0)) (tCons (tC (.bl true)) (tCons (tC (.str "")) (tCons (tC (.str "none")) (tCons (tC (.str "A")) (tCons (tC (.str "aB")) (tCons (tC (.str "a b")) (tCons (tC (.str "abcdefghi")) (tCons (tC (.str "a1")) (tCons (tC (.str "a ")) (tCons (tLst tNil) (tCons (tLst (tCons (tC (.str "a")) tNil)) (tCons (tTup (tCons (tC (.str "a")) tNil)) (tCons (tDisp [((tC (.str "a")), (tC (.int 1)))]) (tCons (zNeg (tC (.int 7))) (tCons (tC (.str "~")) tNil)))))))))))))))))) (gName 1))
  (R_law_odd_name_2 K g E))
def rw_law_odd_name (K : PySem.W.Frag) (g : Ads) : Sp := fun vs H Q E => vs.length = 1 ∧ R_law_odd_name K g E { nx := fun _ H' => Q .non H', rt := Q } (start ["deck", "odd"] vs) H
theorem raw_law_odd_name {P : Program} {w : World} {K : PySem.W.Frag} {mg : Str → Option Value} {base : Heap} {g : Ads} (T : Txt K mg g) : FnG true P w K mg base 3 g.f_law_odd_name g.d_law_odd_name ["deck"] (rw_law_odd_name K g) := by
  refine okZ T.f_law_odd_name sc_law_odd_name (fun vs H Q E h => h.1) (fun cdv A outer s H vs Q E hr hgu h => ⟨R_law_odd_name K g E, ?_, h.2⟩)
  exact (pss_cons (ps_set (i := 1) sc_law_odd_name.nd rfl (Or.inl rfl) (pe_lst (pa_cons pe_non (pa_cons pe_int (pa_cons pe_bl (pa_cons pe_str (pa_cons pe_str (pa_cons pe_str (pa_cons pe_str (pa_cons pe_str (pa_cons pe_str (pa_cons pe_str (pa_cons pe_str (pa_cons (pe_lst pa_nil) (pa_cons (pe_lst (pa_cons pe_str pa_nil)) (pa_cons (pe_tup (pa_cons pe_str pa_nil)) (pa_cons (pe_disp (pps_cons pe_str pe_int pps_nil) (by rfl) (by rfl) (fun z => by cases z) (by decide)) (pa_cons (pez_neg pe_int) (pa_cons pe_str pa_nil)))))))))))))))))))
  (pss_one (ps_ret (pe_callZ (ok_law_of T) (hr.mono (by decide)) hgu rfl T.g_law_of T.k_law_of T.e_law_of .nil (fun σ => passAt (takes_of rfl rfl rfl rfl) σ) (pa_cons (zv 0) (pa_cons (zv 1) pa_nil))))))
theorem sc_law_odd_operand : FnScope ["deck", "odd"] ["deck"] (defScope s_law_odd_operand) := ⟨rfl, rfl, rfl, by decide +kernel, rfl, by decide +kernel, by decide +kernel⟩
def R_law_odd_operand_2 (K : PySem.W.Frag) (g : Ads) (E : XK) : TS :=
  (tRet (zCall (sp_law_of K g) [] (WE (fun cls d _ H => E cls d H)) (tCons (zVar 0) (tCons (zVar 1) tNil))))
def R_law_odd_operand (K : PySem.W.Frag) (g : Ads) (E : XK) : TS :=
  (tSeq (tAsg (tLst (tCons (tC (.bl true)) (tCons (tC (.bl false)) (tCons (tC (.str "")) (tCons (tC (.str "none")) (tCons (tC (.str "A")) (tCons (tC (.str "a_")) (tCons (tC (.str "abcdefghi")) (tCons (tOp zSub (tOp zPow (tC (.int 10)) (tC (.int 20))) (tC (.int 0))) (tCons (zNeg (tOp zPow (tC (.int 10)) (tC (.int 20)))) (tCons (tLst tNil) (tCons (tLst (tCons (tC (.int 1)) tNil)) (tCons (tTup (tCons (tC (.int 1)) tNil)) (tCons tDNewK (tCons (tDisp [((tC (.str "a")), (tC (.int 1)))]) (tCons (tC (.str "0")) tNil)))))))))))))))) (gName 1))
  (R_law_odd_operand_2 K g E))
def rw_law_odd_operand (K : PySem.W.Frag) (g : Ads) : Sp := fun vs H Q E => vs.length = 1 ∧ R_law_odd_operand K g E { nx := fun _ H' => Q .non H', rt := Q } (start ["deck", "odd"] vs) H
theorem raw_law_odd_operand {P : Program} {w : World} {K : PySem.W.Frag} {mg : Str → Option Value} {base : Heap} {g : Ads} (T : Txt K mg g) : FnG true P w K mg base 3 g.f_law_odd_operand g.d_law_odd_operand ["deck"] (rw_law_odd_operand K g) := by
  refine okZ T.f_law_odd_operand sc_law_odd_operand (fun vs H Q E h => h.1) (fun cdv A outer s H vs Q E hr hgu h => ⟨R_law_odd_operand K g E, ?_, h.2⟩)
  exact (pss_cons (ps_set (i := 1) sc_law_odd_operand.nd rfl (Or.inl rfl) (pe_lst (pa_cons pe_bl (pa_cons pe_bl (pa_cons pe_str (pa_cons pe_str (pa_cons pe_str (pa_cons pe_str (pa_cons pe_str (pa_cons (pe_op op_zSub (pe_op op_zPow pe_int pe_int) pe_int) (pa_cons (pez_neg (pe_op op_zPow pe_int pe_int)) (pa_cons (pe_lst pa_nil) (pa_cons (pe_lst (pa_cons pe_int pa_nil)) (pa_cons (pe_tup (pa_cons pe_int pa_nil)) (pa_cons pe_dnewK (pa_cons (pe_disp (pps_cons pe_str pe_int pps_nil) (by rfl) (by rfl) (fun z => by cases z) (by decide)) (pa_cons pe_str pa_nil)))))))))))))))))
  (pss_one (ps_ret (pe_callZ (ok_law_of T) (hr.mono (by decide)) hgu rfl T.g_law_of T.k_law_of T.e_law_of .nil (fun σ => passAt (takes_of rfl rfl rfl rfl) σ) (pa_cons (zv 0) (pa_cons (zv 1) pa_nil))))))
theorem lit_names : ∀ z ∈ (["", "none", "A", "aB", "a b", "abcdefghi", "a1", "a ", "~"] : List Str), nameB z = false ∧ z.length ≤ 60 ∧ ∀ c ∈ z.cps.toList, c < 128 := by decide +kernel
theorem lit_opers : ∀ z ∈ (["", "none", "A", "a_", "abcdefghi", "0"] : List Str), nameB z = false ∧ z.length ≤ 60 ∧ ∀ c ∈ z.cps.toList, c < 128 := by decide +kernel
theorem fit_odd : FitX (.list [.str "a"]) ∧ FitX (.tuple [.str "a"]) ∧ FitX (.list [.int 1]) ∧ FitX (.tuple [.int 1]) := by
  refine ⟨⟨?_, ?_, ?_, ?_⟩, ⟨?_, ?_, ?_, ?_⟩, ⟨?_, ?_, ?_, ?_⟩, ⟨?_, ?_, ?_, ?_⟩⟩ <;> decide +kernel
def oddN (l1 l2 t d : Addr) : List V := [.non, .int 0, .bl true, .str "", .str "none", .str "A", .str "aB", .str "a b", .str "abcdefghi", .str "a1", .str "a ", .ref l1, .ref l2, .ref t, .ref d, .int (-7), .str "~"]
def oddO (l1 l2 t d1 d2 : Addr) : List V := [.bl true, .bl false, .str "", .str "none", .str "A", .str "a_", .str "abcdefghi", .int (10 ^ (20 : Int).toNat - 0), .int (-(10 ^ (20 : Int).toNat)), .ref l1, .ref l2, .ref t, .ref d1, .ref d2, .str "0"]
theorem pf_law_odd_name {K : PySem.W.Frag} {g : Ads} (vs : List V) (H : Hp) (Q : VK) (E : XK) (h : sp_law_odd_name K g vs H Q E) : rw_law_odd_name K g vs H Q E := by
  obtain ⟨p, wa, rfl, hd, q⟩ := h
  refine ⟨rfl, show 0 ≤ sizeLine by decide, fun l1 h1 => ⟨show 1 ≤ sizeLine by decide, fun l2 h2 => ⟨show 1 ≤ sizeLine by decide, fun t h3 => fun d h4 => ⟨upd_same, [(.inr "a", .int 1)], rfl, by decide, ⟨show 17 ≤ sizeLine by decide, fun o h5 => ?_⟩⟩⟩⟩⟩
  obtain ⟨op, hop⟩ := hd.some
  have u1 := Same.put (o := .lst []) h1
  have u2 := Same.put (o := .lst [.str "a"]) h2
  have u3 := Same.put (o := .tup [.str "a"]) h3
  have u4 := Same.put (o := .dK [(.inr "a", .int 1)]) h4
  rw [upd_upd] at h5
  have u5 := Same.put (o := .lst (oddN l1 l2 t d)) h5
  rw [upd_upd]
  have s4 := ((u1.trans u2).trans u3).trans u4
  have sa : Same H (upd (upd (upd (upd (upd H l1 (.lst [])) l2 (.lst [.str "a"])) t (.tup [.str "a"])) d (.dK [(.inr "a", .int 1)])) o (.lst (oddN l1 l2 t d))) := s4.trans u5
  have no : o ≠ p := (ne_of_none (s4 _ _ hop) h5).symm
  refine ⟨p, wa, o, oddN l1 l2 t d, rfl, hd.same sa, .inl (SqL.of upd_same), no, by simp [oddN], by simp [oddN], fun j x H' hx dk b => ?_⟩
  have ne : ∀ {x : Addr}, H x = none → x ≠ p := fun h z => by rw [z, hop] at h; cases h
  have n2 := u1.free h2
  have n3 := (u1.trans u2).free h3
  have n4 := ((u1.trans u2).trans u3).free h4
  have e1 := nwr_at h1 (b _ _ (u5 _ _ (u4 _ _ (u3 _ _ (u2 _ _ upd_same)))) (ne h1))
  have e2 := nwr_at n2 (b _ _ (u5 _ _ (u4 _ _ (u3 _ _ upd_same))) (ne n2))
  have e3 := nwr_at n3 (b _ _ (u5 _ _ (u4 _ _ upd_same)) (ne n3))
  have e4 := nwr_at n4 (b _ _ (u5 _ _ upd_same) (ne n4))
  have bb : But p H H' := (But.same sa).trans b
  obtain ⟨f1, f2, f3, f4⟩ := fit_odd
  have key : ∃ dd, Thing K (nwr H H') x dd ∧ isNameV x = false := by
    have hm := List.mem_of_getElem? hx
    have st : ∀ z ∈ (["", "none", "A", "aB", "a b", "abcdefghi", "a1", "a ", "~"] : List Str), ∃ dd, Thing K (nwr H H') (.str z) dd ∧ isNameV (.str z) = false := fun z hz => ⟨_, th_lit (lit_names z hz).2, (lit_names z hz).1⟩
    simp only [oddN, List.mem_cons, List.not_mem_nil, or_false] at hm
    rcases hm with rfl | rfl | rfl | rfl | rfl | rfl | rfl | rfl | rfl | rfl | rfl | rfl | rfl | rfl | rfl | rfl | rfl
    · exact ⟨_, th_non, rfl⟩
    · exact ⟨_, th_int (by decide) (by decide), rfl⟩
    · exact ⟨_, th_bl true, rfl⟩
    · exact st _ (by simp)
    · exact st _ (by simp)
    · exact st _ (by simp)
    · exact st _ (by simp)
    · exact st _ (by simp)
    · exact st _ (by simp)
    · exact st _ (by simp)
    · exact st _ (by simp)
    · exact ⟨_, th_lst0 e1, rfl⟩
    · exact ⟨_, th_lst1 e2 (.str "a") rfl (by decide +kernel) f1, rfl⟩
    · exact ⟨_, th_tup1 e3 (.str "a") rfl (by decide +kernel) f2, rfl⟩
    · exact ⟨_, th_dic1 e4, rfl⟩
    · exact ⟨_, th_int (by decide) (by decide), rfl⟩
    · exact st _ (by simp)
  obtain ⟨dd, k1, k2⟩ := key
  exact q x dd H' k1 k2 dk bb
theorem ok_law_odd_name {P : Program} {w : World} {K : PySem.W.Frag} {mg : Str → Option Value} {base : Heap} {g : Ads} (T : Txt K mg g) : FnZ P w K mg base 3 g.f_law_odd_name g.d_law_odd_name ["deck"] (sp_law_odd_name K g) := (raw_law_odd_name T).imp pf_law_odd_name
theorem pf_law_odd_operand {K : PySem.W.Frag} {g : Ads} (vs : List V) (H : Hp) (Q : VK) (E : XK) (h : sp_law_odd_operand K g vs H Q E) : rw_law_odd_operand K g vs H Q E := by
  obtain ⟨p, wa, rfl, hd, q⟩ := h
  refine ⟨rfl, ⟨by decide, by decide, by decide⟩, ⟨by decide, by decide, by decide⟩, show 0 ≤ sizeLine by decide, fun l1 h1 => ⟨show 1 ≤ sizeLine by decide, fun l2 h2 => ⟨show 1 ≤ sizeLine by decide, fun t h3 => fun d1 h4 => fun d2 h5 => ⟨upd_same, [(.inr "a", .int 1)], rfl, by decide, ⟨show 15 ≤ sizeLine by decide, fun o h6 => ?_⟩⟩⟩⟩⟩
  obtain ⟨op, hop⟩ := hd.some
  have u1 := Same.put (o := .lst []) h1
  have u2 := Same.put (o := .lst [.int 1]) h2
  have u3 := Same.put (o := .tup [.int 1]) h3
  have u4 := Same.put (o := .dK []) h4
  have u5 := Same.put (o := .dK [(.inr "a", .int 1)]) h5
  rw [upd_upd] at h6
  have u6 := Same.put (o := .lst (oddO l1 l2 t d1 d2)) h6
  rw [upd_upd]
  have s5 := (((u1.trans u2).trans u3).trans u4).trans u5
  have sa : Same H (upd (upd (upd (upd (upd (upd H l1 (.lst [])) l2 (.lst [.int 1])) t (.tup [.int 1])) d1 (.dK [])) d2 (.dK [(.inr "a", .int 1)])) o (.lst (oddO l1 l2 t d1 d2))) := s5.trans u6
  have no : o ≠ p := (ne_of_none (s5 _ _ hop) h6).symm
  refine ⟨p, wa, o, oddO l1 l2 t d1 d2, rfl, hd.same sa, .inl (SqL.of upd_same), no, by simp [oddO], by simp [oddO], fun j x H' hx dk b => ?_⟩
  have ne : ∀ {x : Addr}, H x = none → x ≠ p := fun h z => by rw [z, hop] at h; cases h
  have n2 := u1.free h2
  have n3 := (u1.trans u2).free h3
  have n4 := ((u1.trans u2).trans u3).free h4
  have n5 := (((u1.trans u2).trans u3).trans u4).free h5
  have e1 := nwr_at h1 (b _ _ (u6 _ _ (u5 _ _ (u4 _ _ (u3 _ _ (u2 _ _ upd_same))))) (ne h1))
  have e2 := nwr_at n2 (b _ _ (u6 _ _ (u5 _ _ (u4 _ _ (u3 _ _ upd_same)))) (ne n2))
  have e3 := nwr_at n3 (b _ _ (u6 _ _ (u5 _ _ (u4 _ _ upd_same))) (ne n3))
  have e4 := nwr_at n4 (b _ _ (u6 _ _ (u5 _ _ upd_same)) (ne n4))
  have e5 := nwr_at n5 (b _ _ (u6 _ _ upd_same) (ne n5))
  have bb : But p H H' := (But.same sa).trans b
  obtain ⟨f1, f2, f3, f4⟩ := fit_odd
  have ten : (10 : Int) ^ (20 : Int).toNat = 100000000000000000000 := by decide
  have key : ∃ dd, Thing K (nwr H H') x dd ∧ isOperV x = false := by
    have hm := List.mem_of_getElem? hx
    have st : ∀ z ∈ (["", "none", "A", "a_", "abcdefghi", "0"] : List Str), ∃ dd, Thing K (nwr H H') (.str z) dd ∧ isOperV (.str z) = false := fun z hz => ⟨_, th_lit (lit_opers z hz).2, by simp [isOperV, isIntV, isNameV, (lit_opers z hz).1]⟩
    simp only [oddO, List.mem_cons, List.not_mem_nil, or_false] at hm
    rcases hm with rfl | rfl | rfl | rfl | rfl | rfl | rfl | rfl | rfl | rfl | rfl | rfl | rfl | rfl | rfl
    · exact ⟨_, th_bl true, rfl⟩
    · exact ⟨_, th_bl false, rfl⟩
    · exact st _ (by simp)
    · exact st _ (by simp)
    · exact st _ (by simp)
    · exact st _ (by simp)
    · exact st _ (by simp)
    · rw [ten]
      exact ⟨_, th_int (by decide) (by decide), by decide⟩
    · rw [ten]
      exact ⟨_, th_int (by decide) (by decide), by decide⟩
    · exact ⟨_, th_lst0 e1, rfl⟩
    · exact ⟨_, th_lst1 e2 (.int 1) rfl (by decide +kernel) f3, rfl⟩
    · exact ⟨_, th_tup1 e3 (.int 1) rfl (by decide +kernel) f4, rfl⟩
    · exact ⟨_, th_dic0 e4, rfl⟩
    · exact ⟨_, th_dic1 e5, rfl⟩
    · exact st _ (by simp)
  obtain ⟨dd, k1, k2⟩ := key
  exact q x dd H' k1 k2 dk bb
theorem ok_law_odd_operand {P : Program} {w : World} {K : PySem.W.Frag} {mg : Str → Option Value} {base : Heap} {g : Ads} (T : Txt K mg g) : FnZ P w K mg base 3 g.f_law_odd_operand g.d_law_odd_operand ["deck"] (sp_law_odd_operand K g) := (raw_law_odd_operand T).imp pf_law_odd_operand
/-! ### right operands -/
def IsNm (z : Str) : Prop := nameB z = true ∧ z.length ≤ 60 ∧ Asc z
theorem IsNm.th {z : Str} (h : IsNm z) (K : PySem.W.Frag) (H : Hp) : Thing K H (.str z) (.str z) := th_str h.2.1 h.2.2
theorem IsNm.op {z : Str} (h : IsNm z) : isOperV (.str z) = true := by simp [isOperV, isNameV, h.1]
def NamesAt (H : Hp) (p nl : Addr) (ns : List Str) : Prop := H nl = some (.lst (ns.map V.str)) ∧ nl ≠ p ∧ ns ≠ [] ∧ ns.length ≤ 100 ∧ ∀ z ∈ ns, IsNm z
def sp_law_operand (K : PySem.W.Frag) (g : Ads) : Sp := fun vs H Q E => ∃ (p wa nl : Addr) (ns : List Str), vs = [.ref p, .ref nl] ∧ DeckAt H p wa ∧ NamesAt H p nl ns ∧ ∀ v d H', (∀ H0, Thing K H0 v d) → isOperV v = true → DeckAt H' p wa → But p H H' → Q v H'
theorem sc_law_operand : FnScope ["deck", "names", "way"] ["deck", "names"] (defScope s_law_operand) := ⟨rfl, rfl, rfl, by decide +kernel, rfl, by decide +kernel, by decide +kernel⟩
def R_law_operand_2 (K : PySem.W.Frag) (g : Ads) (E : XK) : TS :=
  (tRet (tIf (zTest (tOp (zEq K) (zVar 2) (tC (.int 0)))) (tC .non) (tIf (zTest (tOp (zEq K) (zVar 2) (tC (.int 1)))) (zCall (sp_law_number K g) [] (WE (fun cls d _ H => E cls d H)) (tCons (zVar 0) tNil)) (zCall (sp_law_of K g) [] (WE (fun cls d _ H => E cls d H)) (tCons (zVar 0) (tCons (zVar 1) tNil))))))
def R_law_operand (K : PySem.W.Frag) (g : Ads) (E : XK) : TS :=
  (tSeq (tAsg (zCall (sp_law_draw K g) [] (WE (fun cls d _ H => E cls d H)) (tCons (zVar 0) (tCons (tC (.int 3)) tNil))) (gName 2))
  (R_law_operand_2 K g E))
def rw_law_operand (K : PySem.W.Frag) (g : Ads) : Sp := fun vs H Q E => vs.length = 2 ∧ R_law_operand K g E { nx := fun _ H' => Q .non H', rt := Q } (start ["deck", "names", "way"] vs) H
theorem raw_law_operand {P : Program} {w : World} {K : PySem.W.Frag} {mg : Str → Option Value} {base : Heap} {g : Ads} (T : Txt K mg g) : FnG true P w K mg base 4 g.f_law_operand g.d_law_operand ["deck", "names"] (rw_law_operand K g) := by
  refine okZ T.f_law_operand sc_law_operand (fun vs H Q E h => h.1) (fun cdv A outer s H vs Q E hr hgu h => ⟨R_law_operand K g E, ?_, h.2⟩)
  exact (pss_cons (ps_set (i := 2) sc_law_operand.nd rfl (Or.inl rfl) (pe_callZ (ok_law_draw T) (hr.mono (by decide)) hgu rfl T.g_law_draw T.k_law_draw T.e_law_draw .nil (fun σ => passAt (takes_of rfl rfl rfl rfl) σ) (pa_cons (zv 0) (pa_cons pe_int pa_nil))))
  (pss_one (ps_ret (pe_ifExp (ptz_cmp (op_zEq hr.units) (zv 2) pe_int (nomark _)) pe_non (pe_ifExp (ptz_cmp (op_zEq hr.units) (zv 2) pe_int (nomark _)) (pe_callZ (ok_law_number T) (hr.mono (by decide)) hgu rfl T.g_law_number T.k_law_number T.e_law_number .nil (fun σ => passAt (takes_of rfl rfl rfl rfl) σ) (pa_cons (zv 0) pa_nil)) (pe_callZ (ok_law_of T) (hr.mono (by decide)) hgu rfl T.g_law_of T.k_law_of T.e_law_of .nil (fun σ => passAt (takes_of rfl rfl rfl rfl) σ) (pa_cons (zv 0) (pa_cons (zv 1) pa_nil))))))))
theorem pf_law_operand {K : PySem.W.Frag} {g : Ads} (vs : List V) (H : Hp) (Q : VK) (E : XK) (h : sp_law_operand K g vs H Q E) : rw_law_operand K g vs H Q E := by
  obtain ⟨p, wa, nl, ns, rfl, hd, ⟨hn, nn, n0, nL, hz⟩, q⟩ := h
  refine ⟨rfl, p, wa, 3, rfl, hd, by decide, by decide, fun r H1 r0 r3 d1 b1 => .inl ⟨rfl, zite (fun _ => q .non .none H1 (fun H0 => th_non) rfl d1 b1) fun _ => .inl ⟨rfl, zite (fun _ => ?_) fun _ => ?_⟩⟩⟩
  · refine ⟨p, wa, rfl, d1, fun i H2 i0 i1 d2 b2 => q _ _ H2 (fun H0 => th_int (by omega) (by omega)) ?_ d2 (b1.trans b2)⟩
    simp [isOperV, isIntV, i0, i1]
  · refine ⟨p, wa, nl, _, rfl, d1, .inl (SqL.of (b1 _ _ hn nn)), nn, by simpa using n0, by rw [List.length_map]; omega, fun j x H2 hx d2 b2 => ?_⟩
    rw [List.getElem?_map] at hx
    cases e : ns[j]? with
    | none =>
      rw [e] at hx
      cases hx
    | some z =>
      rw [e] at hx
      cases hx
      have := hz z (List.mem_of_getElem? e)
      exact q _ _ H2 (fun H0 => this.th K H0) this.op d2 (b1.trans b2)
theorem ok_law_operand {P : Program} {w : World} {K : PySem.W.Frag} {mg : Str → Option Value} {base : Heap} {g : Ads} (T : Txt K mg g) : FnZ P w K mg base 4 g.f_law_operand g.d_law_operand ["deck", "names"] (sp_law_operand K g) := (raw_law_operand T).imp pf_law_operand
end Z
namespace Z
open PySem PySem.Spec PyProof.Rows L2
def workF (t : Addr) : List (Str × V) := [("into", .str "a"), ("function", .str "f"), ("operands", .ref t)]
def holdsF (t : Addr) : List (Str × V) := [("test", .str "t"), ("operands", .ref t)]
def sp_Work_parts (K : PySem.W.Frag) (g : Ads) : Sp := fun vs H Q E => ∃ o dx t, vs = [.ref o] ∧ H o = some (.ins g.c_Work dx (workF t)) ∧ ∀ tp H', Same H H' → H' tp = some (.tup [.str "a", .str "f", .ref t]) → Q (.ref tp) H'
theorem sc_Work_parts : FnScope ["self"] ["self"] (defScope s_Work_parts) := ⟨rfl, rfl, rfl, by decide +kernel, rfl, by decide +kernel, by decide +kernel⟩
def R_Work_parts (K : PySem.W.Frag) (g : Ads) (E : XK) : TS :=
  (tRet (tTup (tCons (tFld K (zVar 0) "into") (tCons (tFld K (zVar 0) "function") (tCons (tFld K (zVar 0) "operands") tNil)))))
def rw_Work_parts (K : PySem.W.Frag) (g : Ads) : Sp := fun vs H Q E => vs.length = 1 ∧ R_Work_parts K g E { nx := fun _ H' => Q .non H', rt := Q } (start ["self"] vs) H
theorem raw_Work_parts {P : Program} {w : World} {K : PySem.W.Frag} {mg : Str → Option Value} {base : Heap} {g : Ads} (T : Txt K mg g) : FnG false P w K mg base 1 g.f_Work_parts g.d_Work_parts ["self"] (rw_Work_parts K g) := by
  refine okZ T.f_Work_parts sc_Work_parts (fun vs H Q E h => h.1) (fun cdv A outer s H vs Q E hr hgu h => ⟨R_Work_parts K g E, ?_, h.2⟩)
  exact (pss_one (ps_ret (pe_tup (pa_cons (pe_fld (zv 0) rfl) (pa_cons (pe_fld (zv 0) rfl) (pa_cons (pe_fld (zv 0) rfl) pa_nil))))))
theorem ok_Work_parts {P : Program} {w : World} {K : PySem.W.Frag} {mg : Str → Option Value} {base : Heap} {g : Ads} (T : Txt K mg g) : FnG false P w K mg base 1 g.f_Work_parts g.d_Work_parts ["self"] (sp_Work_parts K g) :=
  (raw_Work_parts T).imp fun vs H Q E ⟨o, dx, t, e, ho, q⟩ => by
    subst e
    exact ⟨rfl, o, _, dx, _, _, rfl, ho, T.cl_Work, T.na_Work_into, rfl, o, _, dx, _, _, rfl, ho, T.cl_Work, T.na_Work_function, rfl, o, _, dx, _, _, rfl, ho, T.cl_Work, T.na_Work_operands, rfl, show 3 ≤ sizeLine by decide, fun p hp => q p _ (Same.put hp) upd_same⟩
def sp_Step_eq (K : PySem.W.Frag) (g : Ads) : Sp := fun vs H Q E => ∃ o1 dx1 t1 o2 dx2 t2, vs = [.ref o1, .ref o2] ∧ H o1 = some (.ins g.c_Work dx1 (workF t1)) ∧ H o2 = some (.ins g.c_Work dx2 (workF t2)) ∧ H t1 = some (.tup [.int 1, .str "b"]) ∧ H t2 = some (.tup [.int 1, .str "b"]) ∧
  ∀ H', Same H H' → Q (.bl true) H'
def sp_Holds_eq (K : PySem.W.Frag) (g : Ads) : Sp := fun vs H Q E => ∃ o1 dx1 t1 o2 dx2 t2, vs = [.ref o1, .ref o2] ∧ H o1 = some (.ins g.c_Holds dx1 (holdsF t1)) ∧ H o2 = some (.ins g.c_Holds dx2 (holdsF t2)) ∧ H t1 = some (.tup [.non]) ∧ H t2 = some (.tup [.non]) ∧ Q (.bl true) H
theorem sc_Step_eq : FnScope ["self", "other"] ["self", "other"] (defScope s_Step_eq) := ⟨rfl, rfl, rfl, by decide +kernel, rfl, by decide +kernel, by decide +kernel⟩
def R_Step_eq (K : PySem.W.Frag) (g : Ads) (E : XK) : TS :=
  (tRet (zAndV (tCB (rIsi K) (tCons (zVar 1) (tCons (tC (.ref g.c_Step)) tNil))) (zAndV (tOp (zEq K) (tCon K (zVar 0) "WORD") (tCon K (zVar 1) "WORD")) (tOp (zEq K) (zMeth g.c_Work "parts" (sp_Work_parts K g) [] (WE (fun cls d _ H => E cls d H)) (zVar 0) tNil) (zMeth g.c_Work "parts" (sp_Work_parts K g) [] (WE (fun cls d _ H => E cls d H)) (zVar 1) tNil)))))
def rw_Step_eq (K : PySem.W.Frag) (g : Ads) : Sp := fun vs H Q E => vs.length = 2 ∧ R_Step_eq K g E { nx := fun _ H' => Q .non H', rt := Q } (start ["self", "other"] vs) H
theorem raw_Step_eq {P : Program} {w : World} {K : PySem.W.Frag} {mg : Str → Option Value} {base : Heap} {g : Ads} (T : Txt K mg g) : FnG false P w K mg base 2 g.f_Step_eq g.d_Step_eq ["self", "other"] (rw_Step_eq K g) := by
  refine okZ T.f_Step_eq sc_Step_eq (fun vs H Q E h => h.1) (fun cdv A outer s H vs Q E hr hgu h => ⟨R_Step_eq K g E, ?_, h.2⟩)
  exact (pss_one (ps_ret (pez_and (pe_callB call_isi (by rfl) T.b_isinstance (by decide +kernel) (pa_cons (zv 1) (pa_cons (pe_glob rfl T.g_Step rfl) pa_nil))) (pez_and (pe_cmpR (op_zEq hr.units) (pe_con (zv 0) rfl) (pe_con (zv 1) rfl) (nomark _)) (pe_one (pe_cmpR (op_zEq hr.units) (pe_methZ0 (zv 0) T.cl_Work ⟨T.a_Work_parts, T.i_Work_parts, T.f_Work_parts.kp⟩ (ok_Work_parts T) (hr.mono (by decide)) (fun z => nomatch z) T.e_Work_parts .nil (fun σ => passAt (takes_of rfl rfl rfl rfl) σ)) (pe_methZ0 (zv 1) T.cl_Work ⟨T.a_Work_parts, T.i_Work_parts, T.f_Work_parts.kp⟩ (ok_Work_parts T) (hr.mono (by decide)) (fun z => nomatch z) T.e_Work_parts .nil (fun σ => passAt (takes_of rfl rfl rfl rfl) σ)) (nomark _)))))))
theorem sc_Holds_eq : FnScope ["self", "other"] ["self", "other"] (defScope s_Holds_eq) := ⟨rfl, rfl, rfl, by decide +kernel, rfl, by decide +kernel, by decide +kernel⟩
def R_Holds_eq (K : PySem.W.Frag) (g : Ads) (E : XK) : TS :=
  (tRet (zAndV (tCB (rIsi K) (tCons (zVar 1) (tCons (tC (.ref g.c_Holds)) tNil))) (zAndV (tOp (zEq K) (tFld K (zVar 0) "test") (tFld K (zVar 1) "test")) (tOp (zEq K) (tFld K (zVar 0) "operands") (tFld K (zVar 1) "operands")))))
def rw_Holds_eq (K : PySem.W.Frag) (g : Ads) : Sp := fun vs H Q E => vs.length = 2 ∧ R_Holds_eq K g E { nx := fun _ H' => Q .non H', rt := Q } (start ["self", "other"] vs) H
theorem raw_Holds_eq {P : Program} {w : World} {K : PySem.W.Frag} {mg : Str → Option Value} {base : Heap} {g : Ads} (T : Txt K mg g) : FnG false P w K mg base 1 g.f_Holds_eq g.d_Holds_eq ["self", "other"] (rw_Holds_eq K g) := by
  refine okZ T.f_Holds_eq sc_Holds_eq (fun vs H Q E h => h.1) (fun cdv A outer s H vs Q E hr hgu h => ⟨R_Holds_eq K g E, ?_, h.2⟩)
  exact (pss_one (ps_ret (pez_and (pe_callB call_isi (by rfl) T.b_isinstance (by decide +kernel) (pa_cons (zv 1) (pa_cons (pe_glob rfl T.g_Holds rfl) pa_nil))) (pez_and (pe_cmpR (op_zEq hr.units) (pe_fld (zv 0) rfl) (pe_fld (zv 1) rfl) (nomark _)) (pe_one (pe_cmpR (op_zEq hr.units) (pe_fld (zv 0) rfl) (pe_fld (zv 1) rfl) (nomark _)))))))
def workD : PyData := .tuple [.str "a", .str "f", .tuple [.int 1, .str "b"]]
theorem work_eqv : PyData.eqv workD workD = true ∧ SeqAt.shaped workD = true ∧ PyData.eqv (.tuple [.none]) (.tuple [.none]) = true ∧ SeqAt.shaped (.tuple [.none]) = true := by decide +kernel
theorem ok_Step_eq {P : Program} {w : World} {K : PySem.W.Frag} {mg : Str → Option Value} {base : Heap} {g : Ads} (T : Txt K mg g) : FnG false P w K mg base 2 g.f_Step_eq g.d_Step_eq ["self", "other"] (sp_Step_eq K g) :=
  (raw_Step_eq T).imp fun vs H Q E ⟨o1, dx1, t1, o2, dx2, t2, e, h1, h2, e1, e2, q⟩ => by
    subst e
    obtain ⟨u, con⟩ := T.con_Work_WORD
    have c := T.ci_Work
    obtain ⟨w1, w2, _, _⟩ := work_eqv
    refine ⟨rfl, _, _, .ref g.c_Work, .ref g.c_Step, true, rfl, .own g.c_Step, .base (.ins h2 c.cl c.ha c.hn c.ht c.hm), T.su_Work_Step, ?_⟩
    refine ⟨o1, g.c_Work, dx1, _, .str "work", u, rfl, h1, T.cl_Work, con, rfl, o2, g.c_Work, dx2, _, .str "work", u, rfl, h2, T.cl_Work, con, rfl, .inl ⟨rfl, zite (fun _ => ?_) (fun h => absurd h (by simp))⟩⟩
    refine ⟨o1, dx1, _, rfl, h1, rfl, o1, dx1, t1, rfl, h1, fun p1 H1 s1 f1 => ⟨o2, dx2, _, rfl, s1 _ _ h2, rfl, o2, dx2, t2, rfl, s1 _ _ h2, fun p2 H2 s2 f2 => ?_⟩⟩
    have s12 := s1.trans s2
    have tp : ∀ t, H t = some (.tup [.int 1, .str "b"]) → Dp K H2 (.ref t) (.tuple [.int 1, .str "b"]) := fun t e => .tup (SqT.of (s12 _ _ e)) (.cons (.int 1) (.cons (.str "b") .nil))
    refine .inr ⟨workD, workD, .tup (SqT.of (s2 _ _ f1)) (.cons (.str "a") (.cons (.str "f") (.cons (tp t1 e1) .nil))), .tup (SqT.of f2) (.cons (.str "a") (.cons (.str "f") (.cons (tp t2 e2) .nil))), w2, w2, ?_⟩
    rw [w1]
    exact q H2 s12
theorem ok_Holds_eq {P : Program} {w : World} {K : PySem.W.Frag} {mg : Str → Option Value} {base : Heap} {g : Ads} (T : Txt K mg g) : FnG false P w K mg base 1 g.f_Holds_eq g.d_Holds_eq ["self", "other"] (sp_Holds_eq K g) :=
  (raw_Holds_eq T).imp fun vs H Q E ⟨o1, dx1, t1, o2, dx2, t2, e, h1, h2, e1, e2, q⟩ => by
    subst e
    have c := T.ci_Holds
    obtain ⟨_, _, w1, w2⟩ := work_eqv
    refine ⟨rfl, _, _, .ref g.c_Holds, .ref g.c_Holds, true, rfl, .own g.c_Holds, .base (.ins h2 c.cl c.ha c.hn c.ht c.hm), kit_one, ?_⟩
    refine ⟨o1, _, dx1, _, _, rfl, h1, T.cl_Holds, T.na_Holds_test, rfl, o2, _, dx2, _, _, rfl, h2, T.cl_Holds, T.na_Holds_test, rfl, .inl ⟨rfl, zite (fun _ => ?_) (fun h => absurd h (by simp))⟩⟩
    refine ⟨o1, _, dx1, _, _, rfl, h1, T.cl_Holds, T.na_Holds_operands, rfl, o2, _, dx2, _, _, rfl, h2, T.cl_Holds, T.na_Holds_operands, rfl, ?_⟩
    refine .inr ⟨.tuple [.none], .tuple [.none], .tup (SqT.of e1) (.cons .non .nil), .tup (SqT.of e2) (.cons .non .nil), w2, w2, ?_⟩
    rw [w1]
    exact q
end Z
namespace Z
open PySem PySem.Spec PyProof.Rows L2
/-! ### the parts, their roles, and which of them are odd -/
inductive Al3 : List Nat → List (V × PyData) → List Bool → Prop
  | nil : Al3 [] [] []
  | cons {r : Nat} {c : V × PyData} {b : Bool} {rs : List Nat} {cs : List (V × PyData)} {bs : List Bool} (h1 : r = 110 → b = !isNameV c.1) (h2 : r ≠ 110 → b = !isOperV c.1) (t : Al3 rs cs bs) : Al3 (r :: rs) (c :: cs) (b :: bs)
theorem Al3.snoc : ∀ {rs : List Nat} {cs : List (V × PyData)} {bs : List Bool} {r : Nat} {c : V × PyData} {b : Bool}, Al3 rs cs bs → (r = 110 → b = !isNameV c.1) → (r ≠ 110 → b = !isOperV c.1) → Al3 (rs ++ [r]) (cs ++ [c]) (bs ++ [b])
  | _, _, _, _, _, _, .nil, h1, h2 => .cons h1 h2 .nil
  | _, _, _, _, _, _, .cons a b t, h1, h2 => .cons a b (t.snoc h1 h2)
theorem Al3.len : ∀ {rs : List Nat} {cs : List (V × PyData)} {bs : List Bool}, Al3 rs cs bs → rs.length = cs.length ∧ bs.length = cs.length
  | _, _, _, .nil => ⟨rfl, rfl⟩
  | _, _, _, .cons _ _ t => by
    have := t.len
    simp only [List.length_cons]
    omega
theorem chk_cons (x : Bool) (c : V × PyData) (l : List (Bool × V × PyData)) : chk ((x, c) :: l) = if x = true then (if isNameV c.1 = true then chk l else .err .nm c.1 c.2) else (if isOperV c.1 = true then chk l else .err .vl c.1 c.2) := rfl
theorem due_chk : ∀ {rs : List Nat} {cs : List (V × PyData)} {bs : List Bool}, Al3 rs cs bs → dueO rs cs bs false = chk (List.zipWith (fun r c => (decide (r = 110), c)) rs cs)
  | _, _, _, .nil => rfl
  | r :: rs, c :: cs, b :: bs, .cons h1 h2 t => by
    have ih := due_chk t
    rw [List.zipWith_cons_cons, chk_cons]
    show (if b = true then Out.err (if r = 110 then .nm else .vl) c.1 c.2 else dueO rs cs bs false) = _
    by_cases hr : r = 110
    · have e : decide (r = 110) = true := decide_eq_true hr
      rw [h1 hr, if_pos hr, e, ih]
      cases isNameV c.1 <;> rfl
    · have e : decide (r = 110) = false := decide_eq_false hr
      rw [h2 hr, if_neg hr, e, ih]
      cases isOperV c.1 <;> rfl
theorem due_many : ∀ {rs : List Nat} {cs : List (V × PyData)} {bs : List Bool}, Al3 rs cs bs → ∀ many : Bool, dueO rs cs bs many = (dueO rs cs bs false).and (if many = true then .err .mn (.int 3) (.int 3) else .ok)
  | _, _, _, .nil, many => by cases many <;> rfl
  | r :: rs, c :: cs, b :: bs, .cons h1 h2 t, many => by
    have ih := due_many t many
    show (if b = true then Out.err (if r = 110 then .nm else .vl) c.1 c.2 else dueO rs cs bs many) = (if b = true then Out.err (if r = 110 then .nm else .vl) c.1 c.2 else dueO rs cs bs false).and _
    cases b
    · exact ih
    · rfl
/-- the words, with their roles -/
inductive Shp : Str → List Nat → Bool → Prop
  | read2 : Shp "read" [110, 110] false
  | read3 : Shp "read" [110, 110, 111] false
  | let_ : Shp "let" [110, 111] false
  | put : Shp "put" [110, 111] false
  | keep : Shp "keep" [110, 111] false
  | show_ : Shp "show" [110, 111] false
  | has : Shp "has" [111] false
  | typed : Shp "typed" [110] false
  | holds (k : Nat) : Shp "holds" (110 :: List.replicate k 111) (decide (3 < k))
  | work (k : Nat) : Shp "work" (110 :: 110 :: List.replicate k 111) (decide (3 < k))
theorem zip_rep : ∀ (k : Nat) (cs : List (V × PyData)), cs.length = k → List.zipWith (fun r c => (decide (r = 110), c)) (List.replicate k 111) cs = cs.map fun c => (false, c)
  | 0, [], _ => rfl
  | k + 1, c :: cs, h => by
    have ih := zip_rep k cs (by simpa using h)
    rw [List.replicate_succ, List.zipWith_cons_cons, ih]
    rfl
theorem ops_eq {k : Nat} {cs : List (V × PyData)} (h : cs.length = k) : (chk (cs.map fun c => (false, c))).and (if decide (3 < k) = true then .err .mn (.int 3) (.int 3) else .ok) = chkOps cs := by
  unfold chkOps
  congr 1
  by_cases h3 : 3 < k
  · rw [if_pos (decide_eq_true h3), if_neg (by omega)]
  · rw [if_neg (by simpa using h3), if_pos (by omega)]
theorem and_assoc (a b c : Out) : (a.and b).and c = a.and (b.and c) := by cases a <;> rfl
theorem shp_req {w : Str} {rs : List Nat} {many : Bool} {cs : List (V × PyData)} {bs : List Bool} (h : Shp w rs many) (a : Al3 rs cs bs) : Req w cs (dueO rs cs bs many) := by
  have e := due_many a many
  rw [due_chk a] at e
  rw [e]
  cases h with
  | read2 =>
    match cs, a with
    | [x, y], _ =>
      rw [show (chk (List.zipWith (fun r c => (decide (r = 110), c)) [110, 110] [x, y])).and (if false = true then .err .mn (.int 3) (.int 3) else .ok) = chk [(true, x), (true, y)] from and_ok _]
      exact .read2 x y
  | read3 =>
    match cs, a with
    | [x, y, z], _ =>
      rw [show (chk (List.zipWith (fun r c => (decide (r = 110), c)) [110, 110, 111] [x, y, z])).and (if false = true then .err .mn (.int 3) (.int 3) else .ok) = chk [(true, x), (true, y), (false, z)] from and_ok _]
      exact .read3 x y z
  | let_ =>
    match cs, a with
    | [x, y], _ =>
      rw [show (chk (List.zipWith (fun r c => (decide (r = 110), c)) [110, 111] [x, y])).and (if false = true then .err .mn (.int 3) (.int 3) else .ok) = chk [(true, x), (false, y)] from and_ok _]
      exact .let_ x y
  | put =>
    match cs, a with
    | [x, y], _ =>
      rw [show (chk (List.zipWith (fun r c => (decide (r = 110), c)) [110, 111] [x, y])).and (if false = true then .err .mn (.int 3) (.int 3) else .ok) = chk [(true, x), (false, y)] from and_ok _]
      exact .put x y
  | keep =>
    match cs, a with
    | [x, y], _ =>
      rw [show (chk (List.zipWith (fun r c => (decide (r = 110), c)) [110, 111] [x, y])).and (if false = true then .err .mn (.int 3) (.int 3) else .ok) = chk [(true, x), (false, y)] from and_ok _]
      exact .keep x y
  | show_ =>
    match cs, a with
    | [x, y], _ =>
      rw [show (chk (List.zipWith (fun r c => (decide (r = 110), c)) [110, 111] [x, y])).and (if false = true then .err .mn (.int 3) (.int 3) else .ok) = chk [(true, x), (false, y)] from and_ok _]
      exact .show_ x y
  | has =>
    match cs, a with
    | [x], _ =>
      rw [show (chk (List.zipWith (fun r c => (decide (r = 110), c)) [111] [x])).and (if false = true then .err .mn (.int 3) (.int 3) else .ok) = chk [(false, x)] from and_ok _]
      exact .has x
  | typed =>
    match cs, a with
    | [x], _ =>
      rw [show (chk (List.zipWith (fun r c => (decide (r = 110), c)) [110] [x])).and (if false = true then .err .mn (.int 3) (.int 3) else .ok) = chk [(true, x)] from and_ok _]
      exact .typed x
  | holds k =>
    cases a with
    | @cons _ x _ _ r _ h1 h2 t =>
      have l := t.len.1
      rw [List.length_replicate] at l
      rw [List.zipWith_cons_cons, zip_rep k r l.symm]
      rw [show ((decide (110 = 110), x) :: r.map fun c => (false, c)) = [(true, x)] ++ r.map fun c => (false, c) from rfl, chk_app, and_assoc, ops_eq l.symm]
      exact .holds x r
  | work k =>
    cases a with
    | @cons _ x _ _ _ _ h1 h2 t =>
      cases t with
      | @cons _ y _ _ r _ h3 h4 t =>
        have l := t.len.1
        rw [List.length_replicate] at l
        rw [List.zipWith_cons_cons, List.zipWith_cons_cons, zip_rep k r l.symm]
        rw [show ((decide (110 = 110), x) :: (decide (110 = 110), y) :: r.map fun c => (false, c)) = [(true, x), (true, y)] ++ r.map fun c => (false, c) from rfl, chk_app, and_assoc, ops_eq l.symm]
        exact .work x y r
/-- an error tells a part, or the limit -/
theorem due_src : ∀ {rs : List Nat} {cs : List (V × PyData)} {bs : List Bool} {many : Bool} {k : EK} {v : V} {d : PyData}, dueO rs cs bs many = .err k v d → (v, d) ∈ cs ∨ (v = .int 3 ∧ d = .int 3)
  | [], cs, bs, many, k, v, d, h => by
    have h : (if many = true then Out.err .mn (.int 3) (.int 3) else .ok) = .err k v d := h
    cases many
    · cases h
    · cases h
      exact .inr ⟨rfl, rfl⟩
  | _ :: _, [], bs, many, k, v, d, h => by
    have h : (if many = true then Out.err .mn (.int 3) (.int 3) else .ok) = .err k v d := h
    cases many
    · cases h
    · cases h
      exact .inr ⟨rfl, rfl⟩
  | _ :: _, _ :: _, [], many, k, v, d, h => by
    have h : (if many = true then Out.err .mn (.int 3) (.int 3) else .ok) = .err k v d := h
    cases many
    · cases h
    · cases h
      exact .inr ⟨rfl, rfl⟩
  | r :: rs, c :: cs, b :: bs, many, k, v, d, h => by
    have h : (if b = true then Out.err (if r = 110 then .nm else .vl) c.1 c.2 else dueO rs cs bs many) = .err k v d := h
    cases b
    · rcases due_src (rs := rs) (cs := cs) (bs := bs) h with e | e
      · exact .inl (List.mem_cons_of_mem _ e)
      · exact .inr e
    · cases h
      exact .inl List.mem_cons_self
end Z
namespace Z
open PySem PySem.Spec PyProof.Rows L2
theorem sc_law : FnScope ["script", "turn", "deck", "names", "word", "roles", "is_many", "parts", "odd", "share", "role", "is_odd", "shown", "ends", "one"] ["script"] (defScope s_law) := ⟨rfl, rfl, rfl, by decide +kernel, rfl, by decide +kernel, by decide +kernel⟩
def R_law_7 (K : PySem.W.Frag) (g : Ads) (E : XK) : TS :=
  (tAsg (tOp zAdd (zVar 5) (tSl rSlS (tC (.str "ooooo")) tNoPart (tPart (zCall (sp_law_draw K g) [] (WE (fun cls d _ H => E cls d H)) (tCons (zVar 2) (tCons (tC (.int 6)) tNil)))))) (gName 5))
def R_law_16 (K : PySem.W.Frag) (g : Ads) (E : XK) : TS :=
  (tDrop (tBM K "list" rAppend (zVar 7) (tCons (tIf (zTru K (zVar 11)) (zCall (sp_law_odd_name K g) [] (WE (fun cls d _ H => E cls d H)) (tCons (zVar 2) tNil)) (zCall (sp_law_of K g) [] (WE (fun cls d _ H => E cls d H)) (tCons (zVar 2) (tCons (zVar 3) tNil)))) tNil)))
def R_law_18 (K : PySem.W.Frag) (g : Ads) (E : XK) : TS :=
  (tDrop (tBM K "list" rAppend (zVar 7) (tCons (tIf (zTru K (zVar 11)) (zCall (sp_law_odd_operand K g) [] (WE (fun cls d _ H => E cls d H)) (tCons (zVar 2) tNil)) (zCall (sp_law_operand K g) [] (WE (fun cls d _ H => E cls d H)) (tCons (zVar 2) (tCons (zVar 3) tNil)))) tNil)))
def R_law_15 (K : PySem.W.Frag) (g : Ads) (E : XK) : TS :=
  (tIfS (zTest (tOp (zEqI K) (zVar 10) (tC (.str "n"))))
  (R_law_16 K g E)
  (R_law_18 K g E))
def R_law_14 (K : PySem.W.Frag) (g : Ads) (E : XK) : TS :=
  (tSeq (tDrop (tBM K "list" rAppend (zVar 8) (tCons (zVar 11) tNil)))
  (R_law_15 K g E))
def R_law_13 (K : PySem.W.Frag) (g : Ads) (E : XK) : TS :=
  (tSeq (tAsg (zAndV (tOp (zEqI K) (zCall (sp_law_draw K g) [] (WE (fun cls d _ H => E cls d H)) (tCons (zVar 2) (tCons (zVar 9) tNil))) (tC (.int 0))) (tOp zGt (zVar 9) (tC (.int 1)))) (gName 11))
  (R_law_14 K g E))
def R_law_20 (K : PySem.W.Frag) (g : Ads) (E : XK) : TS :=
  (tIfS (tOr (zTest (tOp (zNeI K) (zCall (sp_law_told K g) [] (WE (fun cls d _ H => E cls d H)) (tCons (zVar 4) (tCons (zVar 7) tNil))) (zCall (sp_law_due K g) [] (WE (fun cls d _ H => E cls d H)) (tCons (zVar 5) (tCons (zVar 7) (tCons (zVar 8) (tCons (zVar 6) tNil))))))) (zTest (tOp (zNeI K) (tCB (rReprL K) (tCons (zVar 7) tNil)) (zVar 12))))
  (tRet (tC (.bl false)))
  tNext)
def R_law_19 (K : PySem.W.Frag) (g : Ads) (E : XK) : TS :=
  (tSeq (tAsg (tCB (rReprL K) (tCons (zVar 7) tNil)) (gName 12))
  (R_law_20 K g E))
def R_law_12 (K : PySem.W.Frag) (g : Ads) (E : XK) : TS :=
  (tSeq (zFor (iStr (zVar 5)) (gName 10)
  (R_law_13 K g E))
  (R_law_19 K g E))
def R_law_11 (K : PySem.W.Frag) (g : Ads) (E : XK) : TS :=
  (tSeq (tPar3 7 8 9 (tCons (tLst tNil) (tCons (tLst tNil) (tCons (zCall (sp_law_of K g) [] (WE (fun cls d _ H => E cls d H)) (tCons (zVar 2) (tCons (tLst (tCons (tC (.int 1)) (tCons (tC (.int 2)) (tCons (tC (.int 3)) (tCons (tC (.int 6)) tNil))))) tNil))) tNil))))
  (R_law_12 K g E))
def R_law_10 (K : PySem.W.Frag) (g : Ads) (E : XK) : TS :=
  (tSeq (tAsg (zAndV (tOp (zIn K) (zVar 4) (tLst (tCons (tC (.str "holds")) (tCons (tC (.str "work")) tNil)))) (tOp zGt (tBM K "str" rCountS (zVar 5) (tCons (tC (.str "o")) tNil)) (tC (.int 3)))) (gName 6))
  (R_law_11 K g E))
def R_law_8 (K : PySem.W.Frag) (g : Ads) (E : XK) : TS :=
  (tSeq (tIfS (tAnd (zTest (tOp (zEqI K) (zVar 4) (tC (.str "read")))) (zTest (tOp (zEqI K) (zCall (sp_law_draw K g) [] (WE (fun cls d _ H => E cls d H)) (tCons (zVar 2) (tCons (tC (.int 2)) tNil))) (tC (.int 0)))))
  (tAsg (tC (.str "nno")) (gName 5))
  tNext)
  (R_law_10 K g E))
def R_law_6 (K : PySem.W.Frag) (g : Ads) (E : XK) : TS :=
  (tSeq (tIfS (zTest (tOp (zIn K) (zVar 4) (tLst (tCons (tC (.str "holds")) (tCons (tC (.str "work")) tNil)))))
  (R_law_7 K g E)
  tNext)
  (R_law_8 K g E))
def R_law_5 (K : PySem.W.Frag) (g : Ads) (E : XK) : TS :=
  (tSeq (tAsg (tDGet2 (tDisp [((tC (.str "read")), (tC (.str "nn"))), ((tC (.str "has")), (tC (.str "o"))), ((tC (.str "typed")), (tC (.str "n"))), ((tC (.str "holds")), (tC (.str "n"))), ((tC (.str "work")), (tC (.str "nn")))]) (zVar 4) (tC (.str "no"))) (gName 5))
  (R_law_6 K g E))
def R_law_4 (K : PySem.W.Frag) (g : Ads) (E : XK) : TS :=
  (zFor (iList K (tLst (tCons (tC (.str "read")) (tCons (tC (.str "let")) (tCons (tC (.str "put")) (tCons (tC (.str "keep")) (tCons (tC (.str "show")) (tCons (tC (.str "has")) (tCons (tC (.str "typed")) (tCons (tC (.str "holds")) (tCons (tC (.str "work")) tNil))))))))))) (gName 4)
  (R_law_5 K g E))
def R_law_3 (K : PySem.W.Frag) (g : Ads) (E : XK) : TS :=
  (tSeq (tAsg (tOp zAdd (zCall (sp_law_names K g) [] (WE (fun cls d _ H => E cls d H)) (tCons (zVar 2) (tCons (tC (.int 4)) tNil))) (tLst (tCons (tC (.str "a")) (tCons (tC (.str "zzzzzzzz")) tNil)))) (gName 3))
  (R_law_4 K g E))
def R_law_2 (K : PySem.W.Frag) (g : Ads) (E : XK) : TS :=
  (tSeq (tAsg (zCall (sp_law_deck K g) [] (WE (fun cls d _ H => E cls d H)) (tCons (zVar 0) (tCons (zVar 1) tNil))) (gName 2))
  (R_law_3 K g E))
def R_law_25 (K : PySem.W.Frag) (g : Ads) (E : XK) : TS :=
  (tRet (zAndV (tOp (zEqI K) (zLc (iList K (zVar 13)) (gName 14) tYes (tFld K (zMake g.c_Let (sp_Let_init K g) [] (fun _ => E0) (tCons (tC (.str "a")) (tCons (zVar 14) tNil))) "value") [14]) (zVar 13)) (tOp (zEqI K) (tFld K (zMake g.c_Read (sp_Read_init K g) [.ref g.t_Read_init] (WE (fun cls d _ H => E cls d H)) (tCons (tC (.str "a")) (tCons (tC (.str "b")) tNil))) "default") (tTup tNil))))
def R_law_24 (K : PySem.W.Frag) (g : Ads) (E : XK) : TS :=
  (tSeq (tAsg (tLst (tCons (tOp zSub (tOp zPow (tC (.int 10)) (tC (.int 20))) (tC (.int 1))) (tCons (tOp zSub (tC (.int 1)) (tOp zPow (tC (.int 10)) (tC (.int 20)))) (tCons (tC (.int 0)) (tCons (tC .non) (tCons (tC (.str "a")) (tCons (tC (.str "abcdefgh")) (tCons (tC (.str "nones")) tNil)))))))) (gName 13))
  (R_law_25 K g E))
def R_law_22 (K : PySem.W.Frag) (g : Ads) (E : XK) : TS :=
  (tSeq (tIfS (tOr (zTest (tOp (zNeO g.c_Work (sp_Step_eq K g)) (tMakeRS g.c_Work (sp_Work_init K g) (WE (fun cls d _ H => E cls d H)) (tCons (tC (.str "a")) (tCons (tC (.str "f")) (tCons (tC (.int 1)) (tCons (tC (.str "b")) tNil))))) (tCMethS g.c_Work (sp_Work_made K g) (WE (fun cls d _ H => E cls d H)) (tC (.ref g.c_Work)) (tCons (tC (.str "a")) (tCons (tC (.str "f")) (tCons (tLst (tCons (tC (.int 1)) (tCons (tC (.str "b")) tNil))) tNil)))))) (zTest (tOp (zNeO g.c_Holds (sp_Holds_eq K g)) (tMakeRS g.c_Holds (sp_Holds_init K g) (WE (fun cls d _ H => E cls d H)) (tCons (tC (.str "t")) (tCons (tC .non) tNil))) (tCMethS g.c_Holds (sp_Holds_made K g) (WE (fun cls d _ H => E cls d H)) (tC (.ref g.c_Holds)) (tCons (tC (.str "t")) (tCons (tTup (tCons (tC .non) tNil)) tNil))))))
  (tRet (tC (.bl false)))
  tNext)
  (R_law_24 K g E))
def R_law (K : PySem.W.Frag) (g : Ads) (E : XK) : TS :=
  (tSeq (zFor (iRng1 (tCons (tCB rMx2 (tCons (tC (.int 1)) (tCons (tCB rMn2 (tCons (tC (.int 4)) (tCons (tCB (zLen K) (tCons (zVar 0) tNil)) tNil))) tNil))) tNil)) (gName 1)
  (R_law_2 K g E))
  (R_law_22 K g E))
def rw_law (K : PySem.W.Frag) (g : Ads) : Sp := fun vs H Q E => vs.length = 1 ∧ R_law K g E { nx := fun _ H' => Q .non H', rt := Q } (start ["script", "turn", "deck", "names", "word", "roles", "is_many", "parts", "odd", "share", "role", "is_odd", "shown", "ends", "one"] vs) H
theorem raw_law {P : Program} {w : World} {K : PySem.W.Frag} {mg : Str → Option Value} {base : Heap} {g : Ads} (T : Txt K mg g) : FnG true P w K mg base 10 g.f_law g.d_law ["script"] (rw_law K g) := by
  refine okZ T.f_law sc_law (fun vs H Q E h => h.1) (fun cdv A outer s H vs Q E hr hgu h => ⟨R_law K g E, ?_, h.2⟩)
  exact (pss_cons (psz_for PassesOwn.leaving rfl (pi_range1 rfl T.b_range (pa_cons (pe_callB (call_mx2 rfl) (by rfl) T.b_max (by decide +kernel) (pa_cons pe_int (pa_cons (pe_callB (call_mn2 rfl) (by rfl) T.b_min (by decide +kernel) (pa_cons pe_int (pa_cons (pe_callB call_lenZ (by rfl) T.b_len (by decide +kernel) (pa_cons (zv 0) pa_nil)) pa_nil))) pa_nil))) pa_nil)) (pg_name (i := 1) sc_law.nd rfl (Or.inl rfl))
  (pss_cons (ps_set (i := 2) sc_law.nd rfl (Or.inl rfl) (pe_callZ (ok_law_deck T) (hr.mono (by decide)) hgu rfl T.g_law_deck T.k_law_deck T.e_law_deck .nil (fun σ => passAt (takes_of rfl rfl rfl rfl) σ) (pa_cons (zv 0) (pa_cons (zv 1) pa_nil))))
  (pss_cons (ps_set (i := 3) sc_law.nd rfl (Or.inl rfl) (pe_op op_zAdd (pe_callZ (ok_law_names T) (hr.mono (by decide)) hgu rfl T.g_law_names T.k_law_names T.e_law_names .nil (fun σ => passAt (takes_of rfl rfl rfl rfl) σ) (pa_cons (zv 2) (pa_cons pe_int pa_nil))) (pe_lst (pa_cons pe_str (pa_cons pe_str pa_nil)))))
  (pss_one (psz_for PassesOwn.leaving rfl (pi_list (pe_lst (pa_cons pe_str (pa_cons pe_str (pa_cons pe_str (pa_cons pe_str (pa_cons pe_str (pa_cons pe_str (pa_cons pe_str (pa_cons pe_str (pa_cons pe_str pa_nil))))))))))) (pg_name (i := 4) sc_law.nd rfl (Or.inl rfl))
  (pss_cons (ps_set (i := 5) sc_law.nd rfl (Or.inl rfl) (pe_dget2 (hu_of hr) (pe_disp (pps_cons pe_str pe_str (pps_cons pe_str pe_str (pps_cons pe_str pe_str (pps_cons pe_str pe_str (pps_cons pe_str pe_str pps_nil))))) (by rfl) (by rfl) (fun z => by cases z) (by decide)) (zv 4) pe_str ⟨by rfl, by rfl, by rfl, by rfl⟩))
  (pss_cons (ps_if (ptz_cmp op_zIn (zv 4) (pe_lst (pa_cons pe_str (pa_cons pe_str pa_nil))) (by rfl))
  (pss_one (ps_set (i := 5) sc_law.nd rfl (Or.inl rfl) (pe_op op_zAdd (zv 5) (pe_slice sl_str pe_str po_none (po_some (pe_callZ (ok_law_draw T) (hr.mono (by decide)) hgu rfl T.g_law_draw T.k_law_draw T.e_law_draw .nil (fun σ => passAt (takes_of rfl rfl rfl rfl) σ) (pa_cons (zv 2) (pa_cons pe_int pa_nil))))))))
  pss_nil)
  (pss_cons (ps_if (PW.pt (pw_and (ptz_cmp (op_zEqI hr.units) (zv 4) pe_str (nomark _)) (pw_and1 (ptz_cmp (op_zEqI hr.units) (pe_callZ (ok_law_draw T) (hr.mono (by decide)) hgu rfl T.g_law_draw T.k_law_draw T.e_law_draw .nil (fun σ => passAt (takes_of rfl rfl rfl rfl) σ) (pa_cons (zv 2) (pa_cons pe_int pa_nil))) pe_int (nomark _)))))
  (pss_one (ps_set (i := 5) sc_law.nd rfl (Or.inl rfl) pe_str))
  pss_nil)
  (pss_cons (ps_set (i := 6) sc_law.nd rfl (Or.inl rfl) (pez_and (pe_cmpR op_zIn (zv 4) (pe_lst (pa_cons pe_str (pa_cons pe_str pa_nil))) (by rfl)) (pe_one (pe_cmpR op_zGt (pe_bm PySem.F.plainAttrs_str PySem.F.slot_str_count PySem.F.type_str_count mt_countZ (zv 5) (pa_cons pe_str pa_nil)) pe_int (nomark _)))))
  (pss_cons (ps_par3 (i := 7) (j := 8) (l := 9) (by rfl) sc_law.nd rfl rfl rfl (by decide) (by decide) (by decide) rfl rfl rfl (pa_cons (pe_lst pa_nil) (pa_cons (pe_lst pa_nil) (pa_cons (pe_callZ (ok_law_of T) (hr.mono (by decide)) hgu rfl T.g_law_of T.k_law_of T.e_law_of .nil (fun σ => passAt (takes_of rfl rfl rfl rfl) σ) (pa_cons (zv 2) (pa_cons (pe_lst (pa_cons pe_int (pa_cons pe_int (pa_cons pe_int (pa_cons pe_int pa_nil))))) pa_nil))) pa_nil))) (by rfl))
  (pss_cons (psz_for PassesOwn.leaving rfl (pi_str (zv 5)) (pg_name (i := 10) sc_law.nd rfl (Or.inl rfl))
  (pss_cons (ps_set (i := 11) sc_law.nd rfl (Or.inl rfl) (pez_and (pe_cmpR (op_zEqI hr.units) (pe_callZ (ok_law_draw T) (hr.mono (by decide)) hgu rfl T.g_law_draw T.k_law_draw T.e_law_draw .nil (fun σ => passAt (takes_of rfl rfl rfl rfl) σ) (pa_cons (zv 2) (pa_cons (zv 9) pa_nil))) pe_int (nomark _)) (pe_one (pe_cmpR op_zGt (zv 9) pe_int (nomark _)))))
  (pss_cons (ps_expr (pe_bm PySem.F.plainAttrs_list PySem.F.slot_list_append PySem.F.type_list_append mt_append (zv 8) (pa_cons (zv 11) pa_nil)))
  (pss_one (ps_if (ptz_cmp (op_zEqI hr.units) (zv 10) pe_str (nomark _))
  (pss_one (ps_expr (pe_bm PySem.F.plainAttrs_list PySem.F.slot_list_append PySem.F.type_list_append mt_append (zv 7) (pa_cons (pe_ifExp (ptz_truth (zv 11) (by intro _; rfl)) (pe_callZ (ok_law_odd_name T) (hr.mono (by decide)) hgu rfl T.g_law_odd_name T.k_law_odd_name T.e_law_odd_name .nil (fun σ => passAt (takes_of rfl rfl rfl rfl) σ) (pa_cons (zv 2) pa_nil)) (pe_callZ (ok_law_of T) (hr.mono (by decide)) hgu rfl T.g_law_of T.k_law_of T.e_law_of .nil (fun σ => passAt (takes_of rfl rfl rfl rfl) σ) (pa_cons (zv 2) (pa_cons (zv 3) pa_nil)))) pa_nil))))
  (pss_one (ps_expr (pe_bm PySem.F.plainAttrs_list PySem.F.slot_list_append PySem.F.type_list_append mt_append (zv 7) (pa_cons (pe_ifExp (ptz_truth (zv 11) (by intro _; rfl)) (pe_callZ (ok_law_odd_operand T) (hr.mono (by decide)) hgu rfl T.g_law_odd_operand T.k_law_odd_operand T.e_law_odd_operand .nil (fun σ => passAt (takes_of rfl rfl rfl rfl) σ) (pa_cons (zv 2) pa_nil)) (pe_callZ (ok_law_operand T) (hr.mono (by decide)) hgu rfl T.g_law_operand T.k_law_operand T.e_law_operand .nil (fun σ => passAt (takes_of rfl rfl rfl rfl) σ) (pa_cons (zv 2) (pa_cons (zv 3) pa_nil)))) pa_nil)))))))))
  (pss_cons (ps_set (i := 12) sc_law.nd rfl (Or.inl rfl) (pe_callB (call_reprL (hgu rfl) hr.units) (by rfl) T.b_repr (by decide +kernel) (pa_cons (zv 7) pa_nil)))
  (pss_one (ps_if (PW.pt (pw_or (ptz_cmp (op_zNeI hr.units) (pe_callZ (ok_law_told T) (hr.mono (by decide)) hgu rfl T.g_law_told T.k_law_told T.e_law_told .nil (fun σ => passAt (takes_of rfl rfl rfl rfl) σ) (pa_cons (zv 4) (pa_cons (zv 7) pa_nil))) (pe_callZ (ok_law_due T) (hr.mono (by decide)) hgu rfl T.g_law_due T.k_law_due T.e_law_due .nil (fun σ => passAt (takes_of rfl rfl rfl rfl) σ) (pa_cons (zv 5) (pa_cons (zv 7) (pa_cons (zv 8) (pa_cons (zv 6) pa_nil))))) (nomark _)) (pw_or1 (ptz_cmp (op_zNeI hr.units) (pe_callB (call_reprL (hgu rfl) hr.units) (by rfl) T.b_repr (by decide +kernel) (pa_cons (zv 7) pa_nil)) (zv 12) (nomark _)))))
  (pss_one (ps_ret pe_bl))
  pss_nil))))))))))))))
  (pss_cons (ps_if (PW.pt (pw_or (ptz_cmp (op_zNeO ((ok_Step_eq T).raw T.e_Step_eq) T.eq_Work T.en_Work T.i_Step_eq T.ci_Work.hm (hr.mono (by decide))) (pe_makeRS T.m_Work (ok_Work_init T) (hr.mono (by decide)) rfl T.g_Work (fun σ => passAt (takes_of rfl rfl rfl rfl) σ) (pa_cons pe_str (pa_cons pe_str (pa_cons pe_int (pa_cons pe_str pa_nil))))) (pe_cmethS (pe_glob rfl T.g_Work rfl) T.cr_Work T.cm_Work_made (ok_Work_made T) (hr.mono (by decide)) hgu T.e_Work_made (fun σ => passAt (takes_of rfl rfl rfl rfl) σ) (pa_cons pe_str (pa_cons pe_str (pa_cons (pe_lst (pa_cons pe_int (pa_cons pe_str pa_nil))) pa_nil)))) (nomark _)) (pw_or1 (ptz_cmp (op_zNeO ((ok_Holds_eq T).raw T.e_Holds_eq) T.eq_Holds T.en_Holds T.i_Holds_eq T.ci_Holds.hm (hr.mono (by decide))) (pe_makeRS T.m_Holds (ok_Holds_init T) (hr.mono (by decide)) rfl T.g_Holds (fun σ => passAt (takes_of rfl rfl rfl rfl) σ) (pa_cons pe_str (pa_cons pe_non pa_nil))) (pe_cmethS (pe_glob rfl T.g_Holds rfl) T.cr_Holds T.cm_Holds_made (ok_Holds_made T) (hr.mono (by decide)) hgu T.e_Holds_made (fun σ => passAt (takes_of rfl rfl rfl rfl) σ) (pa_cons pe_str (pa_cons (pe_tup (pa_cons pe_non pa_nil)) pa_nil))) (nomark _)))))
  (pss_one (ps_ret pe_bl))
  pss_nil)
  (pss_cons (ps_set (i := 13) sc_law.nd rfl (Or.inl rfl) (pe_lst (pa_cons (pe_op op_zSub (pe_op op_zPow pe_int pe_int) pe_int) (pa_cons (pe_op op_zSub pe_int (pe_op op_zPow pe_int pe_int)) (pa_cons pe_int (pa_cons pe_non (pa_cons pe_str (pa_cons pe_str (pa_cons pe_str pa_nil)))))))))
  (pss_one (ps_ret (pez_and (pe_cmpR (op_zEqI hr.units) (pez_lc (own := [("one", 14)]) rfl sc_law.nd (pi_list (zv 13)) (blkOk_by (own := [("one", 14)]) (N := ["script", "turn", "deck", "names", "word", "roles", "is_many", "parts", "odd", "share", "role", "is_odd", "shown", "ends", "one"]) (sc := defScope s_law) (by decide +kernel)) (fun _ _ _ _ _ => pg_name (i := 14) sc_law.nd rfl (Or.inl rfl)) (fun _ _ _ _ _ => pts_nil) (fun _ _ _ _ _ => (pe_fld (pe_makeZ T.m_Let (ok_Let_init T) (hr.mono (by decide)) hgu rfl T.g_Let T.e_Let_init .nil passE0 (pa_cons pe_str (pa_cons (zv 14) pa_nil))) rfl))) (zv 13) (nomark _)) (pe_one (pe_cmpR (op_zEqI hr.units) (pe_fld (pe_makeZ T.m_Read (ok_Read_init T) (hr.mono (by decide)) hgu rfl T.g_Read T.e_Read_init (.cons rfl .nil) (fun σ => passAt (takes_of rfl rfl rfl rfl) σ) (pa_cons pe_str (pa_cons pe_str pa_nil))) rfl) (pe_tup pa_nil) (nomark _)))))))))
/-! ### what stays while some lists change -/
def Ke (S : List Addr) (H H' : Hp) : Prop := ∀ b o, b ∉ S → H b = some o → H' b = some o
theorem Ke.refl (S : List Addr) (H : Hp) : Ke S H H := fun _ _ _ e => e
theorem Ke.trans {S : List Addr} {H H1 H2 : Hp} (a : Ke S H H1) (b : Ke S H1 H2) : Ke S H H2 := fun c o n e => b c o n (a c o n e)
theorem Ke.same {S : List Addr} {H H' : Hp} (s : Same H H') : Ke S H H' := fun b o _ e => s b o e
theorem Ke.but {S : List Addr} {H H' : Hp} {p : Addr} (hp : p ∈ S) (b : But p H H') : Ke S H H' := fun c o n e => b c o e fun z => n (z ▸ hp)
theorem Ke.put {S : List Addr} {H : Hp} {a : Addr} {u : HO} (ha : a ∈ S) : Ke S H (upd H a u) := fun c o n e => by
  have ne : c ≠ a := fun z => n (by rw [z]; exact ha)
  rw [upd_ne ne]
  exact e
theorem Ke.hid {S : List Addr} {H H' : Hp} (k : Ke S H H') : Same (Z.hid S H) (Z.hid S H') := hid_same fun b o e n => k b o n e
def ThS (K : PySem.W.Frag) (S : List Addr) (H : Hp) (v : V) (d : PyData) : Prop := Thing K (hid S H) v d
theorem ThS.to {K : PySem.W.Frag} {S : List Addr} {H H' : Hp} {v : V} {d : PyData} (t : ThS K S H v d) (k : Ke S H H') : ThS K S H' v d := Thing.same t k.hid
theorem ThS.th {K : PySem.W.Frag} {S : List Addr} {H : Hp} {v : V} {d : PyData} (t : ThS K S H v d) : Thing K H v d := Thing.same t hid_sub
/-- the state while the parts are drawn -/
structure Dr (K : PySem.W.Frag) (p wa nl PL OL : Addr) (ns : List Str) (rs : List Nat) (cs : List (V × PyData)) (bs : List Bool) (H0 H : Hp) : Prop where
  dk : DeckAt H p wa
  eP : H PL = some (.lst (cs.map (·.1)))
  eO : H OL = some (.lst (bs.map V.bl))
  eN : NamesAt H p nl ns
  al : Al3 rs cs bs
  th : ∀ c ∈ cs, ThS K [p, PL, OL] H c.1 c.2
  ke : Ke [p, PL, OL] H0 H
structure Ds (p wa nl PL OL : Addr) : Prop where
  a : PL ≠ p
  b : OL ≠ p
  c : PL ≠ OL
  d : nl ≠ PL
  e : nl ≠ OL
  f : nl ≠ p
  g : wa ≠ PL
  h : wa ≠ OL
theorem Dr.but {K : PySem.W.Frag} {p wa nl PL OL : Addr} {ns : List Str} {rs : List Nat} {cs : List (V × PyData)} {bs : List Bool} {H0 H H' : Hp} (D : Dr K p wa nl PL OL ns rs cs bs H0 H) (x : Ds p wa nl PL OL) (b : But p H H') (dk : DeckAt H' p wa) : Dr K p wa nl PL OL ns rs cs bs H0 H' := by
  have k : Ke [p, PL, OL] H H' := Ke.but (by simp) b
  obtain ⟨h1, h2, h3⟩ := D.eN
  exact ⟨dk, b _ _ D.eP x.a, b _ _ D.eO x.b, ⟨b _ _ h1 x.f, h2, h3⟩, D.al, fun c hc => (D.th c hc).to k, D.ke.trans k⟩
theorem role_n (c : Nat) : decide (V.str ⟨#[c]⟩ = V.str "n") = decide (c = 110) := by
  have h5 : ("n" : Str) = ⟨#[110]⟩ := by decide +kernel
  rw [h5]
  by_cases h : c = 110
  · rw [h]
    simp
  · have : ¬ V.str ⟨#[c]⟩ = V.str ⟨#[110]⟩ := fun z => by
      have h3 : (⟨#[c]⟩ : Str) = ⟨#[110]⟩ := by injection z
      have h4 := congrArg Str.cps h3
      exact h (by simpa using h4)
    simp [h]
theorem role_step {K : PySem.W.Frag} {mg : Str → Option Value} {g : Ads} {E : XK} {D : Ends} {p wa nl PL OL : Addr} {ns : List Str} {rs : List Nat} {cs : List (V × PyData)} {bs : List Bool} {H0 H : Hp} {v0 v1 v4 v5 v6 v11 v12 v13 v14 : Option V} {sh : Int} {r : Nat} (x : Ds p wa nl PL OL)
    (R : Dr K p wa nl PL OL ns rs cs bs H0 H) (l0 : cs.length ≤ 20) (s1 : 1 ≤ sh) (s6 : sh ≤ 6) (n0 : H PL ≠ none)
    (fin : ∀ H' cs' bs' v11, Dr K p wa nl PL OL ns (rs ++ [r]) cs' bs' H0 H' → D.nx [v0, v1, some (.ref p), some (.ref nl), v4, v5, v6, some (.ref PL), some (.ref OL), some (.int sh), some (.str ⟨#[r]⟩), v11, v12, v13, v14] H') :
    R_law_13 K g E D [v0, v1, some (.ref p), some (.ref nl), v4, v5, v6, some (.ref PL), some (.ref OL), some (.int sh), some (.str ⟨#[r]⟩), v11, v12, v13, v14] H := by
  refine ⟨p, wa, sh, rfl, R.dk, by omega, by omega, fun q H1 q0 q1 dk1 b1 => .inr (.inr (.inl ⟨rfl, ?_⟩))⟩
  have R1 := R.but x b1 dk1
  have rest : ∀ b : Bool, R_law_14 K g E D [v0, v1, some (.ref p), some (.ref nl), v4, v5, v6, some (.ref PL), some (.ref OL), some (.int sh), some (.str ⟨#[r]⟩), some (.bl b), v12, v13, v14] H1 := by
    intro b
    have lb : (bs.map V.bl).length < sizeLine := by
      have := R.al.len.2
      rw [List.length_map, this]
      exact Nat.lt_of_le_of_lt l0 (by decide)
    have lc : (cs.map (·.1)).length < sizeLine := by
      rw [List.length_map]
      exact Nat.lt_of_le_of_lt l0 (by decide)
    refine ⟨.inl ⟨rfl, _, SqL.of R1.eO⟩, OL, bs.map V.bl, .bl b, rfl, rfl, R1.eO, lb, ?_⟩
    -- behind the mark
    have dk2 : DeckAt (upd H1 OL (.lst (bs.map V.bl ++ [.bl b]))) p wa := R1.dk.put x.b.symm x.h
    have k2 : Ke [p, PL, OL] H1 (upd H1 OL (.lst (bs.map V.bl ++ [.bl b]))) := Ke.put (by simp)
    have eP2 : (upd H1 OL (.lst (bs.map V.bl ++ [.bl b]))) PL = some (.lst (cs.map (·.1))) := by
      rw [upd_ne x.c]
      exact R1.eP
    have eO2 : (upd H1 OL (.lst (bs.map V.bl ++ [.bl b]))) OL = some (.lst ((bs ++ [b]).map V.bl)) := by
      rw [upd_same, List.map_append]
      rfl
    have eN2 : NamesAt (upd H1 OL (.lst (bs.map V.bl ++ [.bl b]))) p nl ns := by
      obtain ⟨h1, h2, h3⟩ := R1.eN
      exact ⟨by rw [upd_ne x.e]; exact h1, h2, h3⟩
    show R_law_15 K g E D [v0, v1, some (.ref p), some (.ref nl), v4, v5, v6, some (.ref PL), some (.ref OL), some (.int sh), some (.str ⟨#[r]⟩), some (.bl b), v12, v13, v14] (upd H1 OL (.lst (bs.map V.bl ++ [.bl b])))
    generalize upd H1 OL (.lst (bs.map V.bl ++ [.bl b])) = H2 at dk2 k2 eP2 eO2 eN2 ⊢
    -- a part that is drawn
    have app : ∀ (v : V) (d : PyData) (H3 : Hp), ThS K [p, PL, OL] H3 v d → DeckAt H3 p wa → But p H2 H3 → (r = 110 → b = !isNameV v) → (r ≠ 110 → b = !isOperV v) →
        ∃ a xs y, V.ref PL = .ref a ∧ [v] = [y] ∧ H3 a = some (.lst xs) ∧ xs.length < sizeLine ∧ D.nx [v0, v1, some (.ref p), some (.ref nl), v4, v5, v6, some (.ref PL), some (.ref OL), some (.int sh), some (.str ⟨#[r]⟩), some (.bl b), v12, v13, v14] (upd H3 a (.lst (xs ++ [y]))) := by
      intro v d H3 tv dk3 b3 r1 r2
      have k3 : Ke [p, PL, OL] H2 H3 := Ke.but (by simp) b3
      have eP3 := b3 _ _ eP2 x.a
      refine ⟨PL, _, v, rfl, rfl, eP3, lc, fin _ (cs ++ [(v, d)]) (bs ++ [b]) _ ?_⟩
      have k4 : Ke [p, PL, OL] H3 (upd H3 PL (.lst (cs.map (·.1) ++ [v]))) := Ke.put (by simp)
      obtain ⟨h1, h2, h3⟩ := eN2
      refine ⟨dk3.put x.a.symm x.g, by rw [upd_same, List.map_append]; rfl, by rw [upd_ne x.c.symm]; exact b3 _ _ eO2 x.b, ⟨by rw [upd_ne x.d]; exact b3 _ _ h1 x.f, h2, h3⟩, R1.al.snoc r1 r2, fun c hc => ?_, ((R1.ke.trans k2).trans k3).trans k4⟩
      rcases List.mem_append.mp hc with hc | hc
      · exact ((R1.th c hc).to (k2.trans k3)).to k4
      · obtain rfl : c = (v, d) := by simpa using hc
        exact tv.to k4
    have pS : ∀ s ∈ [p, PL, OL], H2 s ≠ none := by
      intro s hs
      simp only [List.mem_cons, List.not_mem_nil, or_false] at hs
      rcases hs with rfl | rfl | rfl
      · obtain ⟨o, ho⟩ := dk2.some
        rw [ho]
        simp
      · rw [eP2]
        simp
      · rw [eO2]
        simp
    refine .inr (.inr (.inl ⟨rfl, ?_⟩))
    rw [role_n]
    refine zite (fun hr => ?_) (fun hr => ?_)
    · have hr' : r = 110 := of_decide_eq_true hr
      refine ⟨.inl ⟨rfl, _, SqL.of eP2⟩, zite (fun hb => ?_) (fun hb => ?_)⟩
      · refine ⟨p, wa, rfl, dk2, fun v d H3 tv is dk3 b3 => app v d H3 (Thing.same tv (nwr_hid pS)) dk3 b3 (fun _ => by rw [hb, is]; rfl) (fun z => absurd hr' z)⟩
      · obtain ⟨h1, h2, h3, h4, h5⟩ := eN2
        refine ⟨p, wa, nl, _, rfl, dk2, .inl (SqL.of h1), h2, by simpa using h3, by rw [List.length_map]; omega, fun j y H3 hy dk3 b3 => ?_⟩
        rw [List.getElem?_map] at hy
        cases e : ns[j]? with
        | none =>
          rw [e] at hy
          cases hy
        | some z =>
          rw [e] at hy
          cases hy
          have hz := h5 z (List.mem_of_getElem? e)
          exact app _ _ H3 (hz.th K _) dk3 b3 (fun _ => by rw [hb]; show false = !nameB z; rw [hz.1]; rfl) (fun z => absurd hr' z)
    · have hr' : r ≠ 110 := of_decide_eq_false hr
      refine ⟨.inl ⟨rfl, _, SqL.of eP2⟩, zite (fun hb => ?_) (fun hb => ?_)⟩
      · refine ⟨p, wa, rfl, dk2, fun v d H3 tv is dk3 b3 => app v d H3 (Thing.same tv (nwr_hid pS)) dk3 b3 (fun z => absurd z hr') (fun _ => by rw [hb, is]; rfl)⟩
      · refine ⟨p, wa, nl, ns, rfl, dk2, eN2, fun v d H3 tv is dk3 b3 => app v d H3 (tv _) dk3 b3 (fun z => absurd z hr') (fun _ => by rw [hb, is]; rfl)⟩
  exact zite (fun _ => rest _) (fun _ => rest _)
end Z
namespace Z
open PySem PySem.Spec PyProof.Rows L2
theorem paired_map {α β : Type} {R S : α → β → Prop} (k : ∀ x y, R x y → S x y) : ∀ {xs : List α} {ys : List β}, Paired R xs ys → Paired S xs ys
  | _, _, .nil => .nil
  | _, _, .cons r t => .cons (k _ _ r) (paired_map k t)
theorem ds_fit {K : PySem.W.Frag} {H : Hp} : ∀ {xs : List V} {ds : List PyData}, Paired (Thing K H) xs ds → PyData.showableAll ds = true ∧ PyData.leavesShortAll 22 ds = true ∧ PyData.weightAll ds ≤ 401 * ds.length ∧ PyData.depthAll ds ≤ 4
  | [], [], .nil => ⟨rfl, rfl, by simp [PyData.weightAll], by simp [PyData.depthAll]⟩
  | _ :: _, d :: ds, .cons t p => by
    obtain ⟨h1, h2, h3, h4⟩ := ds_fit p
    obtain ⟨a1, a2, a3, a4⟩ := t.fx
    refine ⟨by simp only [PyData.showableAll, a1, h1, Bool.and_self], by simp only [PyData.leavesShortAll, a2, h2, Bool.and_self], ?_, ?_⟩
    · simp only [PyData.weightAll, List.length_cons]
      omega
    · simp only [PyData.depthAll]
      omega
theorem ds_len {K : PySem.W.Frag} {H : Hp} {xs : List V} {ds : List PyData} (h : Paired (Thing K H) xs ds) (hl : ds.length ≤ 400) : (PyData.list ds).shown.length ≤ sizeLine := by
  obtain ⟨_, h2, h3, _⟩ := ds_fit h
  have := PyData.shown_le 22 (by decide) (.list ds) (by simpa only [PyData.leavesShort] using h2)
  have w : (PyData.list ds).weight ≤ 401 * 400 + 1 := by
    simp only [PyData.weight]
    omega
  have : (22 + 2) * (PyData.list ds).weight ≤ 24 * (401 * 400 + 1) := Nat.mul_le_mul (Nat.le_refl _) w
  rw [sizeLine_eq]
  omega
theorem th_pair {K : PySem.W.Frag} {H : Hp} : ∀ {cs : List (V × PyData)}, (∀ c ∈ cs, Thing K H c.1 c.2) → Paired (Thing K H) (cs.map (·.1)) (cs.map (·.2))
  | [], _ => .nil
  | c :: cs, h => .cons (h c (by simp)) (th_pair fun d hd => h d (by simp [hd]))
theorem smV_of {K : PySem.W.Frag} {H : Hp} {v : V} (h : Knd K H v) : SmV v := by
  cases v with
  | non => exact .inl rfl
  | bl b => exact .inr (.inl ⟨_, rfl⟩)
  | int i => exact .inr (.inr (.inl ⟨_, rfl⟩))
  | str z => exact .inr (.inr (.inr (.inl ⟨_, rfl⟩)))
  | ref a => exact .inr (.inr (.inr (.inr ⟨_, rfl⟩)))
  | _ => exact h.elim
theorem th_three {K : PySem.W.Frag} {H : Hp} : Thing K H (.int 3) (.int 3) := th_int (by decide) (by decide)
/-- the answer is compared, and so is what the parts look like -/
theorem ask_ok {K : PySem.W.Frag} {mg : Str → Option Value} {g : Ads} {E : XK} {D : Ends} {p wa nl PL OL : Addr} {ns : List Str} {wd z : Str} {cs : List (V × PyData)} {bs : List Bool} {many : Bool} {H0 H : Hp} {v0 v1 v9 v10 v11 v12 v13 v14 : Option V}
    (R : Dr K p wa nl PL OL ns z.cps.toList cs bs H0 H) (sh : Shp wd z.cps.toList many) (l0 : cs.length ≤ 20)
    (fin : ∀ H' v12, Same H H' → D.nx [v0, v1, some (.ref p), some (.ref nl), some (.str wd), some (.str z), some (.bl many), some (.ref PL), some (.ref OL), v9, v10, v11, v12, v13, v14] H') :
    R_law_19 K g E D [v0, v1, some (.ref p), some (.ref nl), some (.str wd), some (.str z), some (.bl many), some (.ref PL), some (.ref OL), v9, v10, v11, v12, v13, v14] H := by
  have th : ∀ c ∈ cs, Thing K H c.1 c.2 := fun c hc => (R.th c hc).th
  have lens := R.al.len
  have tp := th_pair th
  obtain ⟨f1, _, _, f4⟩ := ds_fit tp
  have ld : (cs.map (·.2)).length ≤ 400 := by
    rw [List.length_map]
    omega
  have f5 := ds_len tp ld
  have dp : ∀ H', Same H H' → Paired (DpR2 K H') (cs.map (·.1)) (cs.map (·.2)) := fun H' s => paired_map (fun _ _ t => .inl t.dp) (th_pair fun c hc => (th c hc).same s)
  refine ⟨PL, _, _, rfl, SqL.of R.eP, dp H (Same.refl H), f1, Nat.le_trans f4 (by decide), f5, ?_⟩
  refine ⟨wd, PL, cs, _, rfl, SqL.of R.eP, th, by omega, shp_req sh R.al, fun k v d e => ?_, fun l H1 s1 e1 => ⟨z, PL, OL, cs, bs, many, rfl, SqL.of (s1 _ _ R.eP), SqL.of (s1 _ _ R.eO), fun c hc => (th c hc).same s1, by omega, lens.2, lens.1, fun l2 H2 s2 e2 => .inl ⟨l, l2, _, rfl, rfl, SqL.of (s2 _ _ e1), SqL.of e2, ?_, zite (fun h => absurd h (by simp)) fun _ => ?_⟩⟩⟩
  · rcases due_src e with h | ⟨rfl, rfl⟩
    · exact ⟨(th _ h).dp, (th _ h).fx⟩
    · exact ⟨(th_three (K := K) (H := H)).dp, (th_three (K := K) (H := H)).fx⟩
  · cases e : dueO z.cps.toList cs bs many with
    | ok =>
      intro v hv
      have : v = .str "made" := by simpa [toldL] using hv
      rw [this]
      exact .inr (.inr (.inr (.inl ⟨_, rfl⟩)))
    | err k v d =>
      have hv : SmV v := by
        rcases due_src e with h | ⟨rfl, rfl⟩
        · exact smV_of (th _ h).kn
        · exact .inr (.inr (.inl ⟨_, rfl⟩))
      intro u hu
      have : u = .str k.n ∨ u = v ∨ u = .str d.shown ∨ u = .bl true := by simpa [toldL] using hu
      rcases this with rfl | rfl | rfl | rfl
      · exact .inr (.inr (.inr (.inl ⟨_, rfl⟩)))
      · exact hv
      · exact .inr (.inr (.inr (.inl ⟨_, rfl⟩)))
      · exact .inr (.inl ⟨_, rfl⟩)
  · have s12 := s1.trans s2
    exact ⟨PL, _, _, rfl, SqL.of (s12 _ _ R.eP), dp H2 s12, f1, Nat.le_trans f4 (by decide), f5, .inr (.inl ⟨rfl, zite (fun h => absurd h (by simp)) fun _ => fin H2 _ s12⟩)⟩
theorem parts_ok {K : PySem.W.Frag} {mg : Str → Option Value} {g : Ads} {E : XK} {D : Ends} {p wa nl : Addr} {ns : List Str} {wd z : Str} {many : Bool} {H : Hp} {v0 v1 v7 v8 v9 v10 v11 v12 v13 v14 : Option V}
    (dk : DeckAt H p wa) (eN : NamesAt H p nl ns) (sh : Shp wd z.cps.toList many) (l20 : z.cps.toList.length ≤ 20)
    (fin : ∀ H' v7 v8 v9 v10 v11 v12, DeckAt H' p wa → But p H H' → D.nx [v0, v1, some (.ref p), some (.ref nl), some (.str wd), some (.str z), some (.bl many), v7, v8, v9, v10, v11, v12, v13, v14] H') :
    R_law_11 K g E D [v0, v1, some (.ref p), some (.ref nl), some (.str wd), some (.str z), some (.bl many), v7, v8, v9, v10, v11, v12, v13, v14] H := by
  refine ⟨show 0 ≤ sizeLine by decide, fun PL hP => ⟨show 0 ≤ sizeLine by decide, fun OL hO => ⟨show 4 ≤ sizeLine by decide, fun SL hS => ?_⟩⟩⟩
  obtain ⟨op, hp⟩ := dk.some
  obtain ⟨ow, hw⟩ := dk.wa
  obtain ⟨n1, n2, n3, n4, n5⟩ := eN
  have u1 := Same.put (o := .lst []) hP
  have u2 := Same.put (o := .lst []) hO
  have u3 := Same.put (o := .lst [.int 1, .int 2, .int 3, .int 6]) hS
  have s3 := (u1.trans u2).trans u3
  have hOH : H OL = none := u1.free hO
  have hSH : H SL = none := (u1.trans u2).free hS
  have x : Ds p wa nl PL OL := ⟨ne_of_none hp hP |>.symm, ne_of_none hp hOH |>.symm, ne_of_none upd_same hO, ne_of_none n1 hP, ne_of_none n1 hOH, n2, ne_of_none hw hP, ne_of_none hw hOH⟩
  have eP := u3 _ _ (u2 _ _ (upd_same (H := H) (a := PL) (o := .lst [])))
  have eO := u3 _ _ (upd_same (H := upd H PL (.lst [])) (a := OL) (o := .lst []))
  have eS := upd_same (H := upd (upd H PL (.lst [])) OL (.lst [])) (a := SL) (o := .lst [.int 1, .int 2, .int 3, .int 6])
  generalize upd (upd (upd H PL (.lst [])) OL (.lst [])) SL (.lst [.int 1, .int 2, .int 3, .int 6]) = H3 at u3 s3 eP eO eS ⊢
  refine ⟨p, wa, SL, [.int 1, .int 2, .int 3, .int 6], rfl, dk.same s3, .inl (SqL.of eS), (ne_of_none hp hSH).symm, by simp, by simp, fun j y H4 hj dk4 b4 => ⟨_, _, _, rfl, ?_⟩⟩
  obtain ⟨m, rfl, m1, m6⟩ : ∃ m : Int, y = .int m ∧ 1 ≤ m ∧ m ≤ 6 := by
    have := List.mem_of_getElem? hj
    simp only [List.mem_cons, List.not_mem_nil, or_false] at this
    rcases this with rfl | rfl | rfl | rfl
    · exact ⟨1, rfl, by decide, by decide⟩
    · exact ⟨2, rfl, by decide, by decide⟩
    · exact ⟨3, rfl, by decide, by decide⟩
    · exact ⟨6, rfl, by decide, by decide⟩
  have bb : But p H H4 := (But.same s3).trans b4
  have hsz : z.cps.size = z.cps.toList.length := by simp
  refine ⟨z, rfl, for_z (walk_str (z := z)) (fun i σ H' => ∃ cs bs v10 v11, Dr K p wa nl PL OL ns (z.cps.toList.take i) cs bs H4 H' ∧ σ = [v0, v1, some (.ref p), some (.ref nl), some (.str wd), some (.str z), some (.bl many), some (.ref PL), some (.ref OL), some (.int m), v10, v11, v12, v13, v14])
    ⟨[], [], v10, v11, ⟨dk4, b4 _ _ eP x.a, b4 _ _ eO x.b, ⟨bb _ _ n1 n2, n2, n3, n4, n5⟩, .nil, (fun c hc => by simp at hc), Ke.refl _ _⟩, rfl⟩ (fun _ _ _ _ _ => trivial) ?_ ?_⟩
  · rintro i y σ H5 H5' hi ⟨cs, bs, w10, w11, R, rfl⟩ ⟨rfl, c, hc, rfl⟩
    have l0 : cs.length ≤ 20 := by
      rw [← R.al.len.1, List.length_take]
      omega
    refine role_step (mg := mg) x R l0 m1 m6 (by rw [R.eP]; simp) fun H6 cs' bs' v11' R' => ⟨cs', bs', _, _, ?_, rfl⟩
    have hc2 : z.cps.toList[i]? = some c := by simpa using hc
    have e : z.cps.toList.take (i + 1) = z.cps.toList.take i ++ [c] := by
      rw [List.take_add_one, hc2]
      rfl
    rw [e]
    exact R'
  · rintro σ H5 ⟨cs, bs, w10, w11, R, rfl⟩
    rw [hsz, List.take_length] at R
    have l0 : cs.length ≤ 20 := by
      rw [← R.al.len.1]
      exact l20
    refine ask_ok (mg := mg) R sh l0 fun H6 v12' s6 => fin H6 _ _ _ _ _ _ (R.dk.same s6) ?_
    -- what was there stays but for the deck
    intro b o eo nb
    have n7 : b ≠ PL := ne_of_none eo hP
    have n8 : b ≠ OL := ne_of_none eo hOH
    exact s6 _ _ (R.ke _ _ (by simp [nb, n7, n8]) (bb _ _ eo nb))
end Z
namespace Z
open PySem PySem.Spec PyProof.Rows L2
def holdWork : List V := [.str "holds", .str "work"]
def roleKvs : List (Key × V) := [(.inr "read", .str "nn"), (.inr "has", .str "o"), (.inr "typed", .str "n"), (.inr "holds", .str "n"), (.inr "work", .str "nn")]
theorem NamesAt.same {H H' : Hp} {p nl : Addr} {ns : List Str} (h : NamesAt H p nl ns) (s : Same H H') : NamesAt H' p nl ns := by
  obtain ⟨h1, h2, h3⟩ := h
  exact ⟨s _ _ h1, h2, h3⟩
theorem NamesAt.but {H H' : Hp} {p nl : Addr} {ns : List Str} (h : NamesAt H p nl ns) (b : But p H H') : NamesAt H' p nl ns := by
  obtain ⟨h1, h2, h3⟩ := h
  exact ⟨b _ _ h1 h2, h2, h3⟩
section
variable {K : PySem.W.Frag} {g : Ads} {E : XK} {D : Ends} {p wa nl : Addr} {ns : List Str} {wd z : Str} {many hw : Bool} {H : Hp} {v0 v1 v5 v6 v7 v8 v9 v10 v11 v12 v13 v14 : Option V}
theorem from10 (c1 : inV (.str wd) holdWork = hw) (c2 : hw = true → decide (3 < Txt.count z "o") = many) (c3 : hw = false → many = false) (dk : DeckAt H p wa) (eN : NamesAt H p nl ns) (sh : Shp wd z.cps.toList many) (l20 : z.cps.toList.length ≤ 20)
    (fin : ∀ H' v5 v6 v7 v8 v9 v10 v11 v12, DeckAt H' p wa → But p H H' → D.nx [v0, v1, some (.ref p), some (.ref nl), some (.str wd), v5, v6, v7, v8, v9, v10, v11, v12, v13, v14] H') :
    R_law_10 K g E D [v0, v1, some (.ref p), some (.ref nl), some (.str wd), some (.str z), v6, v7, v8, v9, v10, v11, v12, v13, v14] H := by
  refine ⟨show 2 ≤ sizeLine by decide, fun l hl => ?_⟩
  have s1 := Same.put (o := .lst holdWork) hl
  have el := upd_same (H := H) (a := l) (o := .lst holdWork)
  have rest : ∀ b : Bool, b = many → R_law_11 K g E D [v0, v1, some (.ref p), some (.ref nl), some (.str wd), some (.str z), some (.bl b), v7, v8, v9, v10, v11, v12, v13, v14] (upd H l (.lst holdWork)) := by
    rintro b rfl
    exact parts_ok (mg := fun _ => none) (dk.same s1) (eN.same s1) sh l20 fun H' v7 v8 v9 v10 v11 v12 dk' b' => fin H' _ _ _ _ _ _ _ _ dk' ((But.same s1).trans b')
  refine .inr ⟨l, holdWork, rfl, .inl (SqL.of el), rfl, rfl, ?_⟩
  show (if inV (.str wd) holdWork = true then _ else _)
  rw [c1]
  refine zite (fun h => ?_) (fun h => ?_)
  · exact ⟨rfl, z, "o", rfl, rfl, rest _ (c2 h)⟩
  · exact rest false (c3 h).symm
theorem from8 (nr : decide (V.str wd = V.str "read") = false) (c1 : inV (.str wd) holdWork = hw) (c2 : hw = true → decide (3 < Txt.count z "o") = many) (c3 : hw = false → many = false) (dk : DeckAt H p wa) (eN : NamesAt H p nl ns) (sh : Shp wd z.cps.toList many) (l20 : z.cps.toList.length ≤ 20)
    (fin : ∀ H' v5 v6 v7 v8 v9 v10 v11 v12, DeckAt H' p wa → But p H H' → D.nx [v0, v1, some (.ref p), some (.ref nl), some (.str wd), v5, v6, v7, v8, v9, v10, v11, v12, v13, v14] H') :
    R_law_8 K g E D [v0, v1, some (.ref p), some (.ref nl), some (.str wd), some (.str z), v6, v7, v8, v9, v10, v11, v12, v13, v14] H := by
  refine .inr (.inr (.inl ⟨rfl, ?_⟩))
  show (if decide (V.str wd = V.str "read") = true then _ else _)
  rw [nr]
  exact from10 c1 c2 c3 dk eN sh l20 fin
theorem lit_nn : ("nn" : Str).cps.toList = [110, 110] ∧ ("nno" : Str).cps.toList = [110, 110, 111] := by decide +kernel
theorem read8 (dk : DeckAt H p wa) (eN : NamesAt H p nl ns)
    (fin : ∀ H' v5 v6 v7 v8 v9 v10 v11 v12, DeckAt H' p wa → But p H H' → D.nx [v0, v1, some (.ref p), some (.ref nl), some (.str "read"), v5, v6, v7, v8, v9, v10, v11, v12, v13, v14] H') :
    R_law_8 K g E D [v0, v1, some (.ref p), some (.ref nl), some (.str "read"), some (.str "nn"), v6, v7, v8, v9, v10, v11, v12, v13, v14] H := by
  obtain ⟨e1, e2⟩ := lit_nn
  refine .inr (.inr (.inl ⟨rfl, zite (fun _ => ?_) (fun h => absurd h (by decide))⟩))
  refine ⟨p, wa, 2, rfl, dk, by decide, by decide, fun r H1 r0 r2 dk1 b1 => .inr (.inr (.inl ⟨rfl, zite (fun _ => ?_) (fun _ => ?_)⟩))⟩
  · exact from10 (hw := false) (many := false) (by decide +kernel) (fun h => by cases h) (fun _ => rfl) dk1 (eN.but b1) (by rw [e2]; exact .read3) (by rw [e2]; decide) fun H' v5 v6 v7 v8 v9 v10 v11 v12 dk' b' => fin H' _ _ _ _ _ _ _ _ dk' (b1.trans b')
  · exact from10 (hw := false) (many := false) (by decide +kernel) (fun h => by cases h) (fun _ => rfl) dk1 (eN.but b1) (by rw [e1]; exact .read2) (by rw [e1]; decide) fun H' v5 v6 v7 v8 v9 v10 v11 v12 dk' b' => fin H' _ _ _ _ _ _ _ _ dk' (b1.trans b')
/-- the words without a row of operands -/
theorem from6 (c1 : inV (.str wd) holdWork = false) (dk : DeckAt H p wa)
    (rest : ∀ H', Same H H' → R_law_8 K g E D [v0, v1, some (.ref p), some (.ref nl), some (.str wd), some (.str z), v6, v7, v8, v9, v10, v11, v12, v13, v14] H') :
    R_law_6 K g E D [v0, v1, some (.ref p), some (.ref nl), some (.str wd), some (.str z), v6, v7, v8, v9, v10, v11, v12, v13, v14] H := by
  refine ⟨show 2 ≤ sizeLine by decide, fun l hl => ?_⟩
  have s1 := Same.put (o := .lst holdWork) hl
  refine .inr ⟨l, holdWork, rfl, .inl (SqL.of upd_same), rfl, rfl, ?_⟩
  show (if inV (.str wd) holdWork = true then _ else _)
  rw [c1]
  exact rest _ s1
/-- the words with a row of operands -/
theorem more6 (c1 : inV (.str wd) holdWork = true) (nr : decide (V.str wd = V.str "read") = false) (lz : z.length ≤ 9) (dk : DeckAt H p wa) (eN : NamesAt H p nl ns)
    (sh : ∀ k : Nat, k < 6 → Shp wd (z ++ cutS "ooooo" none (some (k : Int))).cps.toList (decide (3 < k)) ∧ decide (3 < Txt.count (z ++ cutS "ooooo" none (some (k : Int))) "o") = decide (3 < k) ∧ (z ++ cutS "ooooo" none (some (k : Int))).cps.toList.length ≤ 20 ∧ (cutS "ooooo" none (some (k : Int))).length ≤ 9)
    (fin : ∀ H' v5 v6 v7 v8 v9 v10 v11 v12, DeckAt H' p wa → But p H H' → D.nx [v0, v1, some (.ref p), some (.ref nl), some (.str wd), v5, v6, v7, v8, v9, v10, v11, v12, v13, v14] H') :
    R_law_6 K g E D [v0, v1, some (.ref p), some (.ref nl), some (.str wd), some (.str z), v6, v7, v8, v9, v10, v11, v12, v13, v14] H := by
  refine ⟨show 2 ≤ sizeLine by decide, fun l hl => ?_⟩
  have s1 := Same.put (o := .lst holdWork) hl
  refine .inr ⟨l, holdWork, rfl, .inl (SqL.of upd_same), rfl, rfl, ?_⟩
  show (if inV (.str wd) holdWork = true then _ else _)
  rw [c1]
  refine ⟨p, wa, 6, rfl, dk.same s1, by decide, by decide, fun r H1 r0 r6 dk1 b1 => ⟨r, rfl, "ooooo", rfl, by decide +kernel, ?_⟩⟩
  obtain ⟨k, rfl⟩ : ∃ k : Nat, r = k := ⟨r.toNat, by omega⟩
  obtain ⟨h1, h2, h3, h4⟩ := sh k (by omega)
  refine ⟨?_, ?_⟩
  · exact Nat.le_trans (show z.length + (cutS "ooooo" none (some (k : Int))).length ≤ 18 by omega) (by decide)
  · exact from8 nr c1 (fun _ => h2) (fun h => by cases h) dk1 ((eN.same s1).but b1) h1 h3 fun H' v5 v6 v7 v8 v9 v10 v11 v12 dk' b' => fin H' _ _ _ _ _ _ _ _ dk' (((But.same s1).trans b1).trans b')
end
theorem cuts_ok : ∀ k : Nat, k < 6 → ("n" ++ cutS "ooooo" none (some (k : Int)) : Str).cps.toList = 110 :: List.replicate k 111 ∧ ("nn" ++ cutS "ooooo" none (some (k : Int)) : Str).cps.toList = 110 :: 110 :: List.replicate k 111 ∧
    decide (3 < Txt.count ("n" ++ cutS "ooooo" none (some (k : Int))) "o") = decide (3 < k) ∧ decide (3 < Txt.count ("nn" ++ cutS "ooooo" none (some (k : Int))) "o") = decide (3 < k) ∧
    (cutS "ooooo" none (some (k : Int))).length ≤ 9 := by decide +kernel
end Z
namespace Z
open PySem PySem.Spec PyProof.Rows L2
def nineW : List V := [.str "read", .str "let", .str "put", .str "keep", .str "show", .str "has", .str "typed", .str "holds", .str "work"]
section
variable {K : PySem.W.Frag} {mg : Str → Option Value} {g : Ads} {E : XK} {D : Ends} {p wa nl : Addr} {ns : List Str} {wd z : Str} {H : Hp} {v0 v1 v3 v4 v5 v6 v7 v8 v9 v10 v11 v12 v13 v14 : Option V}
theorem get5 (e : (valV (mergeK [] roleKvs) (.inr wd)).getD (.str "no") = .str z)
    (rest : ∀ H', Same H H' → R_law_6 K g E D [v0, v1, some (.ref p), some (.ref nl), some (.str wd), some (.str z), v6, v7, v8, v9, v10, v11, v12, v13, v14] H') :
    R_law_5 K g E D [v0, v1, some (.ref p), some (.ref nl), some (.str wd), v5, v6, v7, v8, v9, v10, v11, v12, v13, v14] H := by
  intro q hq
  refine ⟨upd_same, roleKvs, rfl, by decide, q, rfl, .inl ⟨_, .inl upd_same⟩, valV (mergeK [] roleKvs) (.inr wd), .inl ⟨_, .inr wd, .inl upd_same, rfl, rfl⟩, ?_⟩
  rw [e, upd_upd]
  exact rest _ (Same.put hq)
theorem lit_rl : ("no" : Str).cps.toList = [110, 111] ∧ ("o" : Str).cps.toList = [111] ∧ ("n" : Str).cps.toList = [110] := by decide +kernel
theorem word_ok {x : V} (hx : x ∈ nineW) (dk : DeckAt H p wa) (eN : NamesAt H p nl ns)
    (fin : ∀ H' v4 v5 v6 v7 v8 v9 v10 v11 v12, DeckAt H' p wa → But p H H' → D.nx [v0, v1, some (.ref p), some (.ref nl), v4, v5, v6, v7, v8, v9, v10, v11, v12, v13, v14] H') :
    R_law_5 K g E D [v0, v1, some (.ref p), some (.ref nl), some x, v5, v6, v7, v8, v9, v10, v11, v12, v13, v14] H := by
  obtain ⟨e1, e2, e3⟩ := lit_rl
  have fin2 : ∀ {H1 : Hp}, Same H H1 → ∀ (wd : Str) H' v5 v6 v7 v8 v9 v10 v11 v12, DeckAt H' p wa → But p H1 H' → D.nx [v0, v1, some (.ref p), some (.ref nl), some (.str wd), v5, v6, v7, v8, v9, v10, v11, v12, v13, v14] H' :=
    fun s wd H' v5 v6 v7 v8 v9 v10 v11 v12 d b => fin H' _ _ _ _ _ _ _ _ _ d ((But.same s).trans b)
  have no_ok : ∀ wd : Str, (valV (mergeK [] roleKvs) (.inr wd)).getD (.str "no") = .str "no" → inV (.str wd) holdWork = false → decide (V.str wd = V.str "read") = false → Shp wd [110, 111] false →
      R_law_5 K g E D [v0, v1, some (.ref p), some (.ref nl), some (.str wd), v5, v6, v7, v8, v9, v10, v11, v12, v13, v14] H := fun wd h1 h2 h3 h4 =>
    get5 h1 fun H1 s1 => from6 h2 (dk.same s1) fun H2 s2 => from8 h3 h2 (fun h => by cases h) (fun _ => rfl) (dk.same (s1.trans s2)) (eN.same (s1.trans s2)) (by rw [e1]; exact h4) (by rw [e1]; decide) (fin2 (s1.trans s2) wd)
  simp only [nineW, List.mem_cons, List.not_mem_nil, or_false] at hx
  rcases hx with rfl | rfl | rfl | rfl | rfl | rfl | rfl | rfl | rfl
  · exact get5 (z := "nn") (by decide +kernel) fun H1 s1 => from6 (by decide +kernel) (dk.same s1) fun H2 s2 => read8 (dk.same (s1.trans s2)) (eN.same (s1.trans s2)) (fin2 (s1.trans s2) "read")
  · exact no_ok "let" (by decide +kernel) (by decide +kernel) (by decide +kernel) .let_
  · exact no_ok "put" (by decide +kernel) (by decide +kernel) (by decide +kernel) .put
  · exact no_ok "keep" (by decide +kernel) (by decide +kernel) (by decide +kernel) .keep
  · exact no_ok "show" (by decide +kernel) (by decide +kernel) (by decide +kernel) .show_
  · exact get5 (z := "o") (by decide +kernel) fun H1 s1 => from6 (by decide +kernel) (dk.same s1) fun H2 s2 => from8 (by decide +kernel) (hw := false) (by decide +kernel) (fun h => by cases h) (fun _ => rfl) (dk.same (s1.trans s2)) (eN.same (s1.trans s2)) (by rw [e2]; exact .has) (by rw [e2]; decide) (fin2 (s1.trans s2) "has")
  · exact get5 (z := "n") (by decide +kernel) fun H1 s1 => from6 (by decide +kernel) (dk.same s1) fun H2 s2 => from8 (by decide +kernel) (hw := false) (by decide +kernel) (fun h => by cases h) (fun _ => rfl) (dk.same (s1.trans s2)) (eN.same (s1.trans s2)) (by rw [e3]; exact .typed) (by rw [e3]; decide) (fin2 (s1.trans s2) "typed")
  · refine get5 (z := "n") (by decide +kernel) fun H1 s1 => more6 (by decide +kernel) (by decide +kernel) (by decide +kernel) (dk.same s1) (eN.same s1) (fun k hk => ?_) (fin2 s1 "holds")
    obtain ⟨c1, c2, c3, c4, c5⟩ := cuts_ok k hk
    rw [c1]
    refine ⟨.holds k, c3, ?_, c5⟩
    simp only [List.length_cons, List.length_replicate]
    omega
  · refine get5 (z := "nn") (by decide +kernel) fun H1 s1 => more6 (by decide +kernel) (by decide +kernel) (by decide +kernel) (dk.same s1) (eN.same s1) (fun k hk => ?_) (fin2 s1 "work")
    obtain ⟨c1, c2, c3, c4, c5⟩ := cuts_ok k hk
    rw [c2]
    refine ⟨.work k, c4, ?_, c5⟩
    simp only [List.length_cons, List.length_replicate]
    omega
theorem words_ok (dk : DeckAt H p wa) (eN : NamesAt H p nl ns)
    (fin : ∀ H' v4 v5 v6 v7 v8 v9 v10 v11 v12, DeckAt H' p wa → But p H H' → D.nx [v0, v1, some (.ref p), some (.ref nl), v4, v5, v6, v7, v8, v9, v10, v11, v12, v13, v14] H') :
    R_law_4 K g E D [v0, v1, some (.ref p), some (.ref nl), v4, v5, v6, v7, v8, v9, v10, v11, v12, v13, v14] H := by
  refine ⟨show 9 ≤ sizeLine by decide, fun W hW => ?_⟩
  have s1 := Same.put (o := .lst nineW) hW
  obtain ⟨op, hp⟩ := dk.some
  have nW : W ≠ p := (ne_of_none hp hW).symm
  refine ⟨W, rfl, ⟨_, SqL.of upd_same⟩, for_z (walk_list (xs := nineW)) (fun i σ H' => DeckAt H' p wa ∧ But p (upd H W (.lst nineW)) H' ∧ ∃ v4 v5 v6 v7 v8 v9 v10 v11 v12, σ = [v0, v1, some (.ref p), some (.ref nl), v4, v5, v6, v7, v8, v9, v10, v11, v12, v13, v14])
    ⟨dk.same s1, But.refl _ _, _, _, _, _, _, _, _, _, _, rfl⟩ (fun i σ H' _ h => SqL.of (h.2.1 _ _ upd_same nW)) ?_ ?_⟩
  · rintro i x σ H1 H2 hi ⟨dk1, b1, w4, w5, w6, w7, w8, w9, w10, w11, w12, rfl⟩ ⟨rfl, hx⟩
    refine word_ok (List.mem_of_getElem? hx) dk1 ((eN.same s1).but b1) fun H3 _ _ _ _ _ _ _ _ _ dk3 b3 => ⟨dk3, b1.trans b3, _, _, _, _, _, _, _, _, _, rfl⟩
  · rintro σ H1 ⟨dk1, b1, w4, w5, w6, w7, w8, w9, w10, w11, w12, rfl⟩
    exact fin H1 _ _ _ _ _ _ _ _ _ dk1 ((But.same s1).trans b1)
theorem lit_az : ∀ z ∈ (["a", "zzzzzzzz"] : List Str), nameB z = true ∧ z.length ≤ 60 ∧ ∀ c ∈ z.cps.toList, c < 128 := by decide +kernel
theorem names_ok (dk : DeckAt H p wa)
    (fin : ∀ H' v3 v4 v5 v6 v7 v8 v9 v10 v11 v12, DeckAt H' p wa → But p H H' → D.nx [v0, v1, some (.ref p), v3, v4, v5, v6, v7, v8, v9, v10, v11, v12, v13, v14] H') :
    R_law_3 K g E D [v0, v1, some (.ref p), v3, v4, v5, v6, v7, v8, v9, v10, v11, v12, v13, v14] H := by
  refine ⟨p, wa, 4, rfl, dk, by decide, by decide, fun ah stem first L H1 hs f0 f1 dk1 b1 hL e1 => ⟨show 2 ≤ sizeLine by decide, fun M hM => ?_⟩⟩
  have s2 := Same.put (o := .lst [.str "a", .str "zzzzzzzz"]) hM
  refine ⟨_, _, s2 _ _ e1, upd_same, by rw [List.length_map, List.length_range]; decide, fun nl hn => ?_⟩
  have s3 := Same.put (o := .lst ((List.range (4 : Int).toNat).map (fun k => V.str (nmOf ah stem first k)) ++ [.str "a", .str "zzzzzzzz"])) hn
  have s23 := s2.trans s3
  have dk3 := dk1.same s23
  refine words_ok (ns := (List.range (4 : Int).toNat).map (fun k => nmOf ah stem first k) ++ (["a", "zzzzzzzz"] : List Str)) dk3 ⟨?_, (dk1.same s2).ne hn, by simp, by simp, fun z hz => ?_⟩ fun H' _ _ _ _ _ _ _ _ _ dk' b' => fin H' _ _ _ _ _ _ _ _ _ _ dk' ((b1.trans (But.same s23)).trans b')
  · rw [upd_same, List.map_append, List.map_map]
    rfl
  · rcases List.mem_append.mp hz with h | h
    · obtain ⟨k, _, rfl⟩ := List.mem_map.mp h
      obtain ⟨a1, a2, a3⟩ := nm_ok (ah := ah) k hs f0 f1
      exact ⟨a1, by omega, a3⟩
    · exact lit_az z h
end
end Z
namespace Z
open PySem PySem.Spec PyProof.Rows L2
def endsV : List V := [.int (10 ^ (20 : Int).toNat - 1), .int (1 - 10 ^ (20 : Int).toNat), .int 0, .non, .str "a", .str "abcdefgh", .str "nones"]
theorem names_a : isNameV (.str "a") = true ∧ isNameV (.str "f") = true ∧ isNameV (.str "t") = true ∧ isNameV (.str "b") = true ∧ isOperV (.str "b") = true ∧ isOperV (.int 1) = true ∧ isOperV .non = true ∧ ∀ v ∈ endsV, isOperV v = true := by decide +kernel
def csW : List (V × PyData) := [(.int 1, .int 1), (.str "b", .str "b")]
def csH : List (V × PyData) := [(.non, .none)]
theorem out_work : (chk [(true, .str "a", .none), (true, .str "f", .none)]).and (chkOps csW) = .ok := by
  obtain ⟨h1, h2, h3, h4, h5, h6, h7, h8⟩ := names_a
  simp [chk, chkOps, csW, h1, h2, h5, h6, Out.and]
theorem out_holds : (chk [(true, .str "t", .none)]).and (chkOps csH) = .ok := by
  obtain ⟨h1, h2, h3, h4, h5, h6, h7, h8⟩ := names_a
  simp [chk, chkOps, csH, h3, h7, Out.and]
theorem out_let {v : V} (h : v ∈ endsV) : chk [(true, .str "a", .none), (false, v, .none)] = .ok := by
  obtain ⟨h1, h2, h3, h4, h5, h6, h7, h8⟩ := names_a
  simp [chk, h1, h8 v h]
theorem out_read : (chk [(true, .str "a", .none), (true, .str "b", .none)]).and (if true = true then .ok else chk [(false, .non, .none)]) = .ok := by
  obtain ⟨h1, h2, h3, h4, h5, h6, h7, h8⟩ := names_a
  simp [chk, h1, h4, Out.and]
theorem errs_no {g : Ads} {o : Out} {H : Hp} {E : XK} (h : o = .ok) : Errs g o H E := fun k v d e => by rw [h] at e; cases e
theorem errsB_no {g : Ads} {a : Addr} {o : Out} {H : Hp} {E : XK} (h : o = .ok) : ErrsB g a o H E := fun k v d e => by rw [h] at e; cases e
theorem knd_ends {K : PySem.W.Frag} {H : Hp} {v : V} (h : v ∈ endsV) : Knd K H v := by
  simp only [endsV, List.mem_cons, List.not_mem_nil, or_false] at h
  rcases h with rfl | rfl | rfl | rfl | rfl | rfl | rfl
  · exact trivial
  · exact trivial
  · exact trivial
  · exact trivial
  · exact (show ("a" : Str).length ≤ 1000 by decide +kernel)
  · exact (show ("abcdefgh" : Str).length ≤ 1000 by decide +kernel)
  · exact (show ("nones" : Str).length ≤ 1000 by decide +kernel)
theorem knd_s {K : PySem.W.Frag} {H : Hp} : Knd K H (.str "a") ∧ Knd K H (.str "f") ∧ Knd K H (.str "t") ∧ Knd K H (.str "b") :=
  ⟨show ("a" : Str).length ≤ 1000 by decide +kernel, show ("f" : Str).length ≤ 1000 by decide +kernel, show ("t" : Str).length ≤ 1000 by decide +kernel, show ("b" : Str).length ≤ 1000 by decide +kernel⟩
theorem knd_csW {K : PySem.W.Frag} {H : Hp} : ∀ c ∈ csW, Knd K H c.1 := by
  intro c hc
  simp only [csW, List.mem_cons, List.not_mem_nil, or_false] at hc
  rcases hc with rfl | rfl
  · exact trivial
  · exact knd_s.2.2.2
theorem knd_csH {K : PySem.W.Frag} {H : Hp} : ∀ c ∈ csH, Knd K H c.1 := by
  intro c hc
  simp only [csH, List.mem_cons, List.not_mem_nil, or_false] at hc
  rw [hc]
  exact trivial
theorem empty_eqv : PyData.eqv (.tuple []) (.tuple []) = true ∧ SeqAt.shaped (.tuple []) = true := by decide +kernel
section
variable {K : PySem.W.Frag} {mg : Str → Option Value} {g : Ads} {E : XK} {D : Ends} {H : Hp} {v0 v1 v2 v3 v4 v5 v6 v7 v8 v9 v10 v11 v12 v13 v14 : Option V}
theorem last_ok (T : Txt K mg g) (fin : ∀ H', D.rt (.bl true) H') : R_law_24 K g E D [v0, v1, v2, v3, v4, v5, v6, v7, v8, v9, v10, v11, v12, v13, v14] H := by
  obtain ⟨ka, kf, kt, kb⟩ := knd_s (K := K) (H := H)
  refine ⟨⟨by decide, by decide, by decide⟩, ⟨by decide, by decide, by decide⟩, show 7 ≤ sizeLine by decide, fun L hL => ?_⟩
  have eL := upd_same (H := H) (a := L) (o := .lst endsV)
  show R_law_25 K g E D [v0, v1, v2, v3, v4, v5, v6, v7, v8, v9, v10, v11, v12, some (.ref L), v14] (upd H L (.lst endsV))
  generalize upd H L (.lst endsV) = H1 at eL
  refine ⟨L, rfl, ⟨_, SqL.of eL⟩, lc_z (walk_list (xs := endsV)) (fun D i H' => Same H1 H' ∧ H' D = some (.lst (endsV.take i))) (fun D hD => ⟨Same.put hD, upd_same⟩) (fun D i H' hD hi h => SqL.of (h.1 _ _ eL)) (fun D i x H2 H2' hD hi ⟨s2, eD⟩ yy => ?_) (fun D H2 hD ⟨s2, eD⟩ => ?_)⟩
  · obtain ⟨rfl, hx⟩ := yy
    have mx := List.mem_of_getElem? hx
    refine ⟨rfl, fun o dx ho hd ne => ?_⟩
    obtain ⟨s3, _⟩ := mk_same (C := g.c_Let) ho hd ne
    refine ⟨o, dx, .str "a", x, .none, .none, rfl, upd_same, knd_s.1, knd_ends mx, fun _ H3 b3 e3 => ⟨rfl, o, g.c_Let, dx, _, x, rfl, e3, T.cl_Let, T.na_Let_value, rfl, ?_⟩, errsB_no (out_let mx)⟩
    have s4 : Same H2' H3 := mk_out ho s3 b3
    refine ⟨_, s4 _ _ eD, ?_, ?_⟩
    · exact Nat.lt_of_le_of_lt (List.length_take_le' _ _) (show 7 < sizeLine by decide)
    · refine ⟨?_, ?_⟩
      · intro b u eb
        have nb : b ≠ D := ne_of_none eb hD
        rw [upd_ne nb]
        exact s4 _ _ (s2 _ _ eb)
      · rw [upd_same, List.take_add_one, hx]
        rfl
  · rw [show endsV.take endsV.length = endsV from List.take_length] at eD
    refine .inl ⟨D, L, endsV, rfl, rfl, SqL.of eD, SqL.of (s2 _ _ eL), fun v hv => smV_of (knd_ends (K := K) (H := H) hv), ?_⟩
    intro o dx ho hd ne
    obtain ⟨s3, _⟩ := mk_same (C := g.c_Read) ho hd ne
    refine ⟨o, dx, .str "a", .str "b", .ref g.t_Read_init, .none, .none, .none, true, rfl, upd_same, knd_s.1, knd_s.2.2.2, ⟨.tuple, _, T.kt_Read_init _⟩, .inl ⟨.tuple [], .tup (T.kt_Read_init _) .nil, rfl, rfl⟩, fun _ H3 v b3 hv e3 => ?_, errsB_no out_read⟩
    obtain ⟨q, rfl, eq⟩ := hv rfl
    refine ⟨rfl, o, g.c_Read, dx, _, _, rfl, e3, T.cl_Read, T.na_Read_default, rfl, show 0 ≤ sizeLine by decide, fun r hr => ?_⟩
    have s5 := Same.put (o := .tup []) hr
    obtain ⟨x1, x2⟩ := empty_eqv
    refine .inr (.inr (.inr ⟨.tuple [], .tuple [], .tup (SqT.of (s5 _ _ eq)) .nil, .tup (SqT.of upd_same) .nil, x2, x2, ?_⟩))
    rw [x1]
    exact fin _
theorem work_mk {Q : VK} {Ew : St → XK} {σ : St} (q : ∀ H' o dx t, Same H H' → H' o = some (.ins g.c_Work dx (workF t)) → H' t = some (.tup [.int 1, .str "b"]) → Q (.ref o) H') :
    tMakeRS g.c_Work (sp_Work_init K g) Ew (tCons (tC (.str "a")) (tCons (tC (.str "f")) (tCons (tC (.int 1)) (tCons (tC (.str "b")) tNil)))) σ H Q :=
  work_new (g := g) (Q := Q) (E := Ew σ) (x1 := .str "a") (x2 := .str "f") (d1 := .none) (d2 := .none) (cs := csW) knd_s.1 knd_s.2.1 knd_csW (by decide) (fun _ H1 o1 dx1 t1 s1 e1 e2 => q H1 o1 dx1 t1 s1 e1 e2) (errs_no out_work)
theorem holds_mk {Q : VK} {Ew : St → XK} {σ : St} (q : ∀ H' o dx t, Same H H' → H' o = some (.ins g.c_Holds dx (holdsF t)) → H' t = some (.tup [.non]) → Q (.ref o) H') :
    tMakeRS g.c_Holds (sp_Holds_init K g) Ew (tCons (tC (.str "t")) (tCons (tC .non) tNil)) σ H Q :=
  holds_new (g := g) (Q := Q) (E := Ew σ) (x1 := .str "t") (d1 := .none) (cs := csH) knd_s.2.2.1 knd_csH (by decide) (fun _ H1 o1 dx1 t1 s1 e1 e2 => q H1 o1 dx1 t1 s1 e1 e2) (errs_no out_holds)
theorem made_ok (T : Txt K mg g) (fin : ∀ H', D.rt (.bl true) H') : R_law_22 K g E D [v0, v1, v2, v3, v4, v5, v6, v7, v8, v9, v10, v11, v12, v13, v14] H := by
  delta R_law_22 tSeq tIfS tOr zTest tOp
  refine work_mk fun H1 o1 dx1 t1 s1 e1 e2 => ?_
  refine ⟨rfl, show 2 ≤ sizeLine by decide, fun l hl => ⟨.str "a", .str "f", .none, .none, l, csW, rfl, .inr (SqL.of upd_same), knd_s.1, knd_s.2.1, knd_csW, by decide, fun _ H2 o2 dx2 t2 s2 e3 e4 => ?_, errs_no out_work⟩⟩
  have s12 : Same H1 H2 := (Same.put hl).trans s2
  refine ⟨o1, o2, dx1, dx2, _, _, rfl, rfl, s12 _ _ e1, e3, o1, dx1, t1, o2, dx2, t2, rfl, s12 _ _ e1, e3, s12 _ _ e2, e4, fun H3 s3 => ⟨true, rfl, zite (fun h => absurd h (by decide)) fun _ => ?_⟩⟩
  refine holds_mk fun H4 o3 dx3 t3 s4 e5 e6 => ?_
  refine ⟨rfl, show 1 ≤ sizeLine by decide, fun q hq => ⟨.str "t", .none, q, csH, rfl, .inl (SqT.of upd_same), knd_s.2.2.1, knd_csH, by decide, fun _ H5 o4 dx4 t4 s5 e7 e8 => ?_, errs_no out_holds⟩⟩
  have s45 : Same H4 H5 := (Same.put hq).trans s5
  exact ⟨o3, o4, dx3, dx4, _, _, rfl, rfl, s45 _ _ e5, e7, o3, dx3, t3, o4, dx4, t4, rfl, s45 _ _ e5, e7, s45 _ _ e6, e8, true, rfl, zite (fun h => absurd h (by decide)) fun _ => last_ok T fin⟩
end
theorem pf_law {K : PySem.W.Frag} {mg : Str → Option Value} {g : Ads} (T : Txt K mg g) (vs : List V) (H : Hp) (Q : VK) (E : XK) (h : spLaw K vs H Q E) : rw_law K g vs H Q E := by
  obtain ⟨a, ns, rfl, hs, hn, q⟩ := h
  refine ⟨rfl, _, .inl hs, _, rfl, ?_, ?_, for_z walk_range (fun i σ H' => Same H H' ∧ ∃ v1 v2 v3 v4 v5 v6 v7 v8 v9 v10 v11 v12 v13 v14, σ = [some (.ref a), v1, v2, v3, v4, v5, v6, v7, v8, v9, v10, v11, v12, v13, v14]) ⟨Same.refl H, _, _, _, _, _, _, _, _, _, _, _, _, _, _, rfl⟩ (fun _ _ _ _ _ => trivial)
    (fun i x σ H1 H1' hi ⟨s1, v1, v2, v3, v4, v5, v6, v7, v8, v9, v10, v11, v12, v13, v14, e1⟩ yy => ?_) (fun σ H1 ⟨s1, v1, v2, v3, v4, v5, v6, v7, v8, v9, v10, v11, v12, v13, v14, e1⟩ => ?_)⟩
  · split <;> split <;> omega
  · rw [List.length_map]; split <;> split <;> omega
  · obtain ⟨rfl, rfl⟩ := yy
    subst e1
    refine ⟨a, ns, _, rfl, s1.seq hs, hn, by omega, fun p wa H2 hp hwa s2 dk => ?_⟩
    have hpH : H p = none := s1.free hp
    refine names_ok dk fun H' _ _ _ _ _ _ _ _ _ _ dk' b' => ⟨?_, _, _, _, _, _, _, _, _, _, _, _, _, _, _, rfl⟩
    intro b o eo
    exact b' _ _ (s2 _ _ (s1 _ _ eo)) (ne_of_none eo hpH)
  · subst e1
    exact made_ok T fun H' => q H'
theorem ok_law {P : Program} {w : World} {K : PySem.W.Frag} {mg : Str → Option Value} {base : Heap} {g : Ads} (T : Txt K mg g) : FnZ P w K mg base 10 g.f_law g.d_law ["script"] (spLaw K) := (raw_law T).imp (pf_law T)
end Z
namespace Z
open PySem PySem.Spec PyProof.Rows L2
theorem all_mk {P : Program} {w : World} {K : PySem.W.Frag} {h : Heap} {mg : Str → Option Value} {fa : Addr} (X : K.In h) (G : h.Ns mainGlobals mg) (hfa : mg "law" = some (.ref fa))
    {f_BadName_init : Addr} {od_BadName_init an_BadName_init : Option Addr} {sl_BadName_init : Array (Option Value)} {oc_BadName_init kV_BadName_init dc_BadName_init pm_BadName_init cd_BadName_init ct_BadName_init : Value}
    {f_BadValue_init : Addr} {od_BadValue_init an_BadValue_init : Option Addr} {sl_BadValue_init : Array (Option Value)} {oc_BadValue_init kV_BadValue_init dc_BadValue_init pm_BadValue_init cd_BadValue_init ct_BadValue_init : Value}
    {f_TooMany_init : Addr} {od_TooMany_init an_TooMany_init : Option Addr} {sl_TooMany_init : Array (Option Value)} {oc_TooMany_init kV_TooMany_init dc_TooMany_init pm_TooMany_init cd_TooMany_init ct_TooMany_init : Value}
    {f_is_name : Addr} {od_is_name an_is_name : Option Addr} {sl_is_name : Array (Option Value)} {oc_is_name kV_is_name dc_is_name pm_is_name cd_is_name ct_is_name : Value}
    {f_is_int : Addr} {od_is_int an_is_int : Option Addr} {sl_is_int : Array (Option Value)} {oc_is_int kV_is_int dc_is_int pm_is_int cd_is_int ct_is_int : Value}
    {f_check_name : Addr} {od_check_name an_check_name : Option Addr} {sl_check_name : Array (Option Value)} {oc_check_name kV_check_name dc_check_name pm_check_name cd_check_name ct_check_name : Value}
    {f_check_operand : Addr} {od_check_operand an_check_operand : Option Addr} {sl_check_operand : Array (Option Value)} {oc_check_operand kV_check_operand dc_check_operand pm_check_operand cd_check_operand ct_check_operand : Value}
    {f_check_operands : Addr} {od_check_operands an_check_operands : Option Addr} {sl_check_operands : Array (Option Value)} {oc_check_operands kV_check_operands dc_check_operands pm_check_operands cd_check_operands ct_check_operands : Value}
    {f_Step_parts : Addr} {od_Step_parts an_Step_parts : Option Addr} {sl_Step_parts : Array (Option Value)} {oc_Step_parts kV_Step_parts dc_Step_parts pm_Step_parts cd_Step_parts ct_Step_parts : Value}
    {f_Step_eq : Addr} {od_Step_eq an_Step_eq : Option Addr} {sl_Step_eq : Array (Option Value)} {oc_Step_eq kV_Step_eq dc_Step_eq pm_Step_eq cd_Step_eq ct_Step_eq : Value}
    {f_Read_init : Addr} {od_Read_init an_Read_init : Option Addr} {sl_Read_init : Array (Option Value)} {oc_Read_init dc_Read_init pm_Read_init cd_Read_init ct_Read_init : Value}
    {kD_Read_init kt_Read_init : Addr} {kx_Read_init : Option Addr} {kq_Read_init : Nat} {kw_Read_init : Array (Option Value)}
    {f_Read_parts : Addr} {od_Read_parts an_Read_parts : Option Addr} {sl_Read_parts : Array (Option Value)} {oc_Read_parts kV_Read_parts dc_Read_parts pm_Read_parts cd_Read_parts ct_Read_parts : Value}
    {f_Let_init : Addr} {od_Let_init an_Let_init : Option Addr} {sl_Let_init : Array (Option Value)} {oc_Let_init kV_Let_init dc_Let_init pm_Let_init cd_Let_init ct_Let_init : Value}
    {f_Let_parts : Addr} {od_Let_parts an_Let_parts : Option Addr} {sl_Let_parts : Array (Option Value)} {oc_Let_parts kV_Let_parts dc_Let_parts pm_Let_parts cd_Let_parts ct_Let_parts : Value}
    {f_Work_init : Addr} {od_Work_init an_Work_init : Option Addr} {sl_Work_init : Array (Option Value)} {oc_Work_init kV_Work_init dc_Work_init pm_Work_init cd_Work_init ct_Work_init : Value}
    {f_Work_made : Addr} {od_Work_made an_Work_made : Option Addr} {sl_Work_made : Array (Option Value)} {oc_Work_made kV_Work_made dc_Work_made pm_Work_made cd_Work_made ct_Work_made : Value}
    {p_Work_made : Addr} {rs_Work_made : List Value}
    {f_Work_parts : Addr} {od_Work_parts an_Work_parts : Option Addr} {sl_Work_parts : Array (Option Value)} {oc_Work_parts kV_Work_parts dc_Work_parts pm_Work_parts cd_Work_parts ct_Work_parts : Value}
    {f_Put_init : Addr} {od_Put_init an_Put_init : Option Addr} {sl_Put_init : Array (Option Value)} {oc_Put_init kV_Put_init dc_Put_init pm_Put_init cd_Put_init ct_Put_init : Value}
    {f_Put_parts : Addr} {od_Put_parts an_Put_parts : Option Addr} {sl_Put_parts : Array (Option Value)} {oc_Put_parts kV_Put_parts dc_Put_parts pm_Put_parts cd_Put_parts ct_Put_parts : Value}
    {f_Keep_init : Addr} {od_Keep_init an_Keep_init : Option Addr} {sl_Keep_init : Array (Option Value)} {oc_Keep_init kV_Keep_init dc_Keep_init pm_Keep_init cd_Keep_init ct_Keep_init : Value}
    {f_Keep_parts : Addr} {od_Keep_parts an_Keep_parts : Option Addr} {sl_Keep_parts : Array (Option Value)} {oc_Keep_parts kV_Keep_parts dc_Keep_parts pm_Keep_parts cd_Keep_parts ct_Keep_parts : Value}
    {f_Show_init : Addr} {od_Show_init an_Show_init : Option Addr} {sl_Show_init : Array (Option Value)} {oc_Show_init kV_Show_init dc_Show_init pm_Show_init cd_Show_init ct_Show_init : Value}
    {f_Show_parts : Addr} {od_Show_parts an_Show_parts : Option Addr} {sl_Show_parts : Array (Option Value)} {oc_Show_parts kV_Show_parts dc_Show_parts pm_Show_parts cd_Show_parts ct_Show_parts : Value}
    {f_Has_init : Addr} {od_Has_init an_Has_init : Option Addr} {sl_Has_init : Array (Option Value)} {oc_Has_init kV_Has_init dc_Has_init pm_Has_init cd_Has_init ct_Has_init : Value}
    {f_Has_eq : Addr} {od_Has_eq an_Has_eq : Option Addr} {sl_Has_eq : Array (Option Value)} {oc_Has_eq kV_Has_eq dc_Has_eq pm_Has_eq cd_Has_eq ct_Has_eq : Value}
    {f_Typed_init : Addr} {od_Typed_init an_Typed_init : Option Addr} {sl_Typed_init : Array (Option Value)} {oc_Typed_init kV_Typed_init dc_Typed_init pm_Typed_init cd_Typed_init ct_Typed_init : Value}
    {f_Typed_eq : Addr} {od_Typed_eq an_Typed_eq : Option Addr} {sl_Typed_eq : Array (Option Value)} {oc_Typed_eq kV_Typed_eq dc_Typed_eq pm_Typed_eq cd_Typed_eq ct_Typed_eq : Value}
    {f_Holds_init : Addr} {od_Holds_init an_Holds_init : Option Addr} {sl_Holds_init : Array (Option Value)} {oc_Holds_init kV_Holds_init dc_Holds_init pm_Holds_init cd_Holds_init ct_Holds_init : Value}
    {f_Holds_made : Addr} {od_Holds_made an_Holds_made : Option Addr} {sl_Holds_made : Array (Option Value)} {oc_Holds_made kV_Holds_made dc_Holds_made pm_Holds_made cd_Holds_made ct_Holds_made : Value}
    {p_Holds_made : Addr} {rs_Holds_made : List Value}
    {f_Holds_eq : Addr} {od_Holds_eq an_Holds_eq : Option Addr} {sl_Holds_eq : Array (Option Value)} {oc_Holds_eq kV_Holds_eq dc_Holds_eq pm_Holds_eq cd_Holds_eq ct_Holds_eq : Value}
    {f_law_deck : Addr} {od_law_deck an_law_deck : Option Addr} {sl_law_deck : Array (Option Value)} {oc_law_deck kV_law_deck dc_law_deck pm_law_deck cd_law_deck ct_law_deck : Value}
    {f_law_draw : Addr} {od_law_draw an_law_draw : Option Addr} {sl_law_draw : Array (Option Value)} {oc_law_draw kV_law_draw dc_law_draw pm_law_draw cd_law_draw ct_law_draw : Value}
    {f_law_of : Addr} {od_law_of an_law_of : Option Addr} {sl_law_of : Array (Option Value)} {oc_law_of kV_law_of dc_law_of pm_law_of cd_law_of ct_law_of : Value}
    {f_law_number : Addr} {od_law_number an_law_number : Option Addr} {sl_law_number : Array (Option Value)} {oc_law_number kV_law_number dc_law_number pm_law_number cd_law_number ct_law_number : Value}
    {f_law_names : Addr} {od_law_names an_law_names : Option Addr} {sl_law_names : Array (Option Value)} {oc_law_names kV_law_names dc_law_names pm_law_names cd_law_names ct_law_names : Value}
    {f_law_odd_name : Addr} {od_law_odd_name an_law_odd_name : Option Addr} {sl_law_odd_name : Array (Option Value)} {oc_law_odd_name kV_law_odd_name dc_law_odd_name pm_law_odd_name cd_law_odd_name ct_law_odd_name : Value}
    {f_law_odd_operand : Addr} {od_law_odd_operand an_law_odd_operand : Option Addr} {sl_law_odd_operand : Array (Option Value)} {oc_law_odd_operand kV_law_odd_operand dc_law_odd_operand pm_law_odd_operand cd_law_odd_operand ct_law_odd_operand : Value}
    {f_law_operand : Addr} {od_law_operand an_law_operand : Option Addr} {sl_law_operand : Array (Option Value)} {oc_law_operand kV_law_operand dc_law_operand pm_law_operand cd_law_operand ct_law_operand : Value}
    {f_law_made : Addr} {od_law_made an_law_made : Option Addr} {sl_law_made : Array (Option Value)} {oc_law_made kV_law_made dc_law_made pm_law_made cd_law_made ct_law_made : Value}
    {f_law_told : Addr} {od_law_told an_law_told : Option Addr} {sl_law_told : Array (Option Value)} {oc_law_told kV_law_told dc_law_told pm_law_told cd_law_told ct_law_told : Value}
    {f_law_due : Addr} {od_law_due an_law_due : Option Addr} {sl_law_due : Array (Option Value)} {oc_law_due kV_law_due dc_law_due pm_law_due cd_law_due ct_law_due : Value}
    {f_law : Addr} {od_law an_law : Option Addr} {sl_law : Array (Option Value)} {oc_law kV_law dc_law pm_law cd_law ct_law : Value}
    {c_BadName : Addr}
    {nm_BadName q_BadName : Str} {N_BadName : Addr} {bs_BadName : List Value} {sn_BadName : List Str} {sub_BadName : List Value} {ab_BadName : Bool} {col_BadName : Option Bool} {dd_BadName : Option Addr} {m0_BadName m1_BadName m2_BadName m3_BadName m5_BadName : Option Value}
    {c_BadValue : Addr}
    {nm_BadValue q_BadValue : Str} {N_BadValue : Addr} {bs_BadValue : List Value} {sn_BadValue : List Str} {sub_BadValue : List Value} {ab_BadValue : Bool} {col_BadValue : Option Bool} {dd_BadValue : Option Addr} {m0_BadValue m1_BadValue m2_BadValue m3_BadValue m5_BadValue : Option Value}
    {c_TooMany : Addr}
    {nm_TooMany q_TooMany : Str} {N_TooMany : Addr} {bs_TooMany : List Value} {sn_TooMany : List Str} {sub_TooMany : List Value} {ab_TooMany : Bool} {col_TooMany : Option Bool} {dd_TooMany : Option Addr} {m0_TooMany m1_TooMany m2_TooMany m3_TooMany m5_TooMany : Option Value}
    {c_Step : Addr}
    {c_Read : Addr}
    {c_Let : Addr}
    {c_Work : Addr}
    {tk_Work_WORD : Tok}
    {c_Put : Addr}
    {c_Keep : Addr}
    {c_Show : Addr}
    {c_Has : Addr}
    {c_Typed : Addr}
    {c_Holds : Addr}
    {tk_LETTERS : Tok}
    {tk_MOST_SIGNS : Tok}
    {tk_MOST_OPERANDS : Tok}
    {tk_BEYOND : Tok}
    (a_BadName_init : PySem.W.findIn K (.ref c_BadName) "__init__" = some (some (.ref f_BadName_init)))
    (t_BadName_init : PySem.W.typeIn K (.ref f_BadName_init) = some (.type "function"))
    (l_BadName_init : K.lookup f_BadName_init = some ⟨oc_BadName_init, od_BadName_init, .func (PySem.W.fnOf "__init__" "BadName.__init__" (defArgs s_BadName_init) (defBody s_BadName_init) (defScope s_BadName_init) .none kV_BadName_init dc_BadName_init pm_BadName_init an_BadName_init cd_BadName_init ct_BadName_init), sl_BadName_init⟩)
    (cc_BadName_init : PySem.W.codeIn K cd_BadName_init "BadName.__init__" = true)
    (k_BadName_init : PySem.W.keepIn K (.ref f_BadName_init) = true)
    (a_BadValue_init : PySem.W.findIn K (.ref c_BadValue) "__init__" = some (some (.ref f_BadValue_init)))
    (t_BadValue_init : PySem.W.typeIn K (.ref f_BadValue_init) = some (.type "function"))
    (l_BadValue_init : K.lookup f_BadValue_init = some ⟨oc_BadValue_init, od_BadValue_init, .func (PySem.W.fnOf "__init__" "BadValue.__init__" (defArgs s_BadValue_init) (defBody s_BadValue_init) (defScope s_BadValue_init) .none kV_BadValue_init dc_BadValue_init pm_BadValue_init an_BadValue_init cd_BadValue_init ct_BadValue_init), sl_BadValue_init⟩)
    (cc_BadValue_init : PySem.W.codeIn K cd_BadValue_init "BadValue.__init__" = true)
    (k_BadValue_init : PySem.W.keepIn K (.ref f_BadValue_init) = true)
    (a_TooMany_init : PySem.W.findIn K (.ref c_TooMany) "__init__" = some (some (.ref f_TooMany_init)))
    (t_TooMany_init : PySem.W.typeIn K (.ref f_TooMany_init) = some (.type "function"))
    (l_TooMany_init : K.lookup f_TooMany_init = some ⟨oc_TooMany_init, od_TooMany_init, .func (PySem.W.fnOf "__init__" "TooMany.__init__" (defArgs s_TooMany_init) (defBody s_TooMany_init) (defScope s_TooMany_init) .none kV_TooMany_init dc_TooMany_init pm_TooMany_init an_TooMany_init cd_TooMany_init ct_TooMany_init), sl_TooMany_init⟩)
    (cc_TooMany_init : PySem.W.codeIn K cd_TooMany_init "TooMany.__init__" = true)
    (k_TooMany_init : PySem.W.keepIn K (.ref f_TooMany_init) = true)
    (a_is_name : PySem.W.nsIn K mainGlobals "is_name" = some (some (.ref f_is_name)))
    (l_is_name : K.lookup f_is_name = some ⟨oc_is_name, od_is_name, .func (PySem.W.fnOf "is_name" "is_name" (defArgs s_is_name) (defBody s_is_name) (defScope s_is_name) .none kV_is_name dc_is_name pm_is_name an_is_name cd_is_name ct_is_name), sl_is_name⟩)
    (cc_is_name : PySem.W.codeIn K cd_is_name "is_name" = true)
    (k_is_name : PySem.W.keepIn K (.ref f_is_name) = true)
    (a_is_int : PySem.W.nsIn K mainGlobals "is_int" = some (some (.ref f_is_int)))
    (l_is_int : K.lookup f_is_int = some ⟨oc_is_int, od_is_int, .func (PySem.W.fnOf "is_int" "is_int" (defArgs s_is_int) (defBody s_is_int) (defScope s_is_int) .none kV_is_int dc_is_int pm_is_int an_is_int cd_is_int ct_is_int), sl_is_int⟩)
    (cc_is_int : PySem.W.codeIn K cd_is_int "is_int" = true)
    (k_is_int : PySem.W.keepIn K (.ref f_is_int) = true)
    (a_check_name : PySem.W.nsIn K mainGlobals "check_name" = some (some (.ref f_check_name)))
    (l_check_name : K.lookup f_check_name = some ⟨oc_check_name, od_check_name, .func (PySem.W.fnOf "check_name" "check_name" (defArgs s_check_name) (defBody s_check_name) (defScope s_check_name) .none kV_check_name dc_check_name pm_check_name an_check_name cd_check_name ct_check_name), sl_check_name⟩)
    (cc_check_name : PySem.W.codeIn K cd_check_name "check_name" = true)
    (k_check_name : PySem.W.keepIn K (.ref f_check_name) = true)
    (a_check_operand : PySem.W.nsIn K mainGlobals "check_operand" = some (some (.ref f_check_operand)))
    (l_check_operand : K.lookup f_check_operand = some ⟨oc_check_operand, od_check_operand, .func (PySem.W.fnOf "check_operand" "check_operand" (defArgs s_check_operand) (defBody s_check_operand) (defScope s_check_operand) .none kV_check_operand dc_check_operand pm_check_operand an_check_operand cd_check_operand ct_check_operand), sl_check_operand⟩)
    (cc_check_operand : PySem.W.codeIn K cd_check_operand "check_operand" = true)
    (k_check_operand : PySem.W.keepIn K (.ref f_check_operand) = true)
    (a_check_operands : PySem.W.nsIn K mainGlobals "check_operands" = some (some (.ref f_check_operands)))
    (l_check_operands : K.lookup f_check_operands = some ⟨oc_check_operands, od_check_operands, .func (PySem.W.fnOf "check_operands" "check_operands" (defArgs s_check_operands) (defBody s_check_operands) (defScope s_check_operands) .none kV_check_operands dc_check_operands pm_check_operands an_check_operands cd_check_operands ct_check_operands), sl_check_operands⟩)
    (cc_check_operands : PySem.W.codeIn K cd_check_operands "check_operands" = true)
    (k_check_operands : PySem.W.keepIn K (.ref f_check_operands) = true)
    (a_Step_parts : PySem.W.findIn K (.ref c_Step) "parts" = some (some (.ref f_Step_parts)))
    (i_Step_parts : PySem.W.isFn K (.ref f_Step_parts) = true)
    (l_Step_parts : K.lookup f_Step_parts = some ⟨oc_Step_parts, od_Step_parts, .func (PySem.W.fnOf "parts" "Step.parts" (defArgs s_Step_parts) (defBody s_Step_parts) (defScope s_Step_parts) .none kV_Step_parts dc_Step_parts pm_Step_parts an_Step_parts cd_Step_parts ct_Step_parts), sl_Step_parts⟩)
    (cc_Step_parts : PySem.W.codeIn K cd_Step_parts "Step.parts" = true)
    (k_Step_parts : PySem.W.keepIn K (.ref f_Step_parts) = true)
    (a_Step_eq : PySem.W.findIn K (.ref c_Step) "__eq__" = some (some (.ref f_Step_eq)))
    (i_Step_eq : PySem.W.isFn K (.ref f_Step_eq) = true)
    (l_Step_eq : K.lookup f_Step_eq = some ⟨oc_Step_eq, od_Step_eq, .func (PySem.W.fnOf "__eq__" "Step.__eq__" (defArgs s_Step_eq) (defBody s_Step_eq) (defScope s_Step_eq) .none kV_Step_eq dc_Step_eq pm_Step_eq an_Step_eq cd_Step_eq ct_Step_eq), sl_Step_eq⟩)
    (cc_Step_eq : PySem.W.codeIn K cd_Step_eq "Step.__eq__" = true)
    (k_Step_eq : PySem.W.keepIn K (.ref f_Step_eq) = true)
    (a_Read_init : PySem.W.findIn K (.ref c_Read) "__init__" = some (some (.ref f_Read_init)))
    (i_Read_init : PySem.W.isFn K (.ref f_Read_init) = true)
    (l_Read_init : K.lookup f_Read_init = some ⟨oc_Read_init, od_Read_init, .func (PySem.W.fnOf "__init__" "Read.__init__" (defArgs s_Read_init) (defBody s_Read_init) (defScope s_Read_init) .none (.ref kD_Read_init) dc_Read_init pm_Read_init an_Read_init cd_Read_init ct_Read_init), sl_Read_init⟩)
    (kn_Read_init : PySem.W.nsIn K kD_Read_init "default" = some (some (.ref kt_Read_init)))
    (kl_Read_init : K.lookup kt_Read_init = some ⟨.type "tuple", kx_Read_init, .seq #[] kq_Read_init, kw_Read_init⟩)
    (cc_Read_init : PySem.W.codeIn K cd_Read_init "Read.__init__" = true)
    (k_Read_init : PySem.W.keepIn K (.ref f_Read_init) = true)
    (a_Read_parts : PySem.W.findIn K (.ref c_Read) "parts" = some (some (.ref f_Read_parts)))
    (i_Read_parts : PySem.W.isFn K (.ref f_Read_parts) = true)
    (l_Read_parts : K.lookup f_Read_parts = some ⟨oc_Read_parts, od_Read_parts, .func (PySem.W.fnOf "parts" "Read.parts" (defArgs s_Read_parts) (defBody s_Read_parts) (defScope s_Read_parts) .none kV_Read_parts dc_Read_parts pm_Read_parts an_Read_parts cd_Read_parts ct_Read_parts), sl_Read_parts⟩)
    (cc_Read_parts : PySem.W.codeIn K cd_Read_parts "Read.parts" = true)
    (k_Read_parts : PySem.W.keepIn K (.ref f_Read_parts) = true)
    (a_Let_init : PySem.W.findIn K (.ref c_Let) "__init__" = some (some (.ref f_Let_init)))
    (i_Let_init : PySem.W.isFn K (.ref f_Let_init) = true)
    (l_Let_init : K.lookup f_Let_init = some ⟨oc_Let_init, od_Let_init, .func (PySem.W.fnOf "__init__" "Let.__init__" (defArgs s_Let_init) (defBody s_Let_init) (defScope s_Let_init) .none kV_Let_init dc_Let_init pm_Let_init an_Let_init cd_Let_init ct_Let_init), sl_Let_init⟩)
    (cc_Let_init : PySem.W.codeIn K cd_Let_init "Let.__init__" = true)
    (k_Let_init : PySem.W.keepIn K (.ref f_Let_init) = true)
    (a_Let_parts : PySem.W.findIn K (.ref c_Let) "parts" = some (some (.ref f_Let_parts)))
    (i_Let_parts : PySem.W.isFn K (.ref f_Let_parts) = true)
    (l_Let_parts : K.lookup f_Let_parts = some ⟨oc_Let_parts, od_Let_parts, .func (PySem.W.fnOf "parts" "Let.parts" (defArgs s_Let_parts) (defBody s_Let_parts) (defScope s_Let_parts) .none kV_Let_parts dc_Let_parts pm_Let_parts an_Let_parts cd_Let_parts ct_Let_parts), sl_Let_parts⟩)
    (cc_Let_parts : PySem.W.codeIn K cd_Let_parts "Let.parts" = true)
    (k_Let_parts : PySem.W.keepIn K (.ref f_Let_parts) = true)
    (a_Work_init : PySem.W.findIn K (.ref c_Work) "__init__" = some (some (.ref f_Work_init)))
    (i_Work_init : PySem.W.isFn K (.ref f_Work_init) = true)
    (l_Work_init : K.lookup f_Work_init = some ⟨oc_Work_init, od_Work_init, .func (PySem.W.fnOf "__init__" "Work.__init__" (defArgs s_Work_init) (defBody s_Work_init) (defScope s_Work_init) .none kV_Work_init dc_Work_init pm_Work_init an_Work_init cd_Work_init ct_Work_init), sl_Work_init⟩)
    (cc_Work_init : PySem.W.codeIn K cd_Work_init "Work.__init__" = true)
    (k_Work_init : PySem.W.keepIn K (.ref f_Work_init) = true)
    (at_Work_made : PySem.W.findCls K (.ref c_Work) (.type "type") "made" = some (.get (.builtin "classmethod.__get__") (.ref p_Work_made) .none (.ref c_Work)))
    (rc_Work_made : PySem.W.recIn K p_Work_made "classmethod" = some (.ref f_Work_made :: rs_Work_made))
    (fi_Work_made : PySem.W.fnIn K f_Work_made = true)
    (l_Work_made : K.lookup f_Work_made = some ⟨oc_Work_made, od_Work_made, .func (PySem.W.fnOf "made" "Work.made" (defArgs s_Work_made) (defBody s_Work_made) (defScope s_Work_made) .none kV_Work_made dc_Work_made pm_Work_made an_Work_made cd_Work_made ct_Work_made), sl_Work_made⟩)
    (cc_Work_made : PySem.W.codeIn K cd_Work_made "Work.made" = true)
    (k_Work_made : PySem.W.keepIn K (.ref f_Work_made) = true)
    (a_Work_parts : PySem.W.findIn K (.ref c_Work) "parts" = some (some (.ref f_Work_parts)))
    (i_Work_parts : PySem.W.isFn K (.ref f_Work_parts) = true)
    (l_Work_parts : K.lookup f_Work_parts = some ⟨oc_Work_parts, od_Work_parts, .func (PySem.W.fnOf "parts" "Work.parts" (defArgs s_Work_parts) (defBody s_Work_parts) (defScope s_Work_parts) .none kV_Work_parts dc_Work_parts pm_Work_parts an_Work_parts cd_Work_parts ct_Work_parts), sl_Work_parts⟩)
    (cc_Work_parts : PySem.W.codeIn K cd_Work_parts "Work.parts" = true)
    (k_Work_parts : PySem.W.keepIn K (.ref f_Work_parts) = true)
    (a_Put_init : PySem.W.findIn K (.ref c_Put) "__init__" = some (some (.ref f_Put_init)))
    (i_Put_init : PySem.W.isFn K (.ref f_Put_init) = true)
    (l_Put_init : K.lookup f_Put_init = some ⟨oc_Put_init, od_Put_init, .func (PySem.W.fnOf "__init__" "Put.__init__" (defArgs s_Put_init) (defBody s_Put_init) (defScope s_Put_init) .none kV_Put_init dc_Put_init pm_Put_init an_Put_init cd_Put_init ct_Put_init), sl_Put_init⟩)
    (cc_Put_init : PySem.W.codeIn K cd_Put_init "Put.__init__" = true)
    (k_Put_init : PySem.W.keepIn K (.ref f_Put_init) = true)
    (a_Put_parts : PySem.W.findIn K (.ref c_Put) "parts" = some (some (.ref f_Put_parts)))
    (i_Put_parts : PySem.W.isFn K (.ref f_Put_parts) = true)
    (l_Put_parts : K.lookup f_Put_parts = some ⟨oc_Put_parts, od_Put_parts, .func (PySem.W.fnOf "parts" "Put.parts" (defArgs s_Put_parts) (defBody s_Put_parts) (defScope s_Put_parts) .none kV_Put_parts dc_Put_parts pm_Put_parts an_Put_parts cd_Put_parts ct_Put_parts), sl_Put_parts⟩)
    (cc_Put_parts : PySem.W.codeIn K cd_Put_parts "Put.parts" = true)
    (k_Put_parts : PySem.W.keepIn K (.ref f_Put_parts) = true)
    (a_Keep_init : PySem.W.findIn K (.ref c_Keep) "__init__" = some (some (.ref f_Keep_init)))
    (i_Keep_init : PySem.W.isFn K (.ref f_Keep_init) = true)
    (l_Keep_init : K.lookup f_Keep_init = some ⟨oc_Keep_init, od_Keep_init, .func (PySem.W.fnOf "__init__" "Keep.__init__" (defArgs s_Keep_init) (defBody s_Keep_init) (defScope s_Keep_init) .none kV_Keep_init dc_Keep_init pm_Keep_init an_Keep_init cd_Keep_init ct_Keep_init), sl_Keep_init⟩)
    (cc_Keep_init : PySem.W.codeIn K cd_Keep_init "Keep.__init__" = true)
    (k_Keep_init : PySem.W.keepIn K (.ref f_Keep_init) = true)
    (a_Keep_parts : PySem.W.findIn K (.ref c_Keep) "parts" = some (some (.ref f_Keep_parts)))
    (i_Keep_parts : PySem.W.isFn K (.ref f_Keep_parts) = true)
    (l_Keep_parts : K.lookup f_Keep_parts = some ⟨oc_Keep_parts, od_Keep_parts, .func (PySem.W.fnOf "parts" "Keep.parts" (defArgs s_Keep_parts) (defBody s_Keep_parts) (defScope s_Keep_parts) .none kV_Keep_parts dc_Keep_parts pm_Keep_parts an_Keep_parts cd_Keep_parts ct_Keep_parts), sl_Keep_parts⟩)
    (cc_Keep_parts : PySem.W.codeIn K cd_Keep_parts "Keep.parts" = true)
    (k_Keep_parts : PySem.W.keepIn K (.ref f_Keep_parts) = true)
    (a_Show_init : PySem.W.findIn K (.ref c_Show) "__init__" = some (some (.ref f_Show_init)))
    (i_Show_init : PySem.W.isFn K (.ref f_Show_init) = true)
    (l_Show_init : K.lookup f_Show_init = some ⟨oc_Show_init, od_Show_init, .func (PySem.W.fnOf "__init__" "Show.__init__" (defArgs s_Show_init) (defBody s_Show_init) (defScope s_Show_init) .none kV_Show_init dc_Show_init pm_Show_init an_Show_init cd_Show_init ct_Show_init), sl_Show_init⟩)
    (cc_Show_init : PySem.W.codeIn K cd_Show_init "Show.__init__" = true)
    (k_Show_init : PySem.W.keepIn K (.ref f_Show_init) = true)
    (a_Show_parts : PySem.W.findIn K (.ref c_Show) "parts" = some (some (.ref f_Show_parts)))
    (i_Show_parts : PySem.W.isFn K (.ref f_Show_parts) = true)
    (l_Show_parts : K.lookup f_Show_parts = some ⟨oc_Show_parts, od_Show_parts, .func (PySem.W.fnOf "parts" "Show.parts" (defArgs s_Show_parts) (defBody s_Show_parts) (defScope s_Show_parts) .none kV_Show_parts dc_Show_parts pm_Show_parts an_Show_parts cd_Show_parts ct_Show_parts), sl_Show_parts⟩)
    (cc_Show_parts : PySem.W.codeIn K cd_Show_parts "Show.parts" = true)
    (k_Show_parts : PySem.W.keepIn K (.ref f_Show_parts) = true)
    (a_Has_init : PySem.W.findIn K (.ref c_Has) "__init__" = some (some (.ref f_Has_init)))
    (i_Has_init : PySem.W.isFn K (.ref f_Has_init) = true)
    (l_Has_init : K.lookup f_Has_init = some ⟨oc_Has_init, od_Has_init, .func (PySem.W.fnOf "__init__" "Has.__init__" (defArgs s_Has_init) (defBody s_Has_init) (defScope s_Has_init) .none kV_Has_init dc_Has_init pm_Has_init an_Has_init cd_Has_init ct_Has_init), sl_Has_init⟩)
    (cc_Has_init : PySem.W.codeIn K cd_Has_init "Has.__init__" = true)
    (k_Has_init : PySem.W.keepIn K (.ref f_Has_init) = true)
    (a_Has_eq : PySem.W.findIn K (.ref c_Has) "__eq__" = some (some (.ref f_Has_eq)))
    (i_Has_eq : PySem.W.isFn K (.ref f_Has_eq) = true)
    (l_Has_eq : K.lookup f_Has_eq = some ⟨oc_Has_eq, od_Has_eq, .func (PySem.W.fnOf "__eq__" "Has.__eq__" (defArgs s_Has_eq) (defBody s_Has_eq) (defScope s_Has_eq) .none kV_Has_eq dc_Has_eq pm_Has_eq an_Has_eq cd_Has_eq ct_Has_eq), sl_Has_eq⟩)
    (cc_Has_eq : PySem.W.codeIn K cd_Has_eq "Has.__eq__" = true)
    (k_Has_eq : PySem.W.keepIn K (.ref f_Has_eq) = true)
    (a_Typed_init : PySem.W.findIn K (.ref c_Typed) "__init__" = some (some (.ref f_Typed_init)))
    (i_Typed_init : PySem.W.isFn K (.ref f_Typed_init) = true)
    (l_Typed_init : K.lookup f_Typed_init = some ⟨oc_Typed_init, od_Typed_init, .func (PySem.W.fnOf "__init__" "Typed.__init__" (defArgs s_Typed_init) (defBody s_Typed_init) (defScope s_Typed_init) .none kV_Typed_init dc_Typed_init pm_Typed_init an_Typed_init cd_Typed_init ct_Typed_init), sl_Typed_init⟩)
    (cc_Typed_init : PySem.W.codeIn K cd_Typed_init "Typed.__init__" = true)
    (k_Typed_init : PySem.W.keepIn K (.ref f_Typed_init) = true)
    (a_Typed_eq : PySem.W.findIn K (.ref c_Typed) "__eq__" = some (some (.ref f_Typed_eq)))
    (i_Typed_eq : PySem.W.isFn K (.ref f_Typed_eq) = true)
    (l_Typed_eq : K.lookup f_Typed_eq = some ⟨oc_Typed_eq, od_Typed_eq, .func (PySem.W.fnOf "__eq__" "Typed.__eq__" (defArgs s_Typed_eq) (defBody s_Typed_eq) (defScope s_Typed_eq) .none kV_Typed_eq dc_Typed_eq pm_Typed_eq an_Typed_eq cd_Typed_eq ct_Typed_eq), sl_Typed_eq⟩)
    (cc_Typed_eq : PySem.W.codeIn K cd_Typed_eq "Typed.__eq__" = true)
    (k_Typed_eq : PySem.W.keepIn K (.ref f_Typed_eq) = true)
    (a_Holds_init : PySem.W.findIn K (.ref c_Holds) "__init__" = some (some (.ref f_Holds_init)))
    (i_Holds_init : PySem.W.isFn K (.ref f_Holds_init) = true)
    (l_Holds_init : K.lookup f_Holds_init = some ⟨oc_Holds_init, od_Holds_init, .func (PySem.W.fnOf "__init__" "Holds.__init__" (defArgs s_Holds_init) (defBody s_Holds_init) (defScope s_Holds_init) .none kV_Holds_init dc_Holds_init pm_Holds_init an_Holds_init cd_Holds_init ct_Holds_init), sl_Holds_init⟩)
    (cc_Holds_init : PySem.W.codeIn K cd_Holds_init "Holds.__init__" = true)
    (k_Holds_init : PySem.W.keepIn K (.ref f_Holds_init) = true)
    (at_Holds_made : PySem.W.findCls K (.ref c_Holds) (.type "type") "made" = some (.get (.builtin "classmethod.__get__") (.ref p_Holds_made) .none (.ref c_Holds)))
    (rc_Holds_made : PySem.W.recIn K p_Holds_made "classmethod" = some (.ref f_Holds_made :: rs_Holds_made))
    (fi_Holds_made : PySem.W.fnIn K f_Holds_made = true)
    (l_Holds_made : K.lookup f_Holds_made = some ⟨oc_Holds_made, od_Holds_made, .func (PySem.W.fnOf "made" "Holds.made" (defArgs s_Holds_made) (defBody s_Holds_made) (defScope s_Holds_made) .none kV_Holds_made dc_Holds_made pm_Holds_made an_Holds_made cd_Holds_made ct_Holds_made), sl_Holds_made⟩)
    (cc_Holds_made : PySem.W.codeIn K cd_Holds_made "Holds.made" = true)
    (k_Holds_made : PySem.W.keepIn K (.ref f_Holds_made) = true)
    (a_Holds_eq : PySem.W.findIn K (.ref c_Holds) "__eq__" = some (some (.ref f_Holds_eq)))
    (i_Holds_eq : PySem.W.isFn K (.ref f_Holds_eq) = true)
    (l_Holds_eq : K.lookup f_Holds_eq = some ⟨oc_Holds_eq, od_Holds_eq, .func (PySem.W.fnOf "__eq__" "Holds.__eq__" (defArgs s_Holds_eq) (defBody s_Holds_eq) (defScope s_Holds_eq) .none kV_Holds_eq dc_Holds_eq pm_Holds_eq an_Holds_eq cd_Holds_eq ct_Holds_eq), sl_Holds_eq⟩)
    (cc_Holds_eq : PySem.W.codeIn K cd_Holds_eq "Holds.__eq__" = true)
    (k_Holds_eq : PySem.W.keepIn K (.ref f_Holds_eq) = true)
    (a_law_deck : PySem.W.nsIn K mainGlobals "_law_deck" = some (some (.ref f_law_deck)))
    (l_law_deck : K.lookup f_law_deck = some ⟨oc_law_deck, od_law_deck, .func (PySem.W.fnOf "_law_deck" "_law_deck" (defArgs s_law_deck) (defBody s_law_deck) (defScope s_law_deck) .none kV_law_deck dc_law_deck pm_law_deck an_law_deck cd_law_deck ct_law_deck), sl_law_deck⟩)
    (cc_law_deck : PySem.W.codeIn K cd_law_deck "_law_deck" = true)
    (k_law_deck : PySem.W.keepIn K (.ref f_law_deck) = true)
    (a_law_draw : PySem.W.nsIn K mainGlobals "_law_draw" = some (some (.ref f_law_draw)))
    (l_law_draw : K.lookup f_law_draw = some ⟨oc_law_draw, od_law_draw, .func (PySem.W.fnOf "_law_draw" "_law_draw" (defArgs s_law_draw) (defBody s_law_draw) (defScope s_law_draw) .none kV_law_draw dc_law_draw pm_law_draw an_law_draw cd_law_draw ct_law_draw), sl_law_draw⟩)
    (cc_law_draw : PySem.W.codeIn K cd_law_draw "_law_draw" = true)
    (k_law_draw : PySem.W.keepIn K (.ref f_law_draw) = true)
    (a_law_of : PySem.W.nsIn K mainGlobals "_law_of" = some (some (.ref f_law_of)))
    (l_law_of : K.lookup f_law_of = some ⟨oc_law_of, od_law_of, .func (PySem.W.fnOf "_law_of" "_law_of" (defArgs s_law_of) (defBody s_law_of) (defScope s_law_of) .none kV_law_of dc_law_of pm_law_of an_law_of cd_law_of ct_law_of), sl_law_of⟩)
    (cc_law_of : PySem.W.codeIn K cd_law_of "_law_of" = true)
    (k_law_of : PySem.W.keepIn K (.ref f_law_of) = true)
    (a_law_number : PySem.W.nsIn K mainGlobals "_law_number" = some (some (.ref f_law_number)))
    (l_law_number : K.lookup f_law_number = some ⟨oc_law_number, od_law_number, .func (PySem.W.fnOf "_law_number" "_law_number" (defArgs s_law_number) (defBody s_law_number) (defScope s_law_number) .none kV_law_number dc_law_number pm_law_number an_law_number cd_law_number ct_law_number), sl_law_number⟩)
    (cc_law_number : PySem.W.codeIn K cd_law_number "_law_number" = true)
    (k_law_number : PySem.W.keepIn K (.ref f_law_number) = true)
    (a_law_names : PySem.W.nsIn K mainGlobals "_law_names" = some (some (.ref f_law_names)))
    (l_law_names : K.lookup f_law_names = some ⟨oc_law_names, od_law_names, .func (PySem.W.fnOf "_law_names" "_law_names" (defArgs s_law_names) (defBody s_law_names) (defScope s_law_names) .none kV_law_names dc_law_names pm_law_names an_law_names cd_law_names ct_law_names), sl_law_names⟩)
    (cc_law_names : PySem.W.codeIn K cd_law_names "_law_names" = true)
    (k_law_names : PySem.W.keepIn K (.ref f_law_names) = true)
    (a_law_odd_name : PySem.W.nsIn K mainGlobals "_law_odd_name" = some (some (.ref f_law_odd_name)))
    (l_law_odd_name : K.lookup f_law_odd_name = some ⟨oc_law_odd_name, od_law_odd_name, .func (PySem.W.fnOf "_law_odd_name" "_law_odd_name" (defArgs s_law_odd_name) (defBody s_law_odd_name) (defScope s_law_odd_name) .none kV_law_odd_name dc_law_odd_name pm_law_odd_name an_law_odd_name cd_law_odd_name ct_law_odd_name), sl_law_odd_name⟩)
    (cc_law_odd_name : PySem.W.codeIn K cd_law_odd_name "_law_odd_name" = true)
    (k_law_odd_name : PySem.W.keepIn K (.ref f_law_odd_name) = true)
    (a_law_odd_operand : PySem.W.nsIn K mainGlobals "_law_odd_operand" = some (some (.ref f_law_odd_operand)))
    (l_law_odd_operand : K.lookup f_law_odd_operand = some ⟨oc_law_odd_operand, od_law_odd_operand, .func (PySem.W.fnOf "_law_odd_operand" "_law_odd_operand" (defArgs s_law_odd_operand) (defBody s_law_odd_operand) (defScope s_law_odd_operand) .none kV_law_odd_operand dc_law_odd_operand pm_law_odd_operand an_law_odd_operand cd_law_odd_operand ct_law_odd_operand), sl_law_odd_operand⟩)
    (cc_law_odd_operand : PySem.W.codeIn K cd_law_odd_operand "_law_odd_operand" = true)
    (k_law_odd_operand : PySem.W.keepIn K (.ref f_law_odd_operand) = true)
    (a_law_operand : PySem.W.nsIn K mainGlobals "_law_operand" = some (some (.ref f_law_operand)))
    (l_law_operand : K.lookup f_law_operand = some ⟨oc_law_operand, od_law_operand, .func (PySem.W.fnOf "_law_operand" "_law_operand" (defArgs s_law_operand) (defBody s_law_operand) (defScope s_law_operand) .none kV_law_operand dc_law_operand pm_law_operand an_law_operand cd_law_operand ct_law_operand), sl_law_operand⟩)
    (cc_law_operand : PySem.W.codeIn K cd_law_operand "_law_operand" = true)
    (k_law_operand : PySem.W.keepIn K (.ref f_law_operand) = true)
    (a_law_made : PySem.W.nsIn K mainGlobals "_law_made" = some (some (.ref f_law_made)))
    (l_law_made : K.lookup f_law_made = some ⟨oc_law_made, od_law_made, .func (PySem.W.fnOf "_law_made" "_law_made" (defArgs s_law_made) (defBody s_law_made) (defScope s_law_made) .none kV_law_made dc_law_made pm_law_made an_law_made cd_law_made ct_law_made), sl_law_made⟩)
    (cc_law_made : PySem.W.codeIn K cd_law_made "_law_made" = true)
    (k_law_made : PySem.W.keepIn K (.ref f_law_made) = true)
    (a_law_told : PySem.W.nsIn K mainGlobals "_law_told" = some (some (.ref f_law_told)))
    (l_law_told : K.lookup f_law_told = some ⟨oc_law_told, od_law_told, .func (PySem.W.fnOf "_law_told" "_law_told" (defArgs s_law_told) (defBody s_law_told) (defScope s_law_told) .none kV_law_told dc_law_told pm_law_told an_law_told cd_law_told ct_law_told), sl_law_told⟩)
    (cc_law_told : PySem.W.codeIn K cd_law_told "_law_told" = true)
    (k_law_told : PySem.W.keepIn K (.ref f_law_told) = true)
    (a_law_due : PySem.W.nsIn K mainGlobals "_law_due" = some (some (.ref f_law_due)))
    (l_law_due : K.lookup f_law_due = some ⟨oc_law_due, od_law_due, .func (PySem.W.fnOf "_law_due" "_law_due" (defArgs s_law_due) (defBody s_law_due) (defScope s_law_due) .none kV_law_due dc_law_due pm_law_due an_law_due cd_law_due ct_law_due), sl_law_due⟩)
    (cc_law_due : PySem.W.codeIn K cd_law_due "_law_due" = true)
    (k_law_due : PySem.W.keepIn K (.ref f_law_due) = true)
    (a_law : PySem.W.nsIn K mainGlobals "law" = some (some (.ref f_law)))
    (l_law : K.lookup f_law = some ⟨oc_law, od_law, .func (PySem.W.fnOf "law" "law" (defArgs s_law) (defBody s_law) (defScope s_law) .none kV_law dc_law pm_law an_law cd_law ct_law), sl_law⟩)
    (cc_law : PySem.W.codeIn K cd_law "law" = true)
    (k_law : PySem.W.keepIn K (.ref f_law) = true)
    (n_BadName : PySem.W.nsIn K mainGlobals "BadName" = some (some (.ref c_BadName)))
    (x_BadName : K.lookup c_BadName = some (excClassObj nm_BadName q_BadName c_BadName N_BadName bs_BadName [.type "ValueError", .type "Exception", .type "BaseException", .type "object"] true sn_BadName sub_BadName ab_BadName col_BadName dd_BadName m0_BadName m1_BadName m2_BadName m3_BadName m5_BadName "ValueError.__new__"))
    (sa_BadName : PySem.W.findIn K (.ref c_BadName) "__setattr__" = some (some (.builtin "object.__setattr__")))
    (ga_BadName : PySem.W.findIn K (.ref c_BadName) "__getattribute__" = some (some (.builtin "BaseException.__getattribute__")))
    (gg_BadName : PySem.W.findIn K (.ref c_BadName) "__getattr__" = some none)
    (eC_BadName : PySem.W.subIn K (.ref c_BadName) (.type "BaseException") = some true)
    (tC_BadName : PySem.W.typeIn K (.ref c_BadName) = some (.type "type"))
    (kC_BadName : PySem.W.keepIn K (.ref c_BadName) = true)
    (hC_BadName : PySem.W.hasDictIn K c_BadName = true)
    (iC_BadName : PySem.W.isClsIn K c_BadName = true)
    (sC_BadName : PySem.W.subIn K (.ref c_BadName) (.ref c_BadName) = some true)
    (va_BadName : PySem.W.findIn K (.ref c_BadName) "__class__" = some (some (.builtin "object.__class__")))
    (vn_BadName : PySem.W.specialIn K (.builtin "object.__class__") "__get__" = some (some (.builtin "getset_descriptor.__get__")))
    (vt_BadName : PySem.W.takesIn K (.builtin "object.__class__") = some true)
    (vm_BadName : PySem.W.mroIn K c_BadName (.type "object") = some true)
    (ks_BadName_ValueError : PySem.W.subIn K (.ref c_BadName) (.type "ValueError") = some true)
    (ks_BadName_BadValue : PySem.W.subIn K (.ref c_BadName) (.ref c_BadValue) = some false)
    (z_BadName_name : PySem.W.findIn K (.ref c_BadName) "name" = some none)
    (n_BadValue : PySem.W.nsIn K mainGlobals "BadValue" = some (some (.ref c_BadValue)))
    (x_BadValue : K.lookup c_BadValue = some (excClassObj nm_BadValue q_BadValue c_BadValue N_BadValue bs_BadValue [.type "ValueError", .type "Exception", .type "BaseException", .type "object"] true sn_BadValue sub_BadValue ab_BadValue col_BadValue dd_BadValue m0_BadValue m1_BadValue m2_BadValue m3_BadValue m5_BadValue "ValueError.__new__"))
    (sa_BadValue : PySem.W.findIn K (.ref c_BadValue) "__setattr__" = some (some (.builtin "object.__setattr__")))
    (ga_BadValue : PySem.W.findIn K (.ref c_BadValue) "__getattribute__" = some (some (.builtin "BaseException.__getattribute__")))
    (gg_BadValue : PySem.W.findIn K (.ref c_BadValue) "__getattr__" = some none)
    (eC_BadValue : PySem.W.subIn K (.ref c_BadValue) (.type "BaseException") = some true)
    (tC_BadValue : PySem.W.typeIn K (.ref c_BadValue) = some (.type "type"))
    (kC_BadValue : PySem.W.keepIn K (.ref c_BadValue) = true)
    (hC_BadValue : PySem.W.hasDictIn K c_BadValue = true)
    (iC_BadValue : PySem.W.isClsIn K c_BadValue = true)
    (sC_BadValue : PySem.W.subIn K (.ref c_BadValue) (.ref c_BadValue) = some true)
    (va_BadValue : PySem.W.findIn K (.ref c_BadValue) "__class__" = some (some (.builtin "object.__class__")))
    (vn_BadValue : PySem.W.specialIn K (.builtin "object.__class__") "__get__" = some (some (.builtin "getset_descriptor.__get__")))
    (vt_BadValue : PySem.W.takesIn K (.builtin "object.__class__") = some true)
    (vm_BadValue : PySem.W.mroIn K c_BadValue (.type "object") = some true)
    (xs_BadValue_BadName : PySem.W.subIn K (.ref c_BadValue) (.ref c_BadName) = some false)
    (ks_BadValue_ValueError : PySem.W.subIn K (.ref c_BadValue) (.type "ValueError") = some true)
    (z_BadValue_value : PySem.W.findIn K (.ref c_BadValue) "value" = some none)
    (n_TooMany : PySem.W.nsIn K mainGlobals "TooMany" = some (some (.ref c_TooMany)))
    (x_TooMany : K.lookup c_TooMany = some (excClassObj nm_TooMany q_TooMany c_TooMany N_TooMany bs_TooMany [.type "OverflowError", .type "ArithmeticError", .type "Exception", .type "BaseException", .type "object"] true sn_TooMany sub_TooMany ab_TooMany col_TooMany dd_TooMany m0_TooMany m1_TooMany m2_TooMany m3_TooMany m5_TooMany "OverflowError.__new__"))
    (sa_TooMany : PySem.W.findIn K (.ref c_TooMany) "__setattr__" = some (some (.builtin "object.__setattr__")))
    (ga_TooMany : PySem.W.findIn K (.ref c_TooMany) "__getattribute__" = some (some (.builtin "BaseException.__getattribute__")))
    (gg_TooMany : PySem.W.findIn K (.ref c_TooMany) "__getattr__" = some none)
    (eC_TooMany : PySem.W.subIn K (.ref c_TooMany) (.type "BaseException") = some true)
    (tC_TooMany : PySem.W.typeIn K (.ref c_TooMany) = some (.type "type"))
    (kC_TooMany : PySem.W.keepIn K (.ref c_TooMany) = true)
    (hC_TooMany : PySem.W.hasDictIn K c_TooMany = true)
    (iC_TooMany : PySem.W.isClsIn K c_TooMany = true)
    (sC_TooMany : PySem.W.subIn K (.ref c_TooMany) (.ref c_TooMany) = some true)
    (va_TooMany : PySem.W.findIn K (.ref c_TooMany) "__class__" = some (some (.builtin "object.__class__")))
    (vn_TooMany : PySem.W.specialIn K (.builtin "object.__class__") "__get__" = some (some (.builtin "getset_descriptor.__get__")))
    (vt_TooMany : PySem.W.takesIn K (.builtin "object.__class__") = some true)
    (vm_TooMany : PySem.W.mroIn K c_TooMany (.type "object") = some true)
    (xs_TooMany_BadName : PySem.W.subIn K (.ref c_TooMany) (.ref c_BadName) = some false)
    (xs_TooMany_BadValue : PySem.W.subIn K (.ref c_TooMany) (.ref c_BadValue) = some false)
    (ks_TooMany_OverflowError : PySem.W.subIn K (.ref c_TooMany) (.type "OverflowError") = some true)
    (ks_TooMany_ValueError : PySem.W.subIn K (.ref c_TooMany) (.type "ValueError") = some false)
    (z_TooMany_limit : PySem.W.findIn K (.ref c_TooMany) "limit" = some none)
    (n_Step : PySem.W.nsIn K mainGlobals "Step" = some (some (.ref c_Step)))
    (pg_Step : PySem.W.plainGet K c_Step Str.empty = true)
    (hd_Step : PySem.W.hasDictIn K c_Step = true)
    (po_Step : PySem.W.plainOver K c_Step = true)
    (sa_Step : PySem.W.findIn K (.ref c_Step) "__setattr__" = some (some (.builtin "object.__setattr__")))
    (ha_Step : PySem.W.findIn K (.ref c_Step) "__class__" = some (some (.builtin "object.__class__")))
    (hn_Step : PySem.W.specialIn K (.builtin "object.__class__") "__get__" = some (some (.builtin "getset_descriptor.__get__")))
    (ht_Step : PySem.W.takesIn K (.builtin "object.__class__") = some true)
    (hm_Step : PySem.W.mroIn K c_Step (.type "object") = some true)
    (n_Read : PySem.W.nsIn K mainGlobals "Read" = some (some (.ref c_Read)))
    (pg_Read : PySem.W.plainGet K c_Read Str.empty = true)
    (hd_Read : PySem.W.hasDictIn K c_Read = true)
    (po_Read : PySem.W.plainOver K c_Read = true)
    (sa_Read : PySem.W.findIn K (.ref c_Read) "__setattr__" = some (some (.builtin "object.__setattr__")))
    (ha_Read : PySem.W.findIn K (.ref c_Read) "__class__" = some (some (.builtin "object.__class__")))
    (hn_Read : PySem.W.specialIn K (.builtin "object.__class__") "__get__" = some (some (.builtin "getset_descriptor.__get__")))
    (ht_Read : PySem.W.takesIn K (.builtin "object.__class__") = some true)
    (hm_Read : PySem.W.mroIn K c_Read (.type "object") = some true)
    (na_Read_into : PySem.W.findIn K (.ref c_Read) "into" = some none)
    (na_Read_target : PySem.W.findIn K (.ref c_Read) "target" = some none)
    (na_Read_default : PySem.W.findIn K (.ref c_Read) "default" = some none)
    (mk_Read : PySem.W.makesIn K c_Read = true)
    (kc_Read : PySem.W.keepIn K (.ref c_Read) = true)
    (n_Let : PySem.W.nsIn K mainGlobals "Let" = some (some (.ref c_Let)))
    (pg_Let : PySem.W.plainGet K c_Let Str.empty = true)
    (hd_Let : PySem.W.hasDictIn K c_Let = true)
    (po_Let : PySem.W.plainOver K c_Let = true)
    (sa_Let : PySem.W.findIn K (.ref c_Let) "__setattr__" = some (some (.builtin "object.__setattr__")))
    (ha_Let : PySem.W.findIn K (.ref c_Let) "__class__" = some (some (.builtin "object.__class__")))
    (hn_Let : PySem.W.specialIn K (.builtin "object.__class__") "__get__" = some (some (.builtin "getset_descriptor.__get__")))
    (ht_Let : PySem.W.takesIn K (.builtin "object.__class__") = some true)
    (hm_Let : PySem.W.mroIn K c_Let (.type "object") = some true)
    (na_Let_into : PySem.W.findIn K (.ref c_Let) "into" = some none)
    (na_Let_value : PySem.W.findIn K (.ref c_Let) "value" = some none)
    (mk_Let : PySem.W.makesIn K c_Let = true)
    (kc_Let : PySem.W.keepIn K (.ref c_Let) = true)
    (n_Work : PySem.W.nsIn K mainGlobals "Work" = some (some (.ref c_Work)))
    (pg_Work : PySem.W.plainGet K c_Work Str.empty = true)
    (hd_Work : PySem.W.hasDictIn K c_Work = true)
    (po_Work : PySem.W.plainOver K c_Work = true)
    (sa_Work : PySem.W.findIn K (.ref c_Work) "__setattr__" = some (some (.builtin "object.__setattr__")))
    (ha_Work : PySem.W.findIn K (.ref c_Work) "__class__" = some (some (.builtin "object.__class__")))
    (hn_Work : PySem.W.specialIn K (.builtin "object.__class__") "__get__" = some (some (.builtin "getset_descriptor.__get__")))
    (ht_Work : PySem.W.takesIn K (.builtin "object.__class__") = some true)
    (hm_Work : PySem.W.mroIn K c_Work (.type "object") = some true)
    (eq_Work : PySem.W.findIn K (.ref c_Work) "__eq__" = some (some (.ref f_Step_eq)))
    (en_Work : PySem.W.findIn K (.ref c_Work) "__ne__" = some (some (.builtin "object.__ne__")))
    (con_Work_WORD : PySem.W.findIn K (.ref c_Work) "WORD" = some (some (.str "work" tk_Work_WORD)))
    (cog_Work_WORD : PySem.W.specialIn K (.str "work" tk_Work_WORD) "__get__" = some none)
    (sb_Work_Step : PySem.W.subIn K (.ref c_Work) (.ref c_Step) = some true)
    (sc_Work_Step : PySem.W.isClsIn K c_Step = true)
    (st_Work_Step : PySem.W.typeIn K (.ref c_Step) = some (.type "type"))
    (na_Work_into : PySem.W.findIn K (.ref c_Work) "into" = some none)
    (na_Work_function : PySem.W.findIn K (.ref c_Work) "function" = some none)
    (na_Work_operands : PySem.W.findIn K (.ref c_Work) "operands" = some none)
    (mk_Work : PySem.W.makesIn K c_Work = true)
    (kc_Work : PySem.W.keepIn K (.ref c_Work) = true)
    (rd_Work : PySem.W.readsIn K c_Work (.type "type") = true)
    (gq_Work : PySem.W.specialIn K (.ref c_Work) "__getattribute__" = some (some (.builtin "type.__getattribute__")))
    (n_Put : PySem.W.nsIn K mainGlobals "Put" = some (some (.ref c_Put)))
    (pg_Put : PySem.W.plainGet K c_Put Str.empty = true)
    (hd_Put : PySem.W.hasDictIn K c_Put = true)
    (po_Put : PySem.W.plainOver K c_Put = true)
    (sa_Put : PySem.W.findIn K (.ref c_Put) "__setattr__" = some (some (.builtin "object.__setattr__")))
    (ha_Put : PySem.W.findIn K (.ref c_Put) "__class__" = some (some (.builtin "object.__class__")))
    (hn_Put : PySem.W.specialIn K (.builtin "object.__class__") "__get__" = some (some (.builtin "getset_descriptor.__get__")))
    (ht_Put : PySem.W.takesIn K (.builtin "object.__class__") = some true)
    (hm_Put : PySem.W.mroIn K c_Put (.type "object") = some true)
    (na_Put_cell : PySem.W.findIn K (.ref c_Put) "cell" = some none)
    (na_Put_value : PySem.W.findIn K (.ref c_Put) "value" = some none)
    (na_Put_typed : PySem.W.findIn K (.ref c_Put) "typed" = some none)
    (mk_Put : PySem.W.makesIn K c_Put = true)
    (kc_Put : PySem.W.keepIn K (.ref c_Put) = true)
    (n_Keep : PySem.W.nsIn K mainGlobals "Keep" = some (some (.ref c_Keep)))
    (pg_Keep : PySem.W.plainGet K c_Keep Str.empty = true)
    (hd_Keep : PySem.W.hasDictIn K c_Keep = true)
    (po_Keep : PySem.W.plainOver K c_Keep = true)
    (sa_Keep : PySem.W.findIn K (.ref c_Keep) "__setattr__" = some (some (.builtin "object.__setattr__")))
    (ha_Keep : PySem.W.findIn K (.ref c_Keep) "__class__" = some (some (.builtin "object.__class__")))
    (hn_Keep : PySem.W.specialIn K (.builtin "object.__class__") "__get__" = some (some (.builtin "getset_descriptor.__get__")))
    (ht_Keep : PySem.W.takesIn K (.builtin "object.__class__") = some true)
    (hm_Keep : PySem.W.mroIn K c_Keep (.type "object") = some true)
    (na_Keep_slot : PySem.W.findIn K (.ref c_Keep) "slot" = some none)
    (na_Keep_value : PySem.W.findIn K (.ref c_Keep) "value" = some none)
    (na_Keep_late : PySem.W.findIn K (.ref c_Keep) "late" = some none)
    (mk_Keep : PySem.W.makesIn K c_Keep = true)
    (kc_Keep : PySem.W.keepIn K (.ref c_Keep) = true)
    (n_Show : PySem.W.nsIn K mainGlobals "Show" = some (some (.ref c_Show)))
    (pg_Show : PySem.W.plainGet K c_Show Str.empty = true)
    (hd_Show : PySem.W.hasDictIn K c_Show = true)
    (po_Show : PySem.W.plainOver K c_Show = true)
    (sa_Show : PySem.W.findIn K (.ref c_Show) "__setattr__" = some (some (.builtin "object.__setattr__")))
    (ha_Show : PySem.W.findIn K (.ref c_Show) "__class__" = some (some (.builtin "object.__class__")))
    (hn_Show : PySem.W.specialIn K (.builtin "object.__class__") "__get__" = some (some (.builtin "getset_descriptor.__get__")))
    (ht_Show : PySem.W.takesIn K (.builtin "object.__class__") = some true)
    (hm_Show : PySem.W.mroIn K c_Show (.type "object") = some true)
    (na_Show_field : PySem.W.findIn K (.ref c_Show) "field" = some none)
    (na_Show_value : PySem.W.findIn K (.ref c_Show) "value" = some none)
    (na_Show_guess : PySem.W.findIn K (.ref c_Show) "guess" = some none)
    (mk_Show : PySem.W.makesIn K c_Show = true)
    (kc_Show : PySem.W.keepIn K (.ref c_Show) = true)
    (n_Has : PySem.W.nsIn K mainGlobals "Has" = some (some (.ref c_Has)))
    (pg_Has : PySem.W.plainGet K c_Has Str.empty = true)
    (hd_Has : PySem.W.hasDictIn K c_Has = true)
    (po_Has : PySem.W.plainOver K c_Has = true)
    (sa_Has : PySem.W.findIn K (.ref c_Has) "__setattr__" = some (some (.builtin "object.__setattr__")))
    (ha_Has : PySem.W.findIn K (.ref c_Has) "__class__" = some (some (.builtin "object.__class__")))
    (hn_Has : PySem.W.specialIn K (.builtin "object.__class__") "__get__" = some (some (.builtin "getset_descriptor.__get__")))
    (ht_Has : PySem.W.takesIn K (.builtin "object.__class__") = some true)
    (hm_Has : PySem.W.mroIn K c_Has (.type "object") = some true)
    (na_Has_value : PySem.W.findIn K (.ref c_Has) "value" = some none)
    (mk_Has : PySem.W.makesIn K c_Has = true)
    (kc_Has : PySem.W.keepIn K (.ref c_Has) = true)
    (n_Typed : PySem.W.nsIn K mainGlobals "Typed" = some (some (.ref c_Typed)))
    (pg_Typed : PySem.W.plainGet K c_Typed Str.empty = true)
    (hd_Typed : PySem.W.hasDictIn K c_Typed = true)
    (po_Typed : PySem.W.plainOver K c_Typed = true)
    (sa_Typed : PySem.W.findIn K (.ref c_Typed) "__setattr__" = some (some (.builtin "object.__setattr__")))
    (ha_Typed : PySem.W.findIn K (.ref c_Typed) "__class__" = some (some (.builtin "object.__class__")))
    (hn_Typed : PySem.W.specialIn K (.builtin "object.__class__") "__get__" = some (some (.builtin "getset_descriptor.__get__")))
    (ht_Typed : PySem.W.takesIn K (.builtin "object.__class__") = some true)
    (hm_Typed : PySem.W.mroIn K c_Typed (.type "object") = some true)
    (na_Typed_parameter : PySem.W.findIn K (.ref c_Typed) "parameter" = some none)
    (mk_Typed : PySem.W.makesIn K c_Typed = true)
    (kc_Typed : PySem.W.keepIn K (.ref c_Typed) = true)
    (n_Holds : PySem.W.nsIn K mainGlobals "Holds" = some (some (.ref c_Holds)))
    (pg_Holds : PySem.W.plainGet K c_Holds Str.empty = true)
    (hd_Holds : PySem.W.hasDictIn K c_Holds = true)
    (po_Holds : PySem.W.plainOver K c_Holds = true)
    (sa_Holds : PySem.W.findIn K (.ref c_Holds) "__setattr__" = some (some (.builtin "object.__setattr__")))
    (ha_Holds : PySem.W.findIn K (.ref c_Holds) "__class__" = some (some (.builtin "object.__class__")))
    (hn_Holds : PySem.W.specialIn K (.builtin "object.__class__") "__get__" = some (some (.builtin "getset_descriptor.__get__")))
    (ht_Holds : PySem.W.takesIn K (.builtin "object.__class__") = some true)
    (hm_Holds : PySem.W.mroIn K c_Holds (.type "object") = some true)
    (eq_Holds : PySem.W.findIn K (.ref c_Holds) "__eq__" = some (some (.ref f_Holds_eq)))
    (en_Holds : PySem.W.findIn K (.ref c_Holds) "__ne__" = some (some (.builtin "object.__ne__")))
    (na_Holds_test : PySem.W.findIn K (.ref c_Holds) "test" = some none)
    (na_Holds_operands : PySem.W.findIn K (.ref c_Holds) "operands" = some none)
    (mk_Holds : PySem.W.makesIn K c_Holds = true)
    (kc_Holds : PySem.W.keepIn K (.ref c_Holds) = true)
    (rd_Holds : PySem.W.readsIn K c_Holds (.type "type") = true)
    (gq_Holds : PySem.W.specialIn K (.ref c_Holds) "__getattribute__" = some (some (.builtin "type.__getattribute__")))
    (n_LETTERS : PySem.W.nsIn K mainGlobals "LETTERS" = some (some (.str "abcdefghijklmnopqrstuvwxyz" tk_LETTERS)))
    (n_MOST_SIGNS : PySem.W.nsIn K mainGlobals "MOST_SIGNS" = some (some (.int 8 tk_MOST_SIGNS)))
    (n_MOST_OPERANDS : PySem.W.nsIn K mainGlobals "MOST_OPERANDS" = some (some (.int 3 tk_MOST_OPERANDS)))
    (n_BEYOND : PySem.W.nsIn K mainGlobals "BEYOND" = some (some (.int 100000000000000000000 tk_BEYOND)))
    (b_OverflowError : PySem.W.nsIn K mainGlobals "OverflowError" = some none)
    (b_ValueError : PySem.W.nsIn K mainGlobals "ValueError" = some none)
    (b_abs : PySem.W.nsIn K mainGlobals "abs" = some none)
    (b_all : PySem.W.nsIn K mainGlobals "all" = some none)
    (b_bool : PySem.W.nsIn K mainGlobals "bool" = some none)
    (b_enumerate : PySem.W.nsIn K mainGlobals "enumerate" = some none)
    (b_int : PySem.W.nsIn K mainGlobals "int" = some none)
    (b_isinstance : PySem.W.nsIn K mainGlobals "isinstance" = some none)
    (b_len : PySem.W.nsIn K mainGlobals "len" = some none)
    (b_max : PySem.W.nsIn K mainGlobals "max" = some none)
    (b_min : PySem.W.nsIn K mainGlobals "min" = some none)
    (b_range : PySem.W.nsIn K mainGlobals "range" = some none)
    (b_repr : PySem.W.nsIn K mainGlobals "repr" = some none)
    (b_str : PySem.W.nsIn K mainGlobals "str" = some none)
    (b_tuple : PySem.W.nsIn K mainGlobals "tuple" = some none) :
    ∃ fd : FuncData, (∀ (s : Shared) (u : Value), BindsTo s fd ⟨[u], []⟩ [("script", u)]) ∧ ∀ base : Heap, K.In base → base.Ns mainGlobals mg → FnZ P w K mg base 10 fa fd ["script"] (spLaw K) := by
  have e := hfa.symm.trans (PySem.W.mg_of X G a_law)
  cases e
  have T : Txt K mg ⟨f_BadName_init, _, f_BadValue_init, _, f_TooMany_init, _, f_is_name, _, f_is_int, _, f_check_name, _, f_check_operand, _, f_check_operands, _, f_Step_parts, _, f_Step_eq, _, f_Read_init, _, f_Read_parts, _, f_Let_init, _, f_Let_parts, _, f_Work_init, _, f_Work_made, _, f_Work_parts, _, f_Put_init, _, f_Put_parts, _, f_Keep_init, _, f_Keep_parts, _, f_Show_init, _, f_Show_parts, _, f_Has_init, _, f_Has_eq, _, f_Typed_init, _, f_Typed_eq, _, f_Holds_init, _, f_Holds_made, _, f_Holds_eq, _, f_law_deck, _, f_law_draw, _, f_law_of, _, f_law_number, _, f_law_names, _, f_law_odd_name, _, f_law_odd_operand, _, f_law_operand, _, f_law_made, _, f_law_told, _, f_law_due, _, _, _, c_BadName, c_BadValue, c_TooMany, c_Step, c_Read, c_Let, c_Work, p_Work_made, c_Put, c_Keep, c_Show, c_Has, c_Typed, c_Holds, p_Holds_made, kt_Read_init⟩ := {
    f_BadName_init := fun_mk (st := s_BadName_init) l_BadName_init cc_BadName_init k_BadName_init,
    e_BadName_init := (fun_mk (st := s_BadName_init) l_BadName_init cc_BadName_init k_BadName_init).binds (ps := ["self", "name"]) fun _ _ _ _ _ _ us hl => match us, hl with | [_, _], _ => rfl,
    f_BadValue_init := fun_mk (st := s_BadValue_init) l_BadValue_init cc_BadValue_init k_BadValue_init,
    e_BadValue_init := (fun_mk (st := s_BadValue_init) l_BadValue_init cc_BadValue_init k_BadValue_init).binds (ps := ["self", "value"]) fun _ _ _ _ _ _ us hl => match us, hl with | [_, _], _ => rfl,
    f_TooMany_init := fun_mk (st := s_TooMany_init) l_TooMany_init cc_TooMany_init k_TooMany_init,
    e_TooMany_init := (fun_mk (st := s_TooMany_init) l_TooMany_init cc_TooMany_init k_TooMany_init).binds (ps := ["self", "limit"]) fun _ _ _ _ _ _ us hl => match us, hl with | [_, _], _ => rfl,
    f_is_name := fun_mk (st := s_is_name) l_is_name cc_is_name k_is_name,
    e_is_name := (fun_mk (st := s_is_name) l_is_name cc_is_name k_is_name).binds (ps := ["thing"]) fun _ _ _ _ _ _ us hl => match us, hl with | [_], _ => rfl,
    g_is_name := PySem.W.mg_of X G a_is_name,
    k_is_name := k_is_name,
    f_is_int := fun_mk (st := s_is_int) l_is_int cc_is_int k_is_int,
    e_is_int := (fun_mk (st := s_is_int) l_is_int cc_is_int k_is_int).binds (ps := ["thing"]) fun _ _ _ _ _ _ us hl => match us, hl with | [_], _ => rfl,
    g_is_int := PySem.W.mg_of X G a_is_int,
    k_is_int := k_is_int,
    f_check_name := fun_mk (st := s_check_name) l_check_name cc_check_name k_check_name,
    e_check_name := (fun_mk (st := s_check_name) l_check_name cc_check_name k_check_name).binds (ps := ["thing"]) fun _ _ _ _ _ _ us hl => match us, hl with | [_], _ => rfl,
    g_check_name := PySem.W.mg_of X G a_check_name,
    k_check_name := k_check_name,
    f_check_operand := fun_mk (st := s_check_operand) l_check_operand cc_check_operand k_check_operand,
    e_check_operand := (fun_mk (st := s_check_operand) l_check_operand cc_check_operand k_check_operand).binds (ps := ["thing"]) fun _ _ _ _ _ _ us hl => match us, hl with | [_], _ => rfl,
    g_check_operand := PySem.W.mg_of X G a_check_operand,
    k_check_operand := k_check_operand,
    f_check_operands := fun_mk (st := s_check_operands) l_check_operands cc_check_operands k_check_operands,
    e_check_operands := (fun_mk (st := s_check_operands) l_check_operands cc_check_operands k_check_operands).binds (ps := ["things"]) fun _ _ _ _ _ _ us hl => match us, hl with | [_], _ => rfl,
    g_check_operands := PySem.W.mg_of X G a_check_operands,
    k_check_operands := k_check_operands,
    f_Step_parts := fun_mk (st := s_Step_parts) l_Step_parts cc_Step_parts k_Step_parts,
    e_Step_parts := (fun_mk (st := s_Step_parts) l_Step_parts cc_Step_parts k_Step_parts).binds (ps := ["self"]) fun _ _ _ _ _ _ us hl => match us, hl with | [_], _ => rfl,
    f_Step_eq := fun_mk (st := s_Step_eq) l_Step_eq cc_Step_eq k_Step_eq,
    e_Step_eq := (fun_mk (st := s_Step_eq) l_Step_eq cc_Step_eq k_Step_eq).binds (ps := ["self", "other"]) fun _ _ _ _ _ _ us hl => match us, hl with | [_, _], _ => rfl,
    e_Read_init := by
      intro s us X hl
      have hl2 : us.length = 3 := by simpa using hl
      refine BindsTo.of_looks fun M => KwChain.looks (D := kD_Read_init) (l := [("default", .ref kt_Read_init)]) X (fun q hq => by rw [List.mem_singleton.mp hq]; exact kn_Read_init) ?_
      match us, hl2 with
      | [u0, u1, u2], _ => exact ⟨_, _, _, _, _, _, rfl, rfl, rfl⟩,
    kt_Read_init := fun H => .inr ⟨_, #[], _, kl_Read_init, rfl, rfl, by decide, .nil⟩,
    kz_3 := Fun.kbn (fun_mk (st := s_Read_init) l_Read_init cc_Read_init k_Read_init) (fun _ _ _ _ _ _ us ws h1 h2 => match us, ws, h1, h2 with | [_, _, _], [_], _, _ => rfl) (fun r1 r2 => r1.append r2),
    f_Read_init := fun_mk (st := s_Read_init) l_Read_init cc_Read_init k_Read_init,
    f_Read_parts := fun_mk (st := s_Read_parts) l_Read_parts cc_Read_parts k_Read_parts,
    e_Read_parts := (fun_mk (st := s_Read_parts) l_Read_parts cc_Read_parts k_Read_parts).binds (ps := ["self"]) fun _ _ _ _ _ _ us hl => match us, hl with | [_], _ => rfl,
    f_Let_init := fun_mk (st := s_Let_init) l_Let_init cc_Let_init k_Let_init,
    e_Let_init := (fun_mk (st := s_Let_init) l_Let_init cc_Let_init k_Let_init).binds (ps := ["self", "into", "value"]) fun _ _ _ _ _ _ us hl => match us, hl with | [_, _, _], _ => rfl,
    f_Let_parts := fun_mk (st := s_Let_parts) l_Let_parts cc_Let_parts k_Let_parts,
    e_Let_parts := (fun_mk (st := s_Let_parts) l_Let_parts cc_Let_parts k_Let_parts).binds (ps := ["self"]) fun _ _ _ _ _ _ us hl => match us, hl with | [_], _ => rfl,
    f_Work_init := fun_mk (st := s_Work_init) l_Work_init cc_Work_init k_Work_init,
    f_Work_made := fun_mk (st := s_Work_made) l_Work_made cc_Work_made k_Work_made,
    e_Work_made := (fun_mk (st := s_Work_made) l_Work_made cc_Work_made k_Work_made).binds (ps := ["cls", "into", "function", "operands"]) fun _ _ _ _ _ _ us hl => match us, hl with | [_, _, _, _], _ => rfl,
    f_Work_parts := fun_mk (st := s_Work_parts) l_Work_parts cc_Work_parts k_Work_parts,
    e_Work_parts := (fun_mk (st := s_Work_parts) l_Work_parts cc_Work_parts k_Work_parts).binds (ps := ["self"]) fun _ _ _ _ _ _ us hl => match us, hl with | [_], _ => rfl,
    kz_0 := Fun.kbn (fun_mk (st := s_Put_init) l_Put_init cc_Put_init k_Put_init) (fun _ _ _ _ _ _ us ws h1 h2 => match us, ws, h1, h2 with | [_, _, _], [_], _, _ => rfl) (fun r1 r2 => r1.append r2),
    f_Put_init := fun_mk (st := s_Put_init) l_Put_init cc_Put_init k_Put_init,
    f_Put_parts := fun_mk (st := s_Put_parts) l_Put_parts cc_Put_parts k_Put_parts,
    e_Put_parts := (fun_mk (st := s_Put_parts) l_Put_parts cc_Put_parts k_Put_parts).binds (ps := ["self"]) fun _ _ _ _ _ _ us hl => match us, hl with | [_], _ => rfl,
    kz_1 := Fun.kbn (fun_mk (st := s_Keep_init) l_Keep_init cc_Keep_init k_Keep_init) (fun _ _ _ _ _ _ us ws h1 h2 => match us, ws, h1, h2 with | [_, _, _], [_], _, _ => rfl) (fun r1 r2 => r1.append r2),
    f_Keep_init := fun_mk (st := s_Keep_init) l_Keep_init cc_Keep_init k_Keep_init,
    f_Keep_parts := fun_mk (st := s_Keep_parts) l_Keep_parts cc_Keep_parts k_Keep_parts,
    e_Keep_parts := (fun_mk (st := s_Keep_parts) l_Keep_parts cc_Keep_parts k_Keep_parts).binds (ps := ["self"]) fun _ _ _ _ _ _ us hl => match us, hl with | [_], _ => rfl,
    kz_2 := Fun.kbn (fun_mk (st := s_Show_init) l_Show_init cc_Show_init k_Show_init) (fun _ _ _ _ _ _ us ws h1 h2 => match us, ws, h1, h2 with | [_, _, _], [_], _, _ => rfl) (fun r1 r2 => r1.append r2),
    f_Show_init := fun_mk (st := s_Show_init) l_Show_init cc_Show_init k_Show_init,
    f_Show_parts := fun_mk (st := s_Show_parts) l_Show_parts cc_Show_parts k_Show_parts,
    e_Show_parts := (fun_mk (st := s_Show_parts) l_Show_parts cc_Show_parts k_Show_parts).binds (ps := ["self"]) fun _ _ _ _ _ _ us hl => match us, hl with | [_], _ => rfl,
    f_Has_init := fun_mk (st := s_Has_init) l_Has_init cc_Has_init k_Has_init,
    e_Has_init := (fun_mk (st := s_Has_init) l_Has_init cc_Has_init k_Has_init).binds (ps := ["self", "value"]) fun _ _ _ _ _ _ us hl => match us, hl with | [_, _], _ => rfl,
    f_Has_eq := fun_mk (st := s_Has_eq) l_Has_eq cc_Has_eq k_Has_eq,
    e_Has_eq := (fun_mk (st := s_Has_eq) l_Has_eq cc_Has_eq k_Has_eq).binds (ps := ["self", "other"]) fun _ _ _ _ _ _ us hl => match us, hl with | [_, _], _ => rfl,
    f_Typed_init := fun_mk (st := s_Typed_init) l_Typed_init cc_Typed_init k_Typed_init,
    e_Typed_init := (fun_mk (st := s_Typed_init) l_Typed_init cc_Typed_init k_Typed_init).binds (ps := ["self", "parameter"]) fun _ _ _ _ _ _ us hl => match us, hl with | [_, _], _ => rfl,
    f_Typed_eq := fun_mk (st := s_Typed_eq) l_Typed_eq cc_Typed_eq k_Typed_eq,
    e_Typed_eq := (fun_mk (st := s_Typed_eq) l_Typed_eq cc_Typed_eq k_Typed_eq).binds (ps := ["self", "other"]) fun _ _ _ _ _ _ us hl => match us, hl with | [_, _], _ => rfl,
    f_Holds_init := fun_mk (st := s_Holds_init) l_Holds_init cc_Holds_init k_Holds_init,
    f_Holds_made := fun_mk (st := s_Holds_made) l_Holds_made cc_Holds_made k_Holds_made,
    e_Holds_made := (fun_mk (st := s_Holds_made) l_Holds_made cc_Holds_made k_Holds_made).binds (ps := ["cls", "test", "operands"]) fun _ _ _ _ _ _ us hl => match us, hl with | [_, _, _], _ => rfl,
    f_Holds_eq := fun_mk (st := s_Holds_eq) l_Holds_eq cc_Holds_eq k_Holds_eq,
    e_Holds_eq := (fun_mk (st := s_Holds_eq) l_Holds_eq cc_Holds_eq k_Holds_eq).binds (ps := ["self", "other"]) fun _ _ _ _ _ _ us hl => match us, hl with | [_, _], _ => rfl,
    f_law_deck := fun_mk (st := s_law_deck) l_law_deck cc_law_deck k_law_deck,
    e_law_deck := (fun_mk (st := s_law_deck) l_law_deck cc_law_deck k_law_deck).binds (ps := ["script", "turn"]) fun _ _ _ _ _ _ us hl => match us, hl with | [_, _], _ => rfl,
    g_law_deck := PySem.W.mg_of X G a_law_deck,
    k_law_deck := k_law_deck,
    f_law_draw := fun_mk (st := s_law_draw) l_law_draw cc_law_draw k_law_draw,
    e_law_draw := (fun_mk (st := s_law_draw) l_law_draw cc_law_draw k_law_draw).binds (ps := ["deck", "many"]) fun _ _ _ _ _ _ us hl => match us, hl with | [_, _], _ => rfl,
    g_law_draw := PySem.W.mg_of X G a_law_draw,
    k_law_draw := k_law_draw,
    f_law_of := fun_mk (st := s_law_of) l_law_of cc_law_of k_law_of,
    e_law_of := (fun_mk (st := s_law_of) l_law_of cc_law_of k_law_of).binds (ps := ["deck", "some"]) fun _ _ _ _ _ _ us hl => match us, hl with | [_, _], _ => rfl,
    g_law_of := PySem.W.mg_of X G a_law_of,
    k_law_of := k_law_of,
    f_law_number := fun_mk (st := s_law_number) l_law_number cc_law_number k_law_number,
    e_law_number := (fun_mk (st := s_law_number) l_law_number cc_law_number k_law_number).binds (ps := ["deck"]) fun _ _ _ _ _ _ us hl => match us, hl with | [_], _ => rfl,
    g_law_number := PySem.W.mg_of X G a_law_number,
    k_law_number := k_law_number,
    f_law_names := fun_mk (st := s_law_names) l_law_names cc_law_names k_law_names,
    e_law_names := (fun_mk (st := s_law_names) l_law_names cc_law_names k_law_names).binds (ps := ["deck", "many"]) fun _ _ _ _ _ _ us hl => match us, hl with | [_, _], _ => rfl,
    g_law_names := PySem.W.mg_of X G a_law_names,
    k_law_names := k_law_names,
    f_law_odd_name := fun_mk (st := s_law_odd_name) l_law_odd_name cc_law_odd_name k_law_odd_name,
    e_law_odd_name := (fun_mk (st := s_law_odd_name) l_law_odd_name cc_law_odd_name k_law_odd_name).binds (ps := ["deck"]) fun _ _ _ _ _ _ us hl => match us, hl with | [_], _ => rfl,
    g_law_odd_name := PySem.W.mg_of X G a_law_odd_name,
    k_law_odd_name := k_law_odd_name,
    f_law_odd_operand := fun_mk (st := s_law_odd_operand) l_law_odd_operand cc_law_odd_operand k_law_odd_operand,
    e_law_odd_operand := (fun_mk (st := s_law_odd_operand) l_law_odd_operand cc_law_odd_operand k_law_odd_operand).binds (ps := ["deck"]) fun _ _ _ _ _ _ us hl => match us, hl with | [_], _ => rfl,
    g_law_odd_operand := PySem.W.mg_of X G a_law_odd_operand,
    k_law_odd_operand := k_law_odd_operand,
    f_law_operand := fun_mk (st := s_law_operand) l_law_operand cc_law_operand k_law_operand,
    e_law_operand := (fun_mk (st := s_law_operand) l_law_operand cc_law_operand k_law_operand).binds (ps := ["deck", "names"]) fun _ _ _ _ _ _ us hl => match us, hl with | [_, _], _ => rfl,
    g_law_operand := PySem.W.mg_of X G a_law_operand,
    k_law_operand := k_law_operand,
    f_law_made := fun_mk (st := s_law_made) l_law_made cc_law_made k_law_made,
    e_law_made := (fun_mk (st := s_law_made) l_law_made cc_law_made k_law_made).binds (ps := ["word", "parts"]) fun _ _ _ _ _ _ us hl => match us, hl with | [_, _], _ => rfl,
    g_law_made := PySem.W.mg_of X G a_law_made,
    k_law_made := k_law_made,
    f_law_told := fun_mk (st := s_law_told) l_law_told cc_law_told k_law_told,
    e_law_told := (fun_mk (st := s_law_told) l_law_told cc_law_told k_law_told).binds (ps := ["word", "parts"]) fun _ _ _ _ _ _ us hl => match us, hl with | [_, _], _ => rfl,
    g_law_told := PySem.W.mg_of X G a_law_told,
    k_law_told := k_law_told,
    f_law_due := fun_mk (st := s_law_due) l_law_due cc_law_due k_law_due,
    e_law_due := (fun_mk (st := s_law_due) l_law_due cc_law_due k_law_due).binds (ps := ["roles", "parts", "odd", "is_many"]) fun _ _ _ _ _ _ us hl => match us, hl with | [_, _, _, _], _ => rfl,
    g_law_due := PySem.W.mg_of X G a_law_due,
    k_law_due := k_law_due,
    f_law := fun_mk (st := s_law) l_law cc_law k_law,
    e_law := (fun_mk (st := s_law) l_law cc_law k_law).binds (ps := ["script"]) fun _ _ _ _ _ _ us hl => match us, hl with | [_], _ => rfl,
    g_law := PySem.W.mg_of X G a_law,
    k_law := k_law,
    g_BadName := PySem.W.mg_of X G n_BadName,
    o_BadName := ⟨⟨_, _, _, _, _, _, _, _, _, _, _, _, _, _, _, _, _, _, _, PySem.F.excBase_ValueError, x_BadName, fun _ => rfl, PySem.F.store_ValueError.passes, by decide +kernel⟩, sa_BadName, eC_BadName, tC_BadName, kC_BadName⟩,
    x_BadName := ⟨ga_BadName, gg_BadName, eC_BadName, hC_BadName⟩,
    h_BadName := exm_own eC_BadName iC_BadName tC_BadName sC_BadName,
    i_BadName := a_BadName_init,
    t_BadName := t_BadName_init,
    xv_BadName := ⟨⟨ga_BadName, gg_BadName, eC_BadName, hC_BadName⟩, iC_BadName, va_BadName, vn_BadName, vt_BadName, vm_BadName⟩,
    kx_BadName_ValueError := kit_bt (by decide +kernel) ks_BadName_ValueError,
    kx_BadName_BadValue := kit_cls (kit_ne sC_BadName ks_BadName_BadValue) iC_BadValue tC_BadValue ks_BadName_BadValue,
    a_BadName_name := z_BadName_name,
    g_BadValue := PySem.W.mg_of X G n_BadValue,
    o_BadValue := ⟨⟨_, _, _, _, _, _, _, _, _, _, _, _, _, _, _, _, _, _, _, PySem.F.excBase_ValueError, x_BadValue, fun _ => rfl, PySem.F.store_ValueError.passes, by decide +kernel⟩, sa_BadValue, eC_BadValue, tC_BadValue, kC_BadValue⟩,
    x_BadValue := ⟨ga_BadValue, gg_BadValue, eC_BadValue, hC_BadValue⟩,
    h_BadValue := exm_own eC_BadValue iC_BadValue tC_BadValue sC_BadValue,
    i_BadValue := a_BadValue_init,
    t_BadValue := t_BadValue_init,
    xv_BadValue := ⟨⟨ga_BadValue, gg_BadValue, eC_BadValue, hC_BadValue⟩, iC_BadValue, va_BadValue, vn_BadValue, vt_BadValue, vm_BadValue⟩,
    hx_BadValue_BadName := exm_other eC_BadName iC_BadName tC_BadName xs_BadValue_BadName,
    kx_BadValue_ValueError := kit_bt (by decide +kernel) ks_BadValue_ValueError,
    a_BadValue_value := z_BadValue_value,
    g_TooMany := PySem.W.mg_of X G n_TooMany,
    o_TooMany := ⟨⟨_, _, _, _, _, _, _, _, _, _, _, _, _, _, _, _, _, _, _, PySem.F.excBase_OverflowError, x_TooMany, fun _ => rfl, PySem.F.store_OverflowError.passes, by decide +kernel⟩, sa_TooMany, eC_TooMany, tC_TooMany, kC_TooMany⟩,
    x_TooMany := ⟨ga_TooMany, gg_TooMany, eC_TooMany, hC_TooMany⟩,
    h_TooMany := exm_own eC_TooMany iC_TooMany tC_TooMany sC_TooMany,
    i_TooMany := a_TooMany_init,
    t_TooMany := t_TooMany_init,
    xv_TooMany := ⟨⟨ga_TooMany, gg_TooMany, eC_TooMany, hC_TooMany⟩, iC_TooMany, va_TooMany, vn_TooMany, vt_TooMany, vm_TooMany⟩,
    hx_TooMany_BadName := exm_other eC_BadName iC_BadName tC_BadName xs_TooMany_BadName,
    hx_TooMany_BadValue := exm_other eC_BadValue iC_BadValue tC_BadValue xs_TooMany_BadValue,
    kx_TooMany_OverflowError := kit_bt (by decide +kernel) ks_TooMany_OverflowError,
    kx_TooMany_ValueError := kit_bt (by decide +kernel) ks_TooMany_ValueError,
    a_TooMany_limit := z_TooMany_limit,
    g_Step := PySem.W.mg_of X G n_Step,
    cl_Step := ⟨pg_Step, hd_Step, po_Step, sa_Step⟩,
    ci_Step := ⟨⟨pg_Step, hd_Step, po_Step, sa_Step⟩, ha_Step, hn_Step, ht_Step, hm_Step⟩,
    a_Step_parts := a_Step_parts,
    i_Step_parts := i_Step_parts,
    a_Step_eq := a_Step_eq,
    i_Step_eq := i_Step_eq,
    g_Read := PySem.W.mg_of X G n_Read,
    cl_Read := ⟨pg_Read, hd_Read, po_Read, sa_Read⟩,
    ci_Read := ⟨⟨pg_Read, hd_Read, po_Read, sa_Read⟩, ha_Read, hn_Read, ht_Read, hm_Read⟩,
    na_Read_into := na_Read_into,
    na_Read_target := na_Read_target,
    na_Read_default := na_Read_default,
    m_Read := ⟨mk_Read, a_Read_init, i_Read_init, kc_Read⟩,
    a_Read_parts := a_Read_parts,
    i_Read_parts := i_Read_parts,
    g_Let := PySem.W.mg_of X G n_Let,
    cl_Let := ⟨pg_Let, hd_Let, po_Let, sa_Let⟩,
    ci_Let := ⟨⟨pg_Let, hd_Let, po_Let, sa_Let⟩, ha_Let, hn_Let, ht_Let, hm_Let⟩,
    na_Let_into := na_Let_into,
    na_Let_value := na_Let_value,
    m_Let := ⟨mk_Let, a_Let_init, i_Let_init, kc_Let⟩,
    a_Let_parts := a_Let_parts,
    i_Let_parts := i_Let_parts,
    g_Work := PySem.W.mg_of X G n_Work,
    cl_Work := ⟨pg_Work, hd_Work, po_Work, sa_Work⟩,
    ci_Work := ⟨⟨pg_Work, hd_Work, po_Work, sa_Work⟩, ha_Work, hn_Work, ht_Work, hm_Work⟩,
    eq_Work := eq_Work,
    en_Work := en_Work,
    con_Work_WORD := ⟨_, con_Work_WORD, ⟨_, rfl⟩, cog_Work_WORD, by decide +kernel⟩,
    su_Work_Step := kit_subT sc_Work_Step st_Work_Step sb_Work_Step,
    na_Work_into := na_Work_into,
    na_Work_function := na_Work_function,
    na_Work_operands := na_Work_operands,
    m_Work := ⟨mk_Work, a_Work_init, i_Work_init, kc_Work⟩,
    cm_Work_made := ⟨at_Work_made, ⟨_, rc_Work_made⟩, fi_Work_made⟩,
    a_Work_parts := a_Work_parts,
    i_Work_parts := i_Work_parts,
    cr_Work := ⟨rd_Work, gq_Work⟩,
    g_Put := PySem.W.mg_of X G n_Put,
    cl_Put := ⟨pg_Put, hd_Put, po_Put, sa_Put⟩,
    ci_Put := ⟨⟨pg_Put, hd_Put, po_Put, sa_Put⟩, ha_Put, hn_Put, ht_Put, hm_Put⟩,
    na_Put_cell := na_Put_cell,
    na_Put_value := na_Put_value,
    na_Put_typed := na_Put_typed,
    m_Put := ⟨mk_Put, a_Put_init, i_Put_init, kc_Put⟩,
    a_Put_parts := a_Put_parts,
    i_Put_parts := i_Put_parts,
    g_Keep := PySem.W.mg_of X G n_Keep,
    cl_Keep := ⟨pg_Keep, hd_Keep, po_Keep, sa_Keep⟩,
    ci_Keep := ⟨⟨pg_Keep, hd_Keep, po_Keep, sa_Keep⟩, ha_Keep, hn_Keep, ht_Keep, hm_Keep⟩,
    na_Keep_slot := na_Keep_slot,
    na_Keep_value := na_Keep_value,
    na_Keep_late := na_Keep_late,
    m_Keep := ⟨mk_Keep, a_Keep_init, i_Keep_init, kc_Keep⟩,
    a_Keep_parts := a_Keep_parts,
    i_Keep_parts := i_Keep_parts,
    g_Show := PySem.W.mg_of X G n_Show,
    cl_Show := ⟨pg_Show, hd_Show, po_Show, sa_Show⟩,
    ci_Show := ⟨⟨pg_Show, hd_Show, po_Show, sa_Show⟩, ha_Show, hn_Show, ht_Show, hm_Show⟩,
    na_Show_field := na_Show_field,
    na_Show_value := na_Show_value,
    na_Show_guess := na_Show_guess,
    m_Show := ⟨mk_Show, a_Show_init, i_Show_init, kc_Show⟩,
    a_Show_parts := a_Show_parts,
    i_Show_parts := i_Show_parts,
    g_Has := PySem.W.mg_of X G n_Has,
    cl_Has := ⟨pg_Has, hd_Has, po_Has, sa_Has⟩,
    ci_Has := ⟨⟨pg_Has, hd_Has, po_Has, sa_Has⟩, ha_Has, hn_Has, ht_Has, hm_Has⟩,
    na_Has_value := na_Has_value,
    m_Has := ⟨mk_Has, a_Has_init, i_Has_init, kc_Has⟩,
    a_Has_eq := a_Has_eq,
    i_Has_eq := i_Has_eq,
    g_Typed := PySem.W.mg_of X G n_Typed,
    cl_Typed := ⟨pg_Typed, hd_Typed, po_Typed, sa_Typed⟩,
    ci_Typed := ⟨⟨pg_Typed, hd_Typed, po_Typed, sa_Typed⟩, ha_Typed, hn_Typed, ht_Typed, hm_Typed⟩,
    na_Typed_parameter := na_Typed_parameter,
    m_Typed := ⟨mk_Typed, a_Typed_init, i_Typed_init, kc_Typed⟩,
    a_Typed_eq := a_Typed_eq,
    i_Typed_eq := i_Typed_eq,
    g_Holds := PySem.W.mg_of X G n_Holds,
    cl_Holds := ⟨pg_Holds, hd_Holds, po_Holds, sa_Holds⟩,
    ci_Holds := ⟨⟨pg_Holds, hd_Holds, po_Holds, sa_Holds⟩, ha_Holds, hn_Holds, ht_Holds, hm_Holds⟩,
    eq_Holds := eq_Holds,
    en_Holds := en_Holds,
    na_Holds_test := na_Holds_test,
    na_Holds_operands := na_Holds_operands,
    m_Holds := ⟨mk_Holds, a_Holds_init, i_Holds_init, kc_Holds⟩,
    cm_Holds_made := ⟨at_Holds_made, ⟨_, rc_Holds_made⟩, fi_Holds_made⟩,
    a_Holds_eq := a_Holds_eq,
    i_Holds_eq := i_Holds_eq,
    cr_Holds := ⟨rd_Holds, gq_Holds⟩,
    n_LETTERS := ⟨_, PySem.W.mg_of X G n_LETTERS⟩,
    n_MOST_SIGNS := ⟨_, PySem.W.mg_of X G n_MOST_SIGNS⟩,
    n_MOST_OPERANDS := ⟨_, PySem.W.mg_of X G n_MOST_OPERANDS⟩,
    n_BEYOND := ⟨_, PySem.W.mg_of X G n_BEYOND⟩,
    b_OverflowError := PySem.W.mg_none_of X G b_OverflowError,
    b_ValueError := PySem.W.mg_none_of X G b_ValueError,
    b_abs := PySem.W.mg_none_of X G b_abs,
    b_all := PySem.W.mg_none_of X G b_all,
    b_bool := PySem.W.mg_none_of X G b_bool,
    b_enumerate := PySem.W.mg_none_of X G b_enumerate,
    b_int := PySem.W.mg_none_of X G b_int,
    b_isinstance := PySem.W.mg_none_of X G b_isinstance,
    b_len := PySem.W.mg_none_of X G b_len,
    b_max := PySem.W.mg_none_of X G b_max,
    b_min := PySem.W.mg_none_of X G b_min,
    b_range := PySem.W.mg_none_of X G b_range,
    b_repr := PySem.W.mg_none_of X G b_repr,
    b_str := PySem.W.mg_none_of X G b_str,
    b_tuple := PySem.W.mg_none_of X G b_tuple }
  exact ⟨_, fun _ _ => .of_eq rfl, fun base _ _ => ok_law T⟩
end Z
open PySem PySem.W PyProof.Rows
set_option maxRecDepth 100000 in
set_option maxHeartbeats 0 in
theorem PySem.Challenge.cw_falsedefaults_k02_plain_steps_refused_holds : PySem.Challenge.rw_falsedefaults_k02_plain_steps_refused.Holds := by
  w_on; o_law; k_head; (case hw => w_witness2)
  k_fill
  refine Z.law_walk (l := PySem.Challenge.rw_falsedefaults_k02_plain_steps_refused) (k := 10) rfl rfl ⟨rfl, by decide, by decide⟩ (fun w h Y => PySem.W.kIn_of Y) ?F
  case F =>
    intro w mg fa h KX G hmg
    refine' Z.all_mk KX G hmg ?a_BadName_init ?t_BadName_init ?l_BadName_init ?cc_BadName_init ?k_BadName_init ?a_BadValue_init ?t_BadValue_init ?l_BadValue_init ?cc_BadValue_init ?k_BadValue_init ?a_TooMany_init ?t_TooMany_init ?l_TooMany_init ?cc_TooMany_init ?k_TooMany_init ?a_is_name ?l_is_name ?cc_is_name ?k_is_name ?a_is_int ?l_is_int ?cc_is_int ?k_is_int ?a_check_name ?l_check_name ?cc_check_name ?k_check_name ?a_check_operand ?l_check_operand ?cc_check_operand ?k_check_operand ?a_check_operands ?l_check_operands ?cc_check_operands ?k_check_operands ?a_Step_parts ?i_Step_parts ?l_Step_parts ?cc_Step_parts ?k_Step_parts ?a_Step_eq ?i_Step_eq ?l_Step_eq ?cc_Step_eq ?k_Step_eq ?a_Read_init ?i_Read_init ?l_Read_init ?kn_Read_init ?kl_Read_init ?cc_Read_init ?k_Read_init ?a_Read_parts ?i_Read_parts ?l_Read_parts ?cc_Read_parts ?k_Read_parts ?a_Let_init ?i_Let_init ?l_Let_init ?cc_Let_init ?k_Let_init ?a_Let_parts ?i_Let_parts ?l_Let_parts ?cc_Let_parts ?k_Let_parts ?a_Work_init ?i_Work_init ?l_Work_init ?cc_Work_init ?k_Work_init ?at_Work_made ?rc_Work_made ?fi_Work_made ?l_Work_made ?cc_Work_made ?k_Work_made ?a_Work_parts ?i_Work_parts ?l_Work_parts ?cc_Work_parts ?k_Work_parts ?a_Put_init ?i_Put_init ?l_Put_init ?cc_Put_init ?k_Put_init ?a_Put_parts ?i_Put_parts ?l_Put_parts ?cc_Put_parts ?k_Put_parts ?a_Keep_init ?i_Keep_init ?l_Keep_init ?cc_Keep_init ?k_Keep_init ?a_Keep_parts ?i_Keep_parts ?l_Keep_parts ?cc_Keep_parts ?k_Keep_parts ?a_Show_init ?i_Show_init ?l_Show_init ?cc_Show_init ?k_Show_init ?a_Show_parts ?i_Show_parts ?l_Show_parts ?cc_Show_parts ?k_Show_parts ?a_Has_init ?i_Has_init ?l_Has_init ?cc_Has_init ?k_Has_init ?a_Has_eq ?i_Has_eq ?l_Has_eq ?cc_Has_eq ?k_Has_eq ?a_Typed_init ?i_Typed_init ?l_Typed_init ?cc_Typed_init ?k_Typed_init ?a_Typed_eq ?i_Typed_eq ?l_Typed_eq ?cc_Typed_eq ?k_Typed_eq ?a_Holds_init ?i_Holds_init ?l_Holds_init ?cc_Holds_init ?k_Holds_init ?at_Holds_made ?rc_Holds_made ?fi_Holds_made ?l_Holds_made ?cc_Holds_made ?k_Holds_made ?a_Holds_eq ?i_Holds_eq ?l_Holds_eq ?cc_Holds_eq ?k_Holds_eq ?a_law_deck ?l_law_deck ?cc_law_deck ?k_law_deck ?a_law_draw ?l_law_draw ?cc_law_draw ?k_law_draw ?a_law_of ?l_law_of ?cc_law_of ?k_law_of ?a_law_number ?l_law_number ?cc_law_number ?k_law_number ?a_law_names ?l_law_names ?cc_law_names ?k_law_names ?a_law_odd_name ?l_law_odd_name ?cc_law_odd_name ?k_law_odd_name ?a_law_odd_operand ?l_law_odd_operand ?cc_law_odd_operand ?k_law_odd_operand ?a_law_operand ?l_law_operand ?cc_law_operand ?k_law_operand ?a_law_made ?l_law_made ?cc_law_made ?k_law_made ?a_law_told ?l_law_told ?cc_law_told ?k_law_told ?a_law_due ?l_law_due ?cc_law_due ?k_law_due ?a_law ?l_law ?cc_law ?k_law ?n_BadName ?x_BadName ?sa_BadName ?ga_BadName ?gg_BadName ?eC_BadName ?tC_BadName ?kC_BadName ?hC_BadName ?iC_BadName ?sC_BadName ?va_BadName ?vn_BadName ?vt_BadName ?vm_BadName ?ks_BadName_ValueError ?ks_BadName_BadValue ?z_BadName_name ?n_BadValue ?x_BadValue ?sa_BadValue ?ga_BadValue ?gg_BadValue ?eC_BadValue ?tC_BadValue ?kC_BadValue ?hC_BadValue ?iC_BadValue ?sC_BadValue ?va_BadValue ?vn_BadValue ?vt_BadValue ?vm_BadValue ?xs_BadValue_BadName ?ks_BadValue_ValueError ?z_BadValue_value ?n_TooMany ?x_TooMany ?sa_TooMany ?ga_TooMany ?gg_TooMany ?eC_TooMany ?tC_TooMany ?kC_TooMany ?hC_TooMany ?iC_TooMany ?sC_TooMany ?va_TooMany ?vn_TooMany ?vt_TooMany ?vm_TooMany ?xs_TooMany_BadName ?xs_TooMany_BadValue ?ks_TooMany_OverflowError ?ks_TooMany_ValueError ?z_TooMany_limit ?n_Step ?pg_Step ?hd_Step ?po_Step ?sa_Step ?ha_Step ?hn_Step ?ht_Step ?hm_Step ?n_Read ?pg_Read ?hd_Read ?po_Read ?sa_Read ?ha_Read ?hn_Read ?ht_Read ?hm_Read ?na_Read_into ?na_Read_target ?na_Read_default ?mk_Read ?kc_Read ?n_Let ?pg_Let ?hd_Let ?po_Let ?sa_Let ?ha_Let ?hn_Let ?ht_Let ?hm_Let ?na_Let_into ?na_Let_value ?mk_Let ?kc_Let ?n_Work ?pg_Work ?hd_Work ?po_Work ?sa_Work ?ha_Work ?hn_Work ?ht_Work ?hm_Work ?eq_Work ?en_Work ?con_Work_WORD ?cog_Work_WORD ?sb_Work_Step ?sc_Work_Step ?st_Work_Step ?na_Work_into ?na_Work_function ?na_Work_operands ?mk_Work ?kc_Work ?rd_Work ?gq_Work ?n_Put ?pg_Put ?hd_Put ?po_Put ?sa_Put ?ha_Put ?hn_Put ?ht_Put ?hm_Put ?na_Put_cell ?na_Put_value ?na_Put_typed ?mk_Put ?kc_Put ?n_Keep ?pg_Keep ?hd_Keep ?po_Keep ?sa_Keep ?ha_Keep ?hn_Keep ?ht_Keep ?hm_Keep ?na_Keep_slot ?na_Keep_value ?na_Keep_late ?mk_Keep ?kc_Keep ?n_Show ?pg_Show ?hd_Show ?po_Show ?sa_Show ?ha_Show ?hn_Show ?ht_Show ?hm_Show ?na_Show_field ?na_Show_value ?na_Show_guess ?mk_Show ?kc_Show ?n_Has ?pg_Has ?hd_Has ?po_Has ?sa_Has ?ha_Has ?hn_Has ?ht_Has ?hm_Has ?na_Has_value ?mk_Has ?kc_Has ?n_Typed ?pg_Typed ?hd_Typed ?po_Typed ?sa_Typed ?ha_Typed ?hn_Typed ?ht_Typed ?hm_Typed ?na_Typed_parameter ?mk_Typed ?kc_Typed ?n_Holds ?pg_Holds ?hd_Holds ?po_Holds ?sa_Holds ?ha_Holds ?hn_Holds ?ht_Holds ?hm_Holds ?eq_Holds ?en_Holds ?na_Holds_test ?na_Holds_operands ?mk_Holds ?kc_Holds ?rd_Holds ?gq_Holds ?n_LETTERS ?n_MOST_SIGNS ?n_MOST_OPERANDS ?n_BEYOND ?b_OverflowError ?b_ValueError ?b_abs ?b_all ?b_bool ?b_enumerate ?b_int ?b_isinstance ?b_len ?b_max ?b_min ?b_range ?b_repr ?b_str ?b_tuple
    (case n_BadName => k_is)
    (case n_BadValue => k_is)
    (case n_TooMany => k_is)
    (case n_Step => k_is)
    (case n_Read => k_is)
    (case n_Let => k_is)
    (case n_Work => k_is)
    (case n_Put => k_is)
    (case n_Keep => k_is)
    (case n_Show => k_is)
    (case n_Has => k_is)
    (case n_Typed => k_is)
    (case n_Holds => k_is)
    (case a_BadName_init => k_is)
    (case t_BadName_init => k_is)
    (case l_BadName_init => k_is)
    (case cc_BadName_init => k_is)
    (case k_BadName_init => k_is)
    (case a_BadValue_init => k_is)
    (case t_BadValue_init => k_is)
    (case l_BadValue_init => k_is)
    (case cc_BadValue_init => k_is)
    (case k_BadValue_init => k_is)
    (case a_TooMany_init => k_is)
    (case t_TooMany_init => k_is)
    (case l_TooMany_init => k_is)
    (case cc_TooMany_init => k_is)
    (case k_TooMany_init => k_is)
    (case a_is_name => k_is)
    (case l_is_name => k_is)
    (case cc_is_name => k_is)
    (case k_is_name => k_is)
    (case a_is_int => k_is)
    (case l_is_int => k_is)
    (case cc_is_int => k_is)
    (case k_is_int => k_is)
    (case a_check_name => k_is)
    (case l_check_name => k_is)
    (case cc_check_name => k_is)
    (case k_check_name => k_is)
    (case a_check_operand => k_is)
    (case l_check_operand => k_is)
    (case cc_check_operand => k_is)
    (case k_check_operand => k_is)
    (case a_check_operands => k_is)
    (case l_check_operands => k_is)
    (case cc_check_operands => k_is)
    (case k_check_operands => k_is)
    (case a_Step_parts => k_is)
    (case i_Step_parts => k_is)
    (case l_Step_parts => k_is)
    (case cc_Step_parts => k_is)
    (case k_Step_parts => k_is)
    (case a_Step_eq => k_is)
    (case i_Step_eq => k_is)
    (case l_Step_eq => k_is)
    (case cc_Step_eq => k_is)
    (case k_Step_eq => k_is)
    (case a_Read_init => k_is)
    (case i_Read_init => k_is)
    (case l_Read_init => k_is)
    (case kn_Read_init => k_is)
    (case kl_Read_init => k_is)
    (case cc_Read_init => k_is)
    (case k_Read_init => k_is)
    (case a_Read_parts => k_is)
    (case i_Read_parts => k_is)
    (case l_Read_parts => k_is)
    (case cc_Read_parts => k_is)
    (case k_Read_parts => k_is)
    (case a_Let_init => k_is)
    (case i_Let_init => k_is)
    (case l_Let_init => k_is)
    (case cc_Let_init => k_is)
    (case k_Let_init => k_is)
    (case a_Let_parts => k_is)
    (case i_Let_parts => k_is)
    (case l_Let_parts => k_is)
    (case cc_Let_parts => k_is)
    (case k_Let_parts => k_is)
    (case a_Work_init => k_is)
    (case i_Work_init => k_is)
    (case l_Work_init => k_is)
    (case cc_Work_init => k_is)
    (case k_Work_init => k_is)
    (case at_Work_made => k_is)
    (case rc_Work_made => k_is)
    (case fi_Work_made => k_is)
    (case l_Work_made => k_is)
    (case cc_Work_made => k_is)
    (case k_Work_made => k_is)
    (case a_Work_parts => k_is)
    (case i_Work_parts => k_is)
    (case l_Work_parts => k_is)
    (case cc_Work_parts => k_is)
    (case k_Work_parts => k_is)
    (case a_Put_init => k_is)
    (case i_Put_init => k_is)
    (case l_Put_init => k_is)
    (case cc_Put_init => k_is)
    (case k_Put_init => k_is)
    (case a_Put_parts => k_is)
    (case i_Put_parts => k_is)
    (case l_Put_parts => k_is)
    (case cc_Put_parts => k_is)
    (case k_Put_parts => k_is)
    (case a_Keep_init => k_is)
    (case i_Keep_init => k_is)
    (case l_Keep_init => k_is)
    (case cc_Keep_init => k_is)
    (case k_Keep_init => k_is)
    (case a_Keep_parts => k_is)
    (case i_Keep_parts => k_is)
    (case l_Keep_parts => k_is)
    (case cc_Keep_parts => k_is)
    (case k_Keep_parts => k_is)
    (case a_Show_init => k_is)
    (case i_Show_init => k_is)
    (case l_Show_init => k_is)
    (case cc_Show_init => k_is)
    (case k_Show_init => k_is)
    (case a_Show_parts => k_is)
    (case i_Show_parts => k_is)
    (case l_Show_parts => k_is)
    (case cc_Show_parts => k_is)
    (case k_Show_parts => k_is)
    (case a_Has_init => k_is)
    (case i_Has_init => k_is)
    (case l_Has_init => k_is)
    (case cc_Has_init => k_is)
    (case k_Has_init => k_is)
    (case a_Has_eq => k_is)
    (case i_Has_eq => k_is)
    (case l_Has_eq => k_is)
    (case cc_Has_eq => k_is)
    (case k_Has_eq => k_is)
    (case a_Typed_init => k_is)
    (case i_Typed_init => k_is)
    (case l_Typed_init => k_is)
    (case cc_Typed_init => k_is)
    (case k_Typed_init => k_is)
    (case a_Typed_eq => k_is)
    (case i_Typed_eq => k_is)
    (case l_Typed_eq => k_is)
    (case cc_Typed_eq => k_is)
    (case k_Typed_eq => k_is)
    (case a_Holds_init => k_is)
    (case i_Holds_init => k_is)
    (case l_Holds_init => k_is)
    (case cc_Holds_init => k_is)
    (case k_Holds_init => k_is)
    (case at_Holds_made => k_is)
    (case rc_Holds_made => k_is)
    (case fi_Holds_made => k_is)
    (case l_Holds_made => k_is)
    (case cc_Holds_made => k_is)
    (case k_Holds_made => k_is)
    (case a_Holds_eq => k_is)
    (case i_Holds_eq => k_is)
    (case l_Holds_eq => k_is)
    (case cc_Holds_eq => k_is)
    (case k_Holds_eq => k_is)
    (case a_law_deck => k_is)
    (case l_law_deck => k_is)
    (case cc_law_deck => k_is)
    (case k_law_deck => k_is)
    (case a_law_draw => k_is)
    (case l_law_draw => k_is)
    (case cc_law_draw => k_is)
    (case k_law_draw => k_is)
    (case a_law_of => k_is)
    (case l_law_of => k_is)
    (case cc_law_of => k_is)
    (case k_law_of => k_is)
    (case a_law_number => k_is)
    (case l_law_number => k_is)
    (case cc_law_number => k_is)
    (case k_law_number => k_is)
    (case a_law_names => k_is)
    (case l_law_names => k_is)
    (case cc_law_names => k_is)
    (case k_law_names => k_is)
    (case a_law_odd_name => k_is)
    (case l_law_odd_name => k_is)
    (case cc_law_odd_name => k_is)
    (case k_law_odd_name => k_is)
    (case a_law_odd_operand => k_is)
    (case l_law_odd_operand => k_is)
    (case cc_law_odd_operand => k_is)
    (case k_law_odd_operand => k_is)
    (case a_law_operand => k_is)
    (case l_law_operand => k_is)
    (case cc_law_operand => k_is)
    (case k_law_operand => k_is)
    (case a_law_made => k_is)
    (case l_law_made => k_is)
    (case cc_law_made => k_is)
    (case k_law_made => k_is)
    (case a_law_told => k_is)
    (case l_law_told => k_is)
    (case cc_law_told => k_is)
    (case k_law_told => k_is)
    (case a_law_due => k_is)
    (case l_law_due => k_is)
    (case cc_law_due => k_is)
    (case k_law_due => k_is)
    (case a_law => k_is)
    (case l_law => k_is)
    (case cc_law => k_is)
    (case k_law => k_is)
    (case x_BadName => k_is)
    (case sa_BadName => k_is)
    (case ga_BadName => k_is)
    (case gg_BadName => k_is)
    (case eC_BadName => k_is)
    (case tC_BadName => k_is)
    (case kC_BadName => k_is)
    (case hC_BadName => k_is)
    (case iC_BadName => k_is)
    (case sC_BadName => first | rfl | k_is)
    (case va_BadName => k_is)
    (case vn_BadName => k_is)
    (case vt_BadName => k_is)
    (case vm_BadName => k_is)
    (case ks_BadName_ValueError => k_is)
    (case ks_BadName_BadValue => k_is)
    (case z_BadName_name => k_is)
    (case x_BadValue => k_is)
    (case sa_BadValue => k_is)
    (case ga_BadValue => k_is)
    (case gg_BadValue => k_is)
    (case eC_BadValue => k_is)
    (case tC_BadValue => k_is)
    (case kC_BadValue => k_is)
    (case hC_BadValue => k_is)
    (case iC_BadValue => k_is)
    (case sC_BadValue => first | rfl | k_is)
    (case va_BadValue => k_is)
    (case vn_BadValue => k_is)
    (case vt_BadValue => k_is)
    (case vm_BadValue => k_is)
    (case xs_BadValue_BadName => k_is)
    (case ks_BadValue_ValueError => k_is)
    (case z_BadValue_value => k_is)
    (case x_TooMany => k_is)
    (case sa_TooMany => k_is)
    (case ga_TooMany => k_is)
    (case gg_TooMany => k_is)
    (case eC_TooMany => k_is)
    (case tC_TooMany => k_is)
    (case kC_TooMany => k_is)
    (case hC_TooMany => k_is)
    (case iC_TooMany => k_is)
    (case sC_TooMany => first | rfl | k_is)
    (case va_TooMany => k_is)
    (case vn_TooMany => k_is)
    (case vt_TooMany => k_is)
    (case vm_TooMany => k_is)
    (case xs_TooMany_BadName => k_is)
    (case xs_TooMany_BadValue => k_is)
    (case ks_TooMany_OverflowError => k_is)
    (case ks_TooMany_ValueError => k_is)
    (case z_TooMany_limit => k_is)
    (case pg_Step => k_is)
    (case hd_Step => k_is)
    (case po_Step => k_is)
    (case sa_Step => k_is)
    (case ha_Step => k_is)
    (case hn_Step => k_is)
    (case ht_Step => k_is)
    (case hm_Step => k_is)
    (case pg_Read => k_is)
    (case hd_Read => k_is)
    (case po_Read => k_is)
    (case sa_Read => k_is)
    (case ha_Read => k_is)
    (case hn_Read => k_is)
    (case ht_Read => k_is)
    (case hm_Read => k_is)
    (case na_Read_into => k_is)
    (case na_Read_target => k_is)
    (case na_Read_default => k_is)
    (case mk_Read => k_is)
    (case kc_Read => k_is)
    (case pg_Let => k_is)
    (case hd_Let => k_is)
    (case po_Let => k_is)
    (case sa_Let => k_is)
    (case ha_Let => k_is)
    (case hn_Let => k_is)
    (case ht_Let => k_is)
    (case hm_Let => k_is)
    (case na_Let_into => k_is)
    (case na_Let_value => k_is)
    (case mk_Let => k_is)
    (case kc_Let => k_is)
    (case pg_Work => k_is)
    (case hd_Work => k_is)
    (case po_Work => k_is)
    (case sa_Work => k_is)
    (case ha_Work => k_is)
    (case hn_Work => k_is)
    (case ht_Work => k_is)
    (case hm_Work => k_is)
    (case eq_Work => k_is)
    (case en_Work => k_is)
    (case con_Work_WORD => k_is)
    (case cog_Work_WORD => k_is)
    (case sb_Work_Step => k_is)
    (case sc_Work_Step => k_is)
    (case st_Work_Step => k_is)
    (case na_Work_into => k_is)
    (case na_Work_function => k_is)
    (case na_Work_operands => k_is)
    (case mk_Work => k_is)
    (case kc_Work => k_is)
    (case rd_Work => k_is)
    (case gq_Work => k_is)
    (case pg_Put => k_is)
    (case hd_Put => k_is)
    (case po_Put => k_is)
    (case sa_Put => k_is)
    (case ha_Put => k_is)
    (case hn_Put => k_is)
    (case ht_Put => k_is)
    (case hm_Put => k_is)
    (case na_Put_cell => k_is)
    (case na_Put_value => k_is)
    (case na_Put_typed => k_is)
    (case mk_Put => k_is)
    (case kc_Put => k_is)
    (case pg_Keep => k_is)
    (case hd_Keep => k_is)
    (case po_Keep => k_is)
    (case sa_Keep => k_is)
    (case ha_Keep => k_is)
    (case hn_Keep => k_is)
    (case ht_Keep => k_is)
    (case hm_Keep => k_is)
    (case na_Keep_slot => k_is)
    (case na_Keep_value => k_is)
    (case na_Keep_late => k_is)
    (case mk_Keep => k_is)
    (case kc_Keep => k_is)
    (case pg_Show => k_is)
    (case hd_Show => k_is)
    (case po_Show => k_is)
    (case sa_Show => k_is)
    (case ha_Show => k_is)
    (case hn_Show => k_is)
    (case ht_Show => k_is)
    (case hm_Show => k_is)
    (case na_Show_field => k_is)
    (case na_Show_value => k_is)
    (case na_Show_guess => k_is)
    (case mk_Show => k_is)
    (case kc_Show => k_is)
    (case pg_Has => k_is)
    (case hd_Has => k_is)
    (case po_Has => k_is)
    (case sa_Has => k_is)
    (case ha_Has => k_is)
    (case hn_Has => k_is)
    (case ht_Has => k_is)
    (case hm_Has => k_is)
    (case na_Has_value => k_is)
    (case mk_Has => k_is)
    (case kc_Has => k_is)
    (case pg_Typed => k_is)
    (case hd_Typed => k_is)
    (case po_Typed => k_is)
    (case sa_Typed => k_is)
    (case ha_Typed => k_is)
    (case hn_Typed => k_is)
    (case ht_Typed => k_is)
    (case hm_Typed => k_is)
    (case na_Typed_parameter => k_is)
    (case mk_Typed => k_is)
    (case kc_Typed => k_is)
    (case pg_Holds => k_is)
    (case hd_Holds => k_is)
    (case po_Holds => k_is)
    (case sa_Holds => k_is)
    (case ha_Holds => k_is)
    (case hn_Holds => k_is)
    (case ht_Holds => k_is)
    (case hm_Holds => k_is)
    (case eq_Holds => k_is)
    (case en_Holds => k_is)
    (case na_Holds_test => k_is)
    (case na_Holds_operands => k_is)
    (case mk_Holds => k_is)
    (case kc_Holds => k_is)
    (case rd_Holds => k_is)
    (case gq_Holds => k_is)
    (case n_LETTERS => k_is)
    (case n_MOST_SIGNS => k_is)
    (case n_MOST_OPERANDS => k_is)
    (case n_BEYOND => k_is)
    (case b_OverflowError => k_is)
    (case b_ValueError => k_is)
    (case b_abs => k_is)
    (case b_all => k_is)
    (case b_bool => k_is)
    (case b_enumerate => k_is)
    (case b_int => k_is)
    (case b_isinstance => k_is)
    (case b_len => k_is)
    (case b_max => k_is)
    (case b_min => k_is)
    (case b_range => k_is)
    (case b_repr => k_is)
    (case b_str => k_is)
    (case b_tuple => k_is)
