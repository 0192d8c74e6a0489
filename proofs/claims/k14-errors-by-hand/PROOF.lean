import PyProof.Rows.All
import Wide.All
import OpenK.AllK
import Wide.FinOn
import HandS.ForMost
import HandS.ForExc
import HandS.IsInst
import HandS.ExcInit
import HandS.ExcField
import HandS.Wide
import HandS.Flow
import HandS.Style
import HandS.More
import HandS.Star
import HandS.ClsMeth
import HandS.OwnEq
import HandS.FStr
import HandS.SetKeys
import HandS.SetBool
import HandS.Conv
import HandS.DictComp
import HandS.Walk
import HandS.Ends
import KE.GoesMore
import KE.GoesEnum
import HandS.Zip
import HandS.CallLocal
import HandS.Small
import HandS.Text
import HandS.Codes
import HandS.ExcValue
import KE.KExcIs
import HandS.Deep
import PyProof.FactsAll.dict_1
import PyProof.ReprRoads
import HandS.Defaults
import HandS.MakeKwOnly
import PySem.Challenge.RW_falsedefaults_k14_errors_by_hand
set_option Elab.async false
set_option linter.all false
set_option maxRecDepth 100000
set_option maxHeartbeats 4000000
set_option maxHeartbeats 1000000
set_option maxHeartbeats 2000000
namespace Z
open PySem PySem.Spec PyProof.Rows L2
abbrev St := L2.St

/-! ### operators, whatever the kinds -/
def zAdd : R2 := fun x y H Q => match x, y with
  | .int i, .int j => Q (.int (i + j)) H
  | .str i, .str j => i.length + j.length ≤ sizeLine ∧ Q (.str (i ++ j)) H
  | .ref l, .ref b => ∃ xs zs, H l = some (.lst xs) ∧ H b = some (.lst zs) ∧ xs.length + zs.length ≤ sizeLine ∧ ∀ p, H p = none → Q (.ref p) (upd H p (.lst (xs ++ zs)))
  | _, _ => False
def zSub : R2 := fun x y H Q => match x, y with
  | .int i, .int j => Q (.int (i - j)) H
  | _, _ => False
def zMul : R2 := fun x y H Q => match x, y with
  | .int i, .int j => CMul i j ∧ Q (.int (i * j)) H
  | .str x, .int n => MulOk x n ∧ Q (.str (Txt.mul x n)) H
  | .ref l, .int k => ∃ xs, H l = some (.lst xs) ∧ -(2 ^ 63) ≤ k ∧ k < 2 ^ 63 ∧ xs.length * k.toNat ≤ sizeLine ∧ ∀ p, H p = none → Q (.ref p) (upd H p (.lst (List.replicate k.toNat xs).flatten))
  | _, _ => False
def zMod : R2 := fun x y H Q => match x, y with
  | .int i, .int j => 0 < j ∧ Q (.int (i % j)) H
  | _, _ => False
def zFdiv : R2 := fun x y H Q => match x, y with
  | .int i, .int j => CDivW i j ∧ Q (.int (i / j)) H
  | _, _ => False
def zPow : R2 := fun x y H Q => match x, y with
  | .int i, .int j => CPow i j ∧ Q (.int (i ^ j.toNat)) H
  | _, _ => False
def zLt : R2 := fun x y H Q => match x, y with
  | .int i, .int j => Q (.bl (decide (i < j))) H
  | _, _ => False
def zLe : R2 := fun x y H Q => match x, y with
  | .int i, .int j => Q (.bl (decide (i ≤ j))) H
  | _, _ => False
def zGt : R2 := fun x y H Q => match x, y with
  | .int i, .int j => Q (.bl (decide (j < i))) H
  | _, _ => False
def zGe : R2 := fun x y H Q => match x, y with
  | .int i, .int j => Q (.bl (decide (j ≤ i))) H
  | _, _ => False
def zIs : R2 := fun x y H Q => y = .non ∧ Q (.bl (decide (x = .non))) H
def zIsnt : R2 := fun x y H Q => y = .non ∧ Q (.bl (!decide (x = .non))) H
/-- == of scalars of any kinds; else of data -/
def zEq (K : PySem.W.Frag) : R2 := fun x y H Q => (scal x y = true ∧ Q (.bl (decide (x = y))) H) ∨ rEqD K x y H Q
def zNe (K : PySem.W.Frag) : R2 := fun x y H Q => (scal x y = true ∧ Q (.bl (!decide (x = y))) H) ∨ rNeD K x y H Q
/-- in: one sign in a text; a flat thing in a list or a tuple -/
def zIn (K : PySem.W.Frag) : R2 := fun x y H Q => (∃ (c : Nat) (z : Str), x = .str ⟨#[c]⟩ ∧ y = .str z ∧ Q (.bl (decide (c ∈ z.cps.toList))) H) ∨ rIn K false x y H Q
def zNin (K : PySem.W.Frag) : R2 := fun x y H Q => (∃ (c : Nat) (z : Str), x = .str ⟨#[c]⟩ ∧ y = .str z ∧ Q (.bl (!decide (c ∈ z.cps.toList))) H) ∨ rIn K true x y H Q
def zIx (K : PySem.W.Frag) : R2 := fun x y H Q => match x, y with
  | .ref p, .int i => ∃ xs v, (SqL K H p xs ∨ SqT K H p xs) ∧ atI xs i = some v ∧ Q v H
  | .str z, .int i => z.length ≤ sizeLine ∧ ∃ c, atI z.cps.toList i = some c ∧ Q (.str ⟨#[c]⟩) H
  | _, _ => False
section
variable {X : Cx}
theorem op_zAdd : OpR X (binaryOp .Add) zAdd := by
  intro pins s σ H x y v u Q I rx ry h
  unfold zAdd at h
  split at h
  · exact op_add pins s σ H _ _ v u Q I rx ry ⟨_, _, rfl, rfl, h⟩
  · exact op_add_str pins s σ H _ _ v u Q I rx ry ⟨_, _, rfl, rfl, h⟩
  · obtain ⟨xs, zs, h1, h2, h3, h4⟩ := h
    exact op_cat pins s σ H _ _ v u Q I rx ry ⟨_, _, _, _, rfl, rfl, h1, h2, h3, h4⟩
  · exact h.elim
theorem op_zSub : OpR X (binaryOp .Sub) zSub := by
  intro pins s σ H x y v u Q I rx ry h
  unfold zSub at h
  split at h
  · exact op_sub pins s σ H _ _ v u Q I rx ry ⟨_, _, rfl, rfl, h⟩
  · exact h.elim
theorem op_zMul : OpR X (binaryOp .Mult) zMul := by
  intro pins s σ H x y v u Q I rx ry h
  unfold zMul at h
  split at h
  · exact op_mul pins s σ H _ _ v u Q I rx ry ⟨_, _, rfl, rfl, h.1, h.2⟩
  · obtain ⟨t, rfl⟩ := rx
    obtain ⟨t', rfl⟩ := ry
    exact SB.mul h.1 fun t2 k => ⟨.str _, H, I.tok _, ⟨_, rfl⟩, h.2⟩
  · obtain ⟨xs, h1, h2, h3, h4, h5⟩ := h
    exact op_rep pins s σ H _ _ v u Q I rx ry ⟨_, _, _, rfl, rfl, h1, h2, h3, h4, h5⟩
  · exact h.elim
theorem op_zMod : OpR X (binaryOp .Mod) zMod := by
  intro pins s σ H x y v u Q I rx ry h
  unfold zMod at h
  split at h
  · exact op_mod pins s σ H _ _ v u Q I rx ry ⟨_, _, rfl, rfl, h.1, h.2⟩
  · exact h.elim
theorem op_zFdiv : OpR X (binaryOp .FloorDiv) zFdiv := by
  intro pins s σ H x y v u Q I rx ry h
  unfold zFdiv at h
  split at h
  · exact op_fdivW pins s σ H _ _ v u Q I rx ry ⟨_, _, rfl, rfl, h.1, h.2⟩
  · exact h.elim
theorem op_zPow : OpR X (binaryOp .Pow) zPow := by
  intro pins s σ H x y v u Q I rx ry h
  unfold zPow at h
  split at h
  · exact op_pow pins s σ H _ _ v u Q I rx ry ⟨_, _, rfl, rfl, h.1, h.2⟩
  · exact h.elim
theorem op_zLt : OpR X (compareOp .Lt) zLt := by
  intro pins s σ H x y v u Q I rx ry h
  unfold zLt at h
  split at h
  · exact op_lt pins s σ H _ _ v u Q I rx ry ⟨_, _, rfl, rfl, h⟩
  · exact h.elim
theorem op_zLe : OpR X (compareOp .LtE) zLe := by
  intro pins s σ H x y v u Q I rx ry h
  unfold zLe at h
  split at h
  · exact op_le pins s σ H _ _ v u Q I rx ry ⟨_, _, rfl, rfl, h⟩
  · exact h.elim
theorem op_zGt : OpR X (compareOp .Gt) zGt := by
  intro pins s σ H x y v u Q I rx ry h
  unfold zGt at h
  split at h
  · exact op_gt pins s σ H _ _ v u Q I rx ry ⟨_, _, rfl, rfl, h⟩
  · exact h.elim
theorem op_zGe : OpR X (compareOp .GtE) zGe := by
  intro pins s σ H x y v u Q I rx ry h
  unfold zGe at h
  split at h
  · exact op_ge pins s σ H _ _ v u Q I rx ry ⟨_, _, rfl, rfl, h⟩
  · exact h.elim
theorem op_zIs : OpR X (compareOp .Is) zIs := op_isN
theorem op_zIsnt : OpR X (compareOp .IsNot) zIsnt := op_notN
theorem op_zEq (hu : X.A.units + 64 < cLine) : OpR X (compareOp .Eq) (zEq X.K) := OpR.or op_eq (op_eqD hu)
theorem op_zNe (hu : X.A.units + 64 < cLine) : OpR X (compareOp .NotEq) (zNe X.K) := OpR.or op_ne (op_neD hu)
theorem op_zIn : OpR X (compareOp .In) (zIn X.K) := OpR.or op_in_sign op_in_seq
theorem op_zNin : OpR X (compareOp .NotIn) (zNin X.K) := OpR.or op_notIn_sign op_notIn_seq
theorem ix_z : IxR X (zIx X.K) := by
  intro e1 e2 pins s σ H x y v u Q I rx ry h hs
  unfold zIx at h
  split at h
  · obtain ⟨xs, w, hq, ha, q⟩ := h
    rcases hq with hq | hq
    · exact ix_seq e1 e2 pins s σ H _ _ v u Q I rx ry (.inl ⟨_, _, _, _, rfl, rfl, hq, ha, q⟩) hs
    · exact ix_seq e1 e2 pins s σ H _ _ v u Q I rx ry (.inr (.inl ⟨_, _, _, _, rfl, rfl, hq, ha, q⟩)) hs
  · obtain ⟨hz, c, ha, q⟩ := h
    exact ix_seq e1 e2 pins s σ H _ _ v u Q I rx ry (.inr (.inr ⟨_, _, _, rfl, rfl, hz, ha, q⟩)) hs
  · exact h.elim
end
end Z
namespace Z
open PySem PySem.Spec PyProof.Rows L2

/-! ### a def's promise where no repr is running around it; anything may be raised -/
structure FnG (gd : Bool) (P : Program) (w : World) (K : PySem.W.Frag) (mg : Str → Option Value) (base : Heap)
    (k : Nat) (f : Addr) (fd : FuncData) (ps : List Str) (sp : Sp) : Prop where
  len : ∀ vs H Q E, sp vs H Q E → vs.length = ps.length
  run : ∀ (A : Around) (outer : List Env) (s : Shared) (H : Hp) (args : Args) (us : List Value)
    (vs : List V) (Q : VK) (E : XK), Room k A → (gd = true → A.guards = some []) →
    Env0 P w K mg base A outer s H → BindsTo s fd args (ps.zip us) → Vals vs us → sp vs H Q E →
    codeAny (model P w) A (.call (.ref f) args) (CR (L2.CX P w) outer P w H s Q E) s
abbrev FnZ := FnG true
section
variable {gd : Bool} {P : Program} {w : World} {K : PySem.W.Frag} {mg : Str → Option Value} {base : Heap} {f : Addr} {fd : FuncData} {ps : List Str} {sp sp' : Sp}
theorem FnG.mono {j k : Nat} (F : FnG gd P w K mg base j f fd ps sp) (h : j ≤ k) : FnG gd P w K mg base k f fd ps sp :=
  ⟨F.len, fun A outer s H args us vs Q E hr => F.run A outer s H args us vs Q E (hr.mono h)⟩
theorem FnG.imp {k : Nat} (F : FnG gd P w K mg base k f fd ps sp) (h : ∀ vs H Q E, sp' vs H Q E → sp vs H Q E) : FnG gd P w K mg base k f fd ps sp' :=
  ⟨fun vs H Q E q => F.len vs H Q E (h _ _ _ _ q), fun A outer s H args us vs Q E hr hg he hb hv hs =>
    F.run A outer s H args us vs Q E hr hg he hb hv (h _ _ _ _ hs)⟩
/-- without a word on guards it is a promise for any of the hand layer's rules -/
theorem FnG.raw {k : Nat} (F : FnG false P w K mg base k f fd ps sp) (hb : Binds K fd ps []) : FnR P w K mg base (L2.CX P w) k f sp := by
  intro A outer s H us vs Q E hr e0 r h
  have KX : K.In s.heap := e0.mod.kin.keeps fun b o z => (e0.bs b o z).1
  have hl : us.length = ps.length := r.length.symm.trans (F.len _ _ _ _ h)
  have b := hb s us KX (by rw [List.append_nil]; exact hl)
  rw [List.append_nil] at b
  exact F.run A outer s H ⟨us, []⟩ us vs Q E hr (fun z => nomatch z) e0 b r h
/-- and one that holds even so -/
theorem FnG.up {k : Nat} (F : FnG false P w K mg base k f fd ps sp) : FnG gd P w K mg base k f fd ps sp := ⟨F.len, fun A outer s H args us vs Q E hr _ => F.run A outer s H args us vs Q E hr fun z => nomatch z⟩
end
theorem guards_make {A : Around} {C : Addr} {us : List Value} {kw : List (Str × Value)} (h : A.guards = some []) :
    (A.under (.builtin "type.__call__" ⟨.ref C :: us, kw⟩)).guards = some [] := by
  simp [Around.under, Code.guards, Code.isGuard, guardIds, pushGuards, h]

section
variable {gd : Bool} {P : Program} {w : World} {K : PySem.W.Frag} {mg : Str → Option Value} {base : Heap}
/-- a def by its body -/
theorem okZ {x qual : Str} {st : Stmt} {f : Addr} {fd : FuncData} {N ps : List Str} {k : Nat} {sp : Sp} (F : Fun K x qual st f fd)
    (S : FnScope N ps (defScope st)) (len : ∀ vs H Q E, sp vs H Q E → vs.length = ps.length)
    (hbody : ∀ (cdv : Value) (A : Around) (outer : List Env) (s : Shared) (H : Hp) (vs : List V) (Q : VK) (E : XK),
      Room k (A.deeper (envOfC qual (defScope st) s.heap.objs.size f cdv)) →
      (gd = true → (A.deeper (envOfC qual (defScope st) s.heap.objs.size f cdv)).guards = some []) → sp vs H Q E →
      ∃ t, PSs (cxOf (L2.CX P w) P w K mg base N qual (defScope st) f cdv A outer s H E) (defBody st) t ∧
        t { nx := fun _ H' => Q .non H', rt := Q } (start N vs) H) :
    FnG gd P w K mg base (k + 1) f fd ps sp := by
  obtain ⟨oc, od, kV, doc, pm, an, cdv, ct, osl, rfl, lk, hcd⟩ := F.ex
  refine ⟨len, fun A outer s H args us vs Q E hr hgu e0 hb r hsp => ?_⟩
  have hl := len _ _ _ _ hsp
  have KX : K.In s.heap := e0.mod.kin.keeps fun b o z => (e0.bs b o z).1
  have lim : s.heap.NoLimit := e0.mod.nolimit.keeps fun b o z => (e0.bs b o z).1
  have hkind : ∀ y ∈ ps.zip us, (defScope st).names.lookup y.1 = some .local ∨
      ((defScope st).names.lookup y.1 = some .cell ∧ ((cellsFrom (s.heap.objs.size + 1) (defScope st).names []).lookup y.1).isSome = true) := by
    intro y hy
    obtain ⟨n, v⟩ := y
    rcases S.par n (List.of_mem_zip hy).1 with q | q
    · exact .inl q
    · exact .inr ⟨q, PySem.W.cellsFrom_some _ _ _ (.inl q)⟩
  refine codeAny_call_function hr.depth (KX _ _ lk) rfl S.co S.gen rfl (PySem.W.codeRec_of KX hcd) (hb _ _ _ _ ?_)
  refine wpAny_newFunctionEnv_cells S.kind hkind fun env he s1 x => ?_
  subst he
  refine ⟨lim.keeps x.toInCall.keep, codeAny_func ?_⟩
  obtain ⟨t, ht, hq⟩ := hbody cdv A outer s H vs Q E (hr.deeper _) hgu hsp
  have I := inv_start (CX := L2.CX P w) (E := E) S hr.hd e0 hl r x
  refine wpAny_mono (ht.run [] s1 (start N vs) H _ I hq) (fun fl s' hs => ?_) fun e s' hs => hs
  cases fl with
  | ret u =>
    obtain ⟨v, σ', H', J, rv, q⟩ := hs
    exact ⟨v, H', J.os, J.bare, J.base, J.hok, rv, q⟩
  | next =>
    obtain ⟨σ', H', J, q⟩ := hs
    exact ⟨V.non, H', J.os, J.bare, J.base, J.hok, rfl, q⟩
  | brk => exact False.elim hs.choose_spec.choose_spec.2
  | cont => exact False.elim hs.choose_spec.choose_spec.2
end

/-! ### calls of such defs -/
theorem passE0 {X : Cx} (σ : St) : PassesAt (L2.CX X.prog X.w) X σ E0 := fun pins H s e s' I h => passL pins σ H s e s' I h
def zCall (sp : Sp) (dvs : List V) (E : St → XK) (t : TA) : TE := fun σ H Q => t σ H fun vs H1 => sp (vs ++ dvs) H1 Q (E σ)
def zMeth (C : Addr) (m : Str) (sp : Sp) (dvs : List V) (E : St → XK) (ta : TE) (t : TA) : TE := fun σ H Q =>
  ta σ H fun x H1 => ∃ a dx fs, x = .ref a ∧ H1 a = some (.ins C dx fs) ∧ fs.lookup m = none ∧
    t σ H1 fun vs H2 => sp (x :: (vs ++ dvs)) H2 Q (E σ)
def zMake (C : Addr) (sp : Sp) (dvs : List V) (E : St → XK) (t : TA) : TE := fun σ H Q =>
  t σ H fun vs H1 => ∀ x dx, H1 x = none → H1 dx = none → dx ≠ x →
    sp (.ref x :: (vs ++ dvs)) (upd (upd H1 dx (.own x)) x (.ins C dx [])) (fun v H2 => v = .non ∧ Q (.ref x) H2) (E σ)
section
variable {gd : Bool} {X : Cx} {k : Nat} {f C : Addr} {fd : FuncData} {ps : List Str} {sp : Sp} {dvs : List V} {ds : List Value} {E : St → XK} {x m : Str}
  {p pos apos : Pos} {e o : Expr} {es : List Expr} {ta : TE} {t : TA}
theorem run_fnZ {pins : List (Addr × Obj)} {σ : St} {H : Hp} {s : Shared} {Q : VK} {us : List Value} {vs : List V}
    (F : FnG gd X.prog X.w X.K X.mg X.base k f fd ps sp) (hr : Room k X.A) (hgu : gd = true → X.A.guards = some []) (hb : Binds X.K fd ps ds) (hd : Vals dvs ds)
    (hx : PassesAt (L2.CX X.prog X.w) X σ (E σ)) (I : Inv X pins σ H s) (r : Vals vs us) (h : sp (vs ++ dvs) H Q (E σ)) :
    wpAny (model X.prog X.w) X.A (call (.ref f) us) (EP X pins σ Q) X.xe s := by
  have r2 : Vals (vs ++ dvs) (us ++ ds) := r.append hd
  have hl : (us ++ ds).length = ps.length := r2.length.symm.trans (F.len _ _ _ _ h)
  refine wpAny_call (codeAny_mono (F.run X.A X.stack s H ⟨us, []⟩ (us ++ ds) (vs ++ dvs) Q (E σ) hr hgu I.env0 (hb s us I.kIn hl) r2 h) fun r s' hq => ?_)
  rcases r with er | fl
  · exact hx pins H s er s' I hq
  · cases fl with
    | ret u => exact I.after hq
    | next => exact hq.elim
    | brk => exact hq.elim
    | cont => exact hq.elim
/-- f(e, ..) -/
theorem pe_callZ (F : FnG gd X.prog X.w X.K X.mg X.base k f fd ps sp) (hr : Room k X.A) (hgu : gd = true → X.A.guards = some []) (hg : Gl X x) (hm : X.mg x = some (.ref f))
    (hk : PySem.W.keepIn X.K (.ref f) = true) (hb : Binds X.K fd ps ds) (hd : Vals dvs ds) (hx : ∀ σ, PassesAt (L2.CX X.prog X.w) X σ (E σ))
    (ha : PA X (e :: es) t) (hdb : (x == ("__debug__" : Str)) = false := by decide)
    (he : starEach (e :: es) X.env = (false, eval e X.env) :: starEach es X.env := by rfl) (hpl : (backTo pos (starEach es X.env)).any (·.1) = false := by rfl) :
    PE X (.Call (.Name x p) (e :: es) [] pos) (zCall sp dvs E t) := by
  constructor
  intro pins s σ H Q I h
  refine wpAny_Call_Name_kw (ld_glob I hg hm ?_ hdb)
  refine PySem.W.callWith_K (h₀ := X.base) I.ok.mod.kin hk (thn (ha.run pos pins s σ H _ I h) ?_) he hpl
  rintro us s1 ⟨vs, H1, I1, r, q⟩
  exact ⟨I1.kIn, run_fnZ F hr hgu hb hd (hx σ) I1 r q⟩
theorem pe_callZ0 (F : FnG gd X.prog X.w X.K X.mg X.base k f fd ps sp) (hr : Room k X.A) (hgu : gd = true → X.A.guards = some []) (hg : Gl X x) (hm : X.mg x = some (.ref f))
    (hk : PySem.W.keepIn X.K (.ref f) = true) (hb : Binds X.K fd ps ds) (hd : Vals dvs ds) (hx : ∀ σ, PassesAt (L2.CX X.prog X.w) X σ (E σ))
    (hdb : (x == ("__debug__" : Str)) = false := by decide) : PE X (.Call (.Name x p) [] [] pos) (zCall sp dvs E tNil) := by
  constructor
  intro pins s σ H Q I h
  refine wpAny_Call_Name_kw (ld_glob I hg hm ?_ hdb)
  exact PySem.W.callWith_K0 I.kIn hk (run_fnZ (us := []) F hr hgu hb hd (hx σ) I .nil h)
theorem run_makeZ {pins : List (Addr × Obj)} {σ : St} {H : Hp} {s : Shared} {Q : VK} {us : List Value} {vs : List V} (M : Mk X.K C f)
    (F : FnG gd X.prog X.w X.K X.mg X.base k f fd ps sp) (hr : Room (k + 1) X.A) (hgu : gd = true → X.A.guards = some []) (hb : Binds X.K fd ps ds) (hd : Vals dvs ds)
    (hx : PassesAt (L2.CX X.prog X.w) X σ (E σ)) (I : Inv X pins σ H s) (r : Vals vs us)
    (h : ∀ x dx, H x = none → H dx = none → dx ≠ x → sp (.ref x :: (vs ++ dvs)) (upd (upd H dx (.own x)) x (.ins C dx [])) (fun v H2 => v = .non ∧ Q (.ref x) H2) (E σ)) :
    wpAny (model X.prog X.w) X.A (call (.ref C) us) (EP X pins σ Q) X.xe s := by
  have n0 := I.hok.fresh (Nat.le_refl s.heap.objs.size)
  have n1 := I.hok.fresh (Nat.le_succ s.heap.objs.size)
  have hq := h _ _ n1 n0 (Nat.ne_of_lt (Nat.lt_succ_self _))
  have I2 := Inv.made (C := C) I
  have r2 : Vals (V.ref (s.heap.objs.size + 1) :: (vs ++ dvs)) (Value.ref (s.heap.objs.size + 1) :: (us ++ ds)) := .cons rfl (r.append hd)
  have hl : (Value.ref (s.heap.objs.size + 1) :: us ++ ds).length = ps.length := (r2.length.symm.trans (F.len _ _ _ _ hq))
  refine wpAny_call (make_map (f := f) I.kIn M.makes M.init (beq_iff_eq.mp M.fn) (codeAny_mono (F.run _ X.stack _ _ ⟨Value.ref (s.heap.objs.size + 1) :: us, []⟩ _ _ _ (E σ) (hr.make C us [])
    (fun z => guards_make (hgu z)) (I2.env0.make C us []) (hb _ (Value.ref (s.heap.objs.size + 1) :: us) I2.kIn hl) r2 hq) fun r s' hq' => ?_))
  rcases r with er | fl
  · exact hx pins _ _ er s' I2 hq'
  · cases fl with
    | ret u =>
      obtain ⟨v, H', I3, rv, ev, q3⟩ := I2.after hq'
      subst ev
      exact ⟨rv, ⟨V.ref (s.heap.objs.size + 1), H', I3, rfl, q3⟩⟩
    | next => exact hq'.elim
    | brk => exact hq'.elim
    | cont => exact hq'.elim
/-- C(e, ..) -/
theorem pe_makeZ (M : Mk X.K C f) (F : FnG gd X.prog X.w X.K X.mg X.base k f fd ps sp) (hr : Room (k + 1) X.A) (hgu : gd = true → X.A.guards = some []) (hg : Gl X x)
    (hm : X.mg x = some (.ref C)) (hb : Binds X.K fd ps ds) (hd : Vals dvs ds) (hx : ∀ σ, PassesAt (L2.CX X.prog X.w) X σ (E σ)) (ha : PA X (e :: es) t)
    (hdb : (x == ("__debug__" : Str)) = false := by decide)
    (he : starEach (e :: es) X.env = (false, eval e X.env) :: starEach es X.env := by rfl) (hpl : (backTo pos (starEach es X.env)).any (·.1) = false := by rfl) :
    PE X (.Call (.Name x p) (e :: es) [] pos) (zMake C sp dvs E t) := by
  constructor
  intro pins s σ H Q I h
  refine wpAny_Call_Name_kw (ld_glob I hg hm ?_ hdb)
  refine PySem.W.callWith_K (h₀ := X.base) I.ok.mod.kin M.kp (thn (ha.run pos pins s σ H _ I h) ?_) he hpl
  rintro us s1 ⟨vs, H1, I1, r, q⟩
  exact ⟨I1.kIn, run_makeZ M F hr hgu hb hd (hx σ) I1 r q⟩
theorem pe_makeZ0 (M : Mk X.K C f) (F : FnG gd X.prog X.w X.K X.mg X.base k f fd ps sp) (hr : Room (k + 1) X.A) (hgu : gd = true → X.A.guards = some []) (hg : Gl X x)
    (hm : X.mg x = some (.ref C)) (hb : Binds X.K fd ps ds) (hd : Vals dvs ds) (hx : ∀ σ, PassesAt (L2.CX X.prog X.w) X σ (E σ))
    (hdb : (x == ("__debug__" : Str)) = false := by decide) :
    PE X (.Call (.Name x p) [] [] pos) (zMake C sp dvs E tNil) := by
  constructor
  intro pins s σ H Q I h
  refine wpAny_Call_Name_kw (ld_glob I hg hm ?_ hdb)
  exact PySem.W.callWith_K0 I.kIn M.kp (run_makeZ (us := []) M F hr hgu hb hd (hx σ) I .nil h)
/-- o.m(e, ..) -/
theorem pe_methZ {pl : Sem Bool} (he : PE X o ta) (c : Cls X.K C) (hm : Meth X.K C m f) (F : FnG gd X.prog X.w X.K X.mg X.base k f fd ps sp)
    (hr : Room k X.A) (hgu : gd = true → X.A.guards = some []) (hb : Binds X.K fd ps ds) (hd : Vals dvs ds) (hx : ∀ σ, PassesAt (L2.CX X.prog X.w) X σ (E σ)) (ha : PA X (e :: es) t)
    (hst : starEach (e :: es) X.env = (false, eval e X.env) :: starEach es X.env := by rfl) (hpl : (backTo pos (starEach es X.env)).any (·.1) = false := by rfl)
    (ht : eval (.Call (.Attribute o m apos) (e :: es) [] pos) X.env = (do
      let ow ← eval o X.env
      standAt apos.atName
      let (g, first) ← holding [ow] (getMethod ow m pl)
      callWith pos g first (backTo pos (starEach (e :: es) X.env)) (backToKw pos (keywordEach [] X.env))) := by rfl) :
    PE X (.Call (.Attribute o m apos) (e :: es) [] pos) (zMeth C m sp dvs E ta t) := by
  constructor
  intro pins s σ H Q I h
  refine PySem.W.methodCall_KW (pl := pl) (thn (he.run pins s σ H _ I h) ?_) ht
  rintro u s1 ⟨x, H1, I1, rx, a, dx, fs, rfl, ea, l, q⟩
  obtain rfl : u = Value.ref a := rx
  refine getmeth_ok I1 ea c hm l ?_
  refine PySem.W.callWith_K (first := [.ref a]) (h₀ := X.base) I.ok.mod.kin hm.kp (thn (ha.run pos pins s1 σ H1 _ I1 q) ?_) hst hpl
  rintro us s2 ⟨vs, H2, I2, r, q2⟩
  exact ⟨I2.kIn, run_fnZ (us := .ref a :: us) (vs := .ref a :: vs) F hr hgu hb hd (hx σ) I2 (.cons rfl r) q2⟩
theorem pe_methZ0 {pl : Sem Bool} (he : PE X o ta) (c : Cls X.K C) (hm : Meth X.K C m f) (F : FnG gd X.prog X.w X.K X.mg X.base k f fd ps sp)
    (hr : Room k X.A) (hgu : gd = true → X.A.guards = some []) (hb : Binds X.K fd ps ds) (hd : Vals dvs ds) (hx : ∀ σ, PassesAt (L2.CX X.prog X.w) X σ (E σ))
    (ht : eval (.Call (.Attribute o m apos) [] [] pos) X.env = (do
      let ow ← eval o X.env
      standAt apos.atName
      let (g, first) ← holding [ow] (getMethod ow m pl)
      callWith pos g first (backTo pos (starEach [] X.env)) (backToKw pos (keywordEach [] X.env))) := by rfl) :
    PE X (.Call (.Attribute o m apos) [] [] pos) (zMeth C m sp dvs E ta tNil) := by
  constructor
  intro pins s σ H Q I h
  refine PySem.W.methodCall_KW (pl := pl) (thn (he.run pins s σ H _ I h) ?_) ht
  rintro u s1 ⟨x, H1, I1, rx, a, dx, fs, rfl, ea, l, q⟩
  obtain rfl : u = Value.ref a := rx
  refine getmeth_ok I1 ea c hm l ?_
  exact PySem.W.callWith_K0 (first := [.ref a]) I1.kIn hm.kp (run_fnZ (us := [.ref a]) (vs := [.ref a]) F hr hgu hb hd (hx σ) I1 (.cons rfl .nil) q)

/-! ### an own exception over ValueError, its __init__ a def -/
/-- C(e, ..) that is raised -/
def zMkO (C : Addr) (sp : Sp) (ta : TA) : St → Hp → XK → Prop := fun σ H Q =>
  ta σ H fun vs H1 => vs.length ≤ 1000 ∧ ∀ a, H1 a = none → sp (.ref a :: vs) (upd H1 a (exo a C none))
    (fun v H2 => v = .non ∧ ∃ (d : Addr) (fs : List (Str × V)), H2 a = some (exo a C (some d)) ∧ H2 d = some (exd d fs) ∧ H1 d = none ∧ Q (.ref C) (some d) (upd (del H2 a) d (.xd fs))) E0
theorem pmk_Z {fI : Addr} (T : OexC X.K C) (iC : PySem.W.findIn X.K (.ref C) "__init__" = some (some (.ref fI))) (tI : PySem.W.typeIn X.K (.ref fI) = some (.type "function"))
    (F : FnG gd X.prog X.w X.K X.mg X.base k fI fd ps sp) (hr : Room (k + 1) X.A) (hgu : gd = true → X.A.guards = some []) (hb : Binds X.K fd ps []) (hg : Gl X x)
    (hm : X.mg x = some (.ref C)) (ha : PA X (e :: es) t) (hdb : (x == ("__debug__" : Str)) = false := by decide)
    (he : starEach (e :: es) X.env = (false, eval e X.env) :: starEach es X.env := by rfl) (hpl : (backTo pos (starEach es X.env)).any (·.1) = false := by rfl) :
    PMk X (.Call (.Name x p) (e :: es) [] pos) (zMkO C sp t) := by
  intro pins s σ H Q I h
  obtain ⟨nm, q, N, bs, bm, sn, sub, ab, col, dd, k0, k1, k2, k3, k5, hC, hbm⟩ := T.cls
  refine wpAny_Call_Name_kw (ld_glob I hg hm ?_ hdb)
  refine PySem.W.callWith_K (h₀ := X.base) I.ok.mod.kin T.kC (thn (ha.run pos pins s σ H _ I h) ?_) he hpl
  rintro us s1 ⟨vs, H1, I1, r1, hz, q1⟩
  refine ⟨I1.kIn, ?_⟩
  show wpAny _ _ (call (.ref C) us) _ _ _
  obtain ⟨hp, g, dr, tk, os⟩ := s1
  have hsz : hp.objs.size ≤ hp.objs.size + 1 := Nat.le_succ _
  have hq := q1 (hp.objs.size + 1) (I1.hok.fresh hsz)
  have kk : ∀ b o, hp.get? b = some o → ((hp.push (PySem.W.kdv_tup us)).push (PySem.HandSPX.excO C hp.objs.size)).get? b = some o :=
    fun b o z => Heap.get?_push_of_some _ (Heap.get?_push_of_some _ z)
  have hget : ((hp.push (PySem.W.kdv_tup us)).push (PySem.HandSPX.excO C hp.objs.size)).get? (hp.objs.size + 1) =
      some (PySem.HandSPX.excO C hp.objs.size) := by heap_get
  have I2 := I1.laid (t' := tk) (a := hp.objs.size + 1) (o := exo (hp.objs.size + 1) C none)
    (h' := (hp.push (PySem.W.kdv_tup us)).push (PySem.HandSPX.excO C hp.objs.size)) kk hsz (exo_ok hget)
  have r2 : Vals (V.ref (hp.objs.size + 1) :: vs) (Value.ref (hp.objs.size + 1) :: us) := .cons rfl r1
  have hl : (Value.ref (hp.objs.size + 1) :: us).length = ps.length := r2.length.symm.trans (F.len _ _ _ _ hq)
  have hus : us.length ≤ sizeLine := by
    rw [← Paired.length r1, sizeLine_eq]
    omega
  have bb := hb ⟨(hp.push (PySem.W.kdv_tup us)).push (PySem.HandSPX.excO C hp.objs.size), g, dr, tk, os⟩ (Value.ref (hp.objs.size + 1) :: us) I2.kIn (by rw [List.append_nil]; exact hl)
  rw [List.append_nil] at bb
  refine wpAny_call (PySem.HandSPX.call_own PySem.F.excBase_ValueError (fun Y => PySem.HandSPX.refsVE_contains Y bm hbm) (I1.kIn _ _ hC)
    (PySem.W.looks_findIn I1.kIn iC) (fun self => PySem.W.bind_fn I1.kIn self tI) hus
    (codeAny_mono (F.run _ X.stack _ _ ⟨Value.ref (hp.objs.size + 1) :: us, []⟩ _ _ _ E0 (hr.make C us []) (fun z => guards_make (hgu z)) (I2.env0.make C us []) bb r2 hq) fun r s' hq' => ?_))
  rcases r with er | fl
  · exact (show False by
      obtain ⟨_, _, _, _, _, _, _, _, _, _, _, _, z⟩ := hq'
      exact z).elim
  · cases fl with
    | ret u =>
      obtain ⟨v, H2, os2, bare2, un2, hok2, rv, ev, d, fs, ea, ed, hd1, q2⟩ := hq'
      subst ev
      obtain ⟨h2, g2, d2, t2, os'⟩ := s'
      exact ⟨rv, mk_end (raises_own T.exC T.tyC) I1 hsz kk un2 hok2 os2 bare2 ea ed hd1 q2⟩
    | next => exact hq'.elim
    | brk => exact hq'.elim
    | cont => exact hq'.elim
end
end Z
namespace Z
open PySem PySem.Spec PyProof.Rows L2

/-! ### isinstance by a built-in class -/
def knC (c : String) : Bool := c == "int" || c == "str" || c == "bool" || c == "list" || c == "tuple" || c == "dict"
/-- the kind of an object -/
def TyR (K : PySem.W.Frag) (H : Hp) (a : Addr) (t : String) : Prop :=
  (t = "list" ∧ ∃ xs, SqL K H a xs) ∨ (t = "tuple" ∧ ∃ xs, SqT K H a xs) ∨ (t = "dict" ∧ ((∃ kvs, H a = some (.dK kvs)) ∨ ∃ kvs, H a = some (.dT kvs)))
def zIsi (K : PySem.W.Frag) : List V → Hp → VK → Prop := fun xs H Q => match xs with
  | [.non, .ty c] => knC c = true ∧ Q (.bl false) H
  | [.bl _, .ty c] => knC c = true ∧ Q (.bl (c == "bool" || c == "int")) H
  | [.int _, .ty c] => knC c = true ∧ Q (.bl (c == "int")) H
  | [.str _, .ty c] => knC c = true ∧ Q (.bl (c == "str")) H
  | [.ref a, .ty c] => knC c = true ∧ ∃ t, TyR K H a t ∧ Q (.bl (c == t)) H
  | _ => False
theorem knC_cases {c : String} (h : knC c = true) : c = "int" ∨ c = "str" ∨ c = "bool" ∨ c = "list" ∨ c = "tuple" ∨ c = "dict" := by
  simpa [knC, or_assoc] using h
theorem TyR.ty {K : PySem.W.Frag} {H : Hp} {a : Addr} {t : String} (h : TyR K H a t) : TyX K H (.ref a) (.type t) ∧ (t = "list" ∨ t = "tuple" ∨ t = "dict") := by
  rcases h with ⟨rfl, xs, (h | ⟨o, h⟩) | ⟨o, its, n, h, h2, _⟩⟩ | ⟨rfl, xs, (h | ⟨o, h⟩) | ⟨o, its, n, h, h2, _⟩⟩ | ⟨rfl, ⟨kvs, h⟩ | ⟨kvs, h⟩⟩
  · exact ⟨.base (.lst h), .inl rfl⟩
  · exact ⟨.base (.frz h), .inl rfl⟩
  · exact ⟨.kList h h2, .inl rfl⟩
  · exact ⟨.base (.tup h), .inr (.inl rfl)⟩
  · exact ⟨.fTuple h, .inr (.inl rfl)⟩
  · exact ⟨.kTuple h h2, .inr (.inl rfl)⟩
  · exact ⟨.base (.dK h), .inr (.inr rfl)⟩
  · exact ⟨.base (.dT h), .inr (.inr rfl)⟩
theorem kit_tab (t c : String) (ht : t = "NoneType" ∨ t = "bool" ∨ t = "int" ∨ t = "str" ∨ t = "list" ∨ t = "tuple" ∨ t = "dict") (hc : knC c = true) :
    kitB t c = some (c == t || (c == "int" && t == "bool")) := by
  rcases ht with rfl | rfl | rfl | rfl | rfl | rfl | rfl <;> rcases knC_cases hc with rfl | rfl | rfl | rfl | rfl | rfl <;> decide +kernel
section
variable {X : Cx}
theorem call_isiZ : CallR X (.builtin "isinstance") (zIsi X.K) := by
  intro pins s σ H xs us Q I r h
  have go : ∀ (x : V) (c t : String), xs = [x, .ty c] → knC c = true → TyX X.K H x (.type t) →
      (t = "NoneType" ∨ t = "bool" ∨ t = "int" ∨ t = "str" ∨ t = "list" ∨ t = "tuple" ∨ t = "dict") →
      Q (.bl (c == t || (c == "int" && t == "bool"))) H → wpAny (model X.prog X.w) X.A (PySem.call (.builtin "isinstance") us) (EP X pins σ Q) X.xe s :=
    fun x c t e hc ty ht q => call_isi pins s σ H xs us Q I r ⟨x, .ty c, .type t, .type c, _, e, .ty c, ty, kit_ty (kit_tab t c ht hc), q⟩
  unfold zIsi at h
  split at h
  · rename_i c
    refine go _ c "NoneType" rfl h.1 (.base .non) (by simp) ?_
    have e : (c == "NoneType" || (c == "int" && "NoneType" == "bool")) = false := by rcases knC_cases h.1 with rfl | rfl | rfl | rfl | rfl | rfl <;> decide
    rw [e]; exact h.2
  · rename_i b c
    refine go _ c "bool" rfl h.1 (.base (.bl b)) (by simp) ?_
    have e : (c == "bool" || (c == "int" && "bool" == "bool")) = (c == "bool" || c == "int") := by rcases knC_cases h.1 with rfl | rfl | rfl | rfl | rfl | rfl <;> decide
    rw [e]; exact h.2
  · rename_i i c
    refine go _ c "int" rfl h.1 (.base (.int i)) (by simp) ?_
    have e : (c == "int" || (c == "int" && "int" == "bool")) = (c == "int") := by rcases knC_cases h.1 with rfl | rfl | rfl | rfl | rfl | rfl <;> decide
    rw [e]; exact h.2
  · rename_i z c
    refine go _ c "str" rfl h.1 (.base (.str z)) (by simp) ?_
    have e : (c == "str" || (c == "int" && "str" == "bool")) = (c == "str") := by rcases knC_cases h.1 with rfl | rfl | rfl | rfl | rfl | rfl <;> decide
    rw [e]; exact h.2
  · rename_i a c
    obtain ⟨hc, t, ty, q⟩ := h
    obtain ⟨ty, ht⟩ := ty.ty
    refine go _ c t rfl hc ty (by rcases ht with rfl | rfl | rfl <;> simp) ?_
    have e : (c == t || (c == "int" && t == "bool")) = (c == t) := by
      rcases ht with rfl | rfl | rfl <;> rcases knC_cases hc with rfl | rfl | rfl | rfl | rfl | rfl <;> decide
    rw [e]; exact q
  · exact h.elim
end

/-! ### repr of data -/
/-- a flat thing as data -/
def flatD : V → Option PyData
  | .non => some .none | .bl b => some (.bool b) | .int i => some (.int i) | .str x => some (.str x) | _ => none
theorem flatD_reads {h : Heap} {v : V} {u : Value} {d : PyData} (e : flatD v = some d) (r : RelV v u) : Reads h u d [] := by
  cases v <;> simp [flatD] at e <;> subst e
  · cases r; exact .none
  · cases r; exact .bool _
  · obtain ⟨t, rfl⟩ := r; exact .int _ _
  · obtain ⟨t, rfl⟩ := r; exact .str _ _
def keyD : Key → PyData
  | .inl i => .int i
  | .inr x => .str x
/-- data without dicts, or a dict of flat things -/
def DpR (K : PySem.W.Frag) (H : Hp) (x : V) (d : PyData) : Prop :=
  (Dp K H x d ∧ d.hasDict = false) ∨ ∃ a kvs kds, x = .ref a ∧ H a = some (.dK kvs) ∧ d = .dict kds ∧
    Paired (fun (p : Key × V) (q : PyData × PyData) => keyD p.1 = q.1 ∧ flatD p.2 = some q.2) kvs kds
theorem dict_reads {P : Program} {w : World} {h : Heap} {es : List DictEntry} {vs : List (Key × Value)} (hp : Pairs (mixKind P w) es vs) :
    ∀ {kvs : List (Key × V)} {kds : List (PyData × PyData)}, KV kvs vs → Paired (fun (p : Key × V) (q : PyData × PyData) => keyD p.1 = q.1 ∧ flatD p.2 = some q.2) kvs kds →
      ReadsAll h (es.map (·.key)) (kds.map (·.1)) [] ∧ ReadsAll h (es.map (·.val)) (kds.map (·.2)) [] := by
  induction hp with
  | nil =>
    intro kvs kds r q
    cases r
    cases q
    exact ⟨.nil, .nil⟩
  | cons h1 hv _ ih =>
    intro kvs kds r q
    cases r with
    | cons r1 r2 =>
      cases q with
      | cons q1 q2 =>
        obtain ⟨i1, i2⟩ := ih r2 q2
        obtain ⟨e1, rv⟩ := r1
        obtain ⟨e2, e3⟩ := q1
        rename_i en kv es' kvs' hpp p ps q qs
        have k1 : Reads h en.key q.1 [] := by
          rw [← e2, e1]
          rcases keyIs_shape h1 with ⟨i, t, ek, ev⟩ | ⟨x, t, ek, ev⟩
          · rw [ek, ev]
            exact .int _ _
          · rw [ek, ev]
            exact .str _ _
        have k2 : Reads h en.val q.2 [] := by
          rw [hv]
          exact flatD_reads e3 rv
        exact ⟨ReadsAll.cons (as := []) (bs := []) k1 i1, ReadsAll.cons (as := []) (bs := []) k2 i2⟩
section
variable {X : Cx} {pins : List (Addr × Obj)} {σ : St} {H : Hp} {s : Shared}
theorem DpR.reads (I : Inv X pins σ H s) {d : PyData} {v : V} {u : Value} (h : DpR X.K H v d) (r : RelV v u) : ∃ as, Reads s.heap u d as ∧ (d.hasDict = true → sysModules ∉ as) := by
  rcases h with ⟨h, hd⟩ | ⟨a, kvs, kds, rfl, ha, rfl, hp⟩
  · obtain ⟨as, q⟩ := Dp.reads I d v u h r
    exact ⟨as, q, fun z => by rw [hd] at z; exact absurd z Bool.false_ne_true⟩
  · cases r
    obtain ⟨_, hy, vs, rv, o, es, ep, e1, e2, e3, _, e5, _⟩ := (show ObjOk X.prog X.w H s.heap a (.dK kvs) from I.hok a _ ha)
    obtain ⟨r1, r2⟩ := dict_reads (h := s.heap) e5 rv hp
    refine ⟨_, Reads.dict e1 e2.1 e3 r1 r2, fun _ z => ?_⟩
    have z' : sysModules = a := by simpa using z
    rw [z'] at hy
    simp at hy
def zRepr (K : PySem.W.Frag) : List V → Hp → VK → Prop := fun xs H Q => ∃ x d, xs = [x] ∧ DpR K H x d ∧ d.showable = true ∧ d.depth ≤ 32 ∧ d.shown.length ≤ sizeLine ∧ Q (.str d.shown) H
theorem call_reprZ (hg : X.A.guards = some []) (hu : X.A.units + 64 < cLine) : CallR X (.builtin "repr") (zRepr X.K) := by
  intro pins s σ H xs us Q I r h
  obtain ⟨x, d, rfl, hd, hs, hdp, hz, q⟩ := h
  obtain ⟨u, rfl, ru⟩ := vals1 r
  obtain ⟨as, hr, hsm⟩ := hd.reads I ru
  cases hr with
  | none => exact PySem.P.repr_of_none ⟨.str _, H, I.tok _, ⟨_, rfl⟩, q⟩
  | bool b => exact PySem.P.repr_of_bool ⟨.str _, H, I.tok _, ⟨_, rfl⟩, q⟩
  | int i t => exact PySem.P.repr_of_int (by simpa [PyData.showable] using hs) ⟨.str _, H, I.tok _, ⟨_, rfl⟩, q⟩
  | str y t => exact PySem.P.repr_of_str ⟨.str _, H, I.tok _, ⟨_, rfl⟩, q⟩ (by simpa only [PyData.shown] using hz)
  | list h1 h2 h3 h4 =>
    exact PySem.repr_of_reads' (.list h1 h2 h3 h4) hs hsm hg (by omega) (fun _ _ z => z) (fun h' u tk hk => ⟨.str _, H, I.kept (t' := tk) hk, ⟨_, rfl⟩, q⟩) hz
  | tuple h1 h2 h3 h4 =>
    exact PySem.repr_of_reads' (.tuple h1 h2 h3 h4) hs hsm hg (by omega) (fun _ _ z => z) (fun h' u tk hk => ⟨.str _, H, I.kept (t' := tk) hk, ⟨_, rfl⟩, q⟩) hz
  | dict h1 h2 h3 h4 h5 =>
    exact PySem.repr_of_reads' (.dict h1 h2 h3 h4 h5) hs hsm hg (by omega) (fun _ _ z => z) (fun h' u tk hk => ⟨.str _, H, I.kept (t' := tk) hk, ⟨_, rfl⟩, q⟩) hz
end
end Z
namespace Z
open PySem PySem.Spec PyProof.Rows L2

/-! ### readings that reckon by themselves -/
theorem PE.to {X : Cx} {e : Expr} {t t' : TE} (h : PE X e t) (k : ∀ σ H Q, t' σ H Q → t σ H Q) : PE X e t' := ⟨fun pins s σ H Q I q => h.run pins s σ H Q I (k σ H Q q)⟩
theorem PT.to {X : Cx} {e : Expr} {t t' : TT} (h : PT X e t) (k : ∀ σ H Q, t' σ H Q → t σ H Q) : PT X e t' := ⟨fun pins s σ H Q I q => h.run pins s σ H Q I (k σ H Q q)⟩
theorem PS.to {X : Cx} {e : Stmt} {t t' : TS} (h : PS X e t) (k : ∀ D σ H, t' D σ H → t D σ H) : PS X e t' := ⟨fun pins s σ H D I q => h.run pins s σ H D I (k D σ H q)⟩
theorem CallR.to {X : Cx} {f : Value} {r r' : List V → Hp → VK → Prop} (h : CallR X f r) (k : ∀ xs H Q, r' xs H Q → r xs H Q) : CallR X f r' :=
  fun pins s σ H xs us Q I rv q => h pins s σ H xs us Q I rv (k xs H Q q)
def zVar (i : Nat) : TE := fun σ H Q => match σ[i]? with
  | some (some v) => Q v H
  | _ => False
def zTest (t : TE) : TT := fun σ H Q => t σ H fun x H' => match x with
  | .bl k => Q k H'
  | _ => False
def zTru (K : PySem.W.Frag) (t : TE) : TT := fun σ H Q => t σ H fun x H' => match x with
  | .non => Q false H'
  | .bl k => Q k H'
  | .int i => Q (i != 0) H'
  | x => ∃ k, TruV K x H' k ∧ Q k H'
def zAndV (ta tb : TE) : TE := fun σ H Q => ta σ H fun x H1 => match x with
  | .bl c => if c = true then tb σ H1 Q else Q (.bl false) H1
  | _ => False
def zOrV (ta tb : TE) : TE := fun σ H Q => ta σ H fun x H1 => match x with
  | .bl c => if c = true then Q (.bl true) H1 else tb σ H1 Q
  | _ => False
def zNotV (ta : TE) : TE := fun σ H Q => ta σ H fun x H1 => match x with
  | .bl c => Q (.bl (!c)) H1
  | _ => False
def zChain (r r' : R2) (ta tb tc : TE) : TE := fun σ H Q => ta σ H fun x H1 => tb σ H1 fun y H2 => r x y H2 fun z H3 => match z with
  | .bl k => if k = true then tc σ H3 fun w' H4 => r' y w' H4 Q else Q (.bl false) H3
  | _ => False
def zNeg (ta : TE) : TE := fun σ H Q => ta σ H fun x H1 => match x with
  | .int i => Q (.int (-i)) H1
  | _ => False
def zLen (K : PySem.W.Frag) : List V → Hp → VK → Prop := fun xs H Q => match xs with
  | [.str z] => z.length ≤ sizeLine ∧ Q (.int z.length) H
  | [.ref p] => ∃ ys, (SqL K H p ys ∨ SqT K H p ys) ∧ Q (.int ys.length) H
  | _ => False
def rAbs : List V → Hp → VK → Prop := fun xs H Q => match xs with
  | [.int i] => Q (.int (if i < 0 then -i else i)) H
  | _ => False
def rMx2 : List V → Hp → VK → Prop := fun xs H Q => match xs with
  | [.int i, .int j] => Q (.int (if j > i then j else i)) H
  | _ => False
def rMn2 : List V → Hp → VK → Prop := fun xs H Q => match xs with
  | [.int i, .int j] => Q (.int (if j < i then j else i)) H
  | _ => False
def rInt1 : List V → Hp → VK → Prop := fun xs H Q => match xs with
  | [.int i] => Q (.int i) H
  | [.bl k] => Q (.int (if k then 1 else 0)) H
  | _ => False
def rListOf (K : PySem.W.Frag) : List V → Hp → VK → Prop := fun xs H Q => match xs with
  | [.ref p] => ∃ ys, (SqL K H p ys ∨ SqT K H p ys) ∧ ∀ l, H l = none → Q (.ref l) (upd H l (.lst ys))
  | _ => False
def zRaise (W : WX) (C : Addr) (sp : Sp) (ta : TA) : TS := fun _ σ H => zMkO C sp ta σ H fun cls d H' => W cls d σ H'

/-! ### isinstance by a built-in class, the class known -/
inductive Kd where
  | int | str | bool | list | tuple | dict
  deriving DecidableEq
def Kd.nm : Kd → String
  | .int => "int" | .str => "str" | .bool => "bool" | .list => "list" | .tuple => "tuple" | .dict => "dict"
def Kd.isB : Kd → Bool
  | .bool => true | .int => true | _ => false
def Kd.isI : Kd → Bool
  | .int => true | _ => false
def Kd.isS : Kd → Bool
  | .str => true | _ => false
def KndR (K : PySem.W.Frag) (H : Hp) (a : Addr) : Kd → Prop
  | .list => ∃ xs, SqL K H a xs
  | .tuple => ∃ xs, SqT K H a xs
  | .dict => (∃ kvs, H a = some (.dK kvs)) ∨ ∃ kvs, H a = some (.dT kvs)
  | _ => False
def zIsiV (K : PySem.W.Frag) (k : Kd) (x : V) (H : Hp) (Q : VK) : Prop := match x with
  | .non => Q (.bl false) H
  | .bl _ => Q (.bl k.isB) H
  | .int _ => Q (.bl k.isI) H
  | .str _ => Q (.bl k.isS) H
  | .ref a => ∃ t, KndR K H a t ∧ Q (.bl (decide (t = k))) H
  | _ => False
def zIsiT (K : PySem.W.Frag) (k : Kd) (te : TE) : TE := fun σ H Q => te σ H fun x H1 => zIsiV K k x H1 Q
theorem KndR.ty {K : PySem.W.Frag} {H : Hp} {a : Addr} {t : Kd} (h : KndR K H a t) : TyR K H a t.nm := by
  cases t <;> first | exact h.elim | exact .inl ⟨rfl, h⟩ | exact .inr (.inl ⟨rfl, h⟩) | exact .inr (.inr ⟨rfl, h⟩)
theorem nm_kn (k : Kd) : knC k.nm = true := by cases k <;> decide +kernel
theorem nm_eq (k t : Kd) : (k.nm == t.nm) = decide (t = k) := by cases k <;> cases t <;> decide +kernel
theorem zIsiV_to {K : PySem.W.Frag} {k : Kd} {x : V} {H : Hp} {Q : VK} (h : zIsiV K k x H Q) : zIsi K [x, .ty k.nm] H Q := by
  cases x with
  | non => exact ⟨nm_kn k, h⟩
  | bl b =>
    refine ⟨nm_kn k, ?_⟩
    have e : (k.nm == "bool" || k.nm == "int") = k.isB := by cases k <;> decide +kernel
    rw [e]
    exact h
  | int i =>
    refine ⟨nm_kn k, ?_⟩
    have e : (k.nm == "int") = k.isI := by cases k <;> decide +kernel
    rw [e]
    exact h
  | str z =>
    refine ⟨nm_kn k, ?_⟩
    have e : (k.nm == "str") = k.isS := by cases k <;> decide +kernel
    rw [e]
    exact h
  | ref a =>
    obtain ⟨t, ht, q⟩ := h
    refine ⟨nm_kn k, t.nm, ht.ty, ?_⟩
    rw [nm_eq]
    exact q
  | byt _ => exact h.elim
  | flt _ => exact h.elim
  | ty _ => exact h.elim
section
variable {X : Cx} {x y : Str} {pos p p1 p2 : Pos} {e a b c : Expr} {rest : List Expr} {te ta tb tc : TE}
theorem zv (i : Nat) (hN : X.N[i]? = some x := by rfl) (hv : Vis X.env.scope x := by first | exact Or.inl rfl | exact Or.inr (Or.inl rfl) | exact Or.inr (Or.inr rfl))
    (hd : (x == ("__debug__" : Str)) = false := by decide) (hcd : (x == ("__classdict__" : Str)) = false := by decide) : PE X (.Name x pos) (zVar i) :=
  PE.to (pe_var hN hv hd hcd) fun σ H Q h => by
    unfold zVar at h
    split at h
    · rename_i v e
      exact ⟨v, e, h⟩
    · exact h.elim
theorem bl_eq {x : V} {R : Bool → Prop} : (match x with | .bl k => R k | _ => False) = ∃ k, x = .bl k ∧ R k := by
  apply propext
  constructor
  · intro h
    split at h
    · exact ⟨_, rfl, h⟩
    · exact h.elim
  · rintro ⟨k, rfl, h⟩
    exact h
theorem zTest_eq (t : TE) : zTest t = tTest t := by
  funext σ H Q
  exact congrArg (t σ H) (funext fun x => funext fun H' => bl_eq)
theorem zAndV_eq : zAndV ta tb = tAndV ta tb := by
  funext σ H Q
  exact congrArg (ta σ H) (funext fun x => funext fun H' => bl_eq)
theorem zOrV_eq : zOrV ta tb = tOrV ta tb := by
  funext σ H Q
  exact congrArg (ta σ H) (funext fun x => funext fun H' => bl_eq)
theorem zNotV_eq : zNotV ta = tNotV ta := by
  funext σ H Q
  exact congrArg (ta σ H) (funext fun x => funext fun H' => bl_eq)
theorem zChain_eq {r r' : R2} : zChain r r' ta tb tc = tChain r r' ta tb tc := by
  funext σ H Q
  refine congrArg (ta σ H) (funext fun x => funext fun H1 => congrArg (tb σ H1) (funext fun y => funext fun H2 => congrArg (r x y H2) (funext fun z => funext fun H3 => ?_)))
  exact bl_eq
theorem zTru_eq {K : PySem.W.Frag} : zTru K te = fun σ H Q => te σ H fun x H' => ∃ k, TruV K x H' k ∧ Q k H' := by
  funext σ H Q
  refine congrArg (te σ H) (funext fun x => funext fun H' => propext ?_)
  cases x with
  | non => exact ⟨fun h => ⟨_, rfl, h⟩, fun ⟨k, e, h⟩ => by cases e; exact h⟩
  | bl b => exact ⟨fun h => ⟨_, rfl, h⟩, fun ⟨k, e, h⟩ => by cases e; exact h⟩
  | int i => exact ⟨fun h => ⟨_, rfl, h⟩, fun ⟨k, e, h⟩ => by cases e; exact h⟩
  | str _ => exact Iff.rfl
  | byt _ => exact Iff.rfl
  | flt _ => exact Iff.rfl
  | ref _ => exact Iff.rfl
  | ty _ => exact Iff.rfl
theorem ptz_cmp {op : CmpOp} {r : R2} (ho : OpR X (compareOp op) r) (ha : PE X a ta) (hb : PE X b tb) (hm : behindInMarks op b = false) : PT X (.Compare a [op] [b] pos) (zTest (tOp r ta tb)) := by
  rw [zTest_eq]
  exact pt_cmpR ho ha hb hm
theorem pez_chain {op op' : CmpOp} {r r' : R2} (ho : OpR X (compareOp op) r) (ho' : OpR X (compareOp op') r') (ha : PE X a ta) (hb : PE X b tb) (hc : PE X c tc)
    (hm : lastMarks [op, op'] [b, c] = false := by with_unfolding_all rfl) : PE X (.Compare a [op, op'] [b, c] pos) (zChain r r' ta tb tc) := by
  rw [zChain_eq]
  exact pe_chain ho ho' ha hb hc hm
theorem ptz_chain {op op' : CmpOp} {r r' : R2} (ho : OpR X (compareOp op) r) (ho' : OpR X (compareOp op') r') (ha : PE X a ta) (hb : PE X b tb) (hc : PE X c tc)
    (hm : lastMarks [op, op'] [b, c] = false := by with_unfolding_all rfl) : PT X (.Compare a [op, op'] [b, c] pos) (zTest (zChain r r' ta tb tc)) := by
  rw [zTest_eq, zChain_eq]
  exact pt_chain ho ho' ha hb hc hm
theorem ptz_truth (ha : PE X a ta) (he : ∀ whole, isTrue a X.env whole = (do let v ← whole; standAt a.pos; holding [v] (truthy v))) : PT X a (zTru X.K ta) := by
  rw [zTru_eq]
  exact pt_truth ha he
theorem pez_and (ha : PE X a ta) (hb : PE X (.BoolOp .And (b :: rest) pos) tb) : PE X (.BoolOp .And (a :: b :: rest) pos) (zAndV ta tb) := by
  rw [zAndV_eq]
  exact pe_and ha hb
theorem pez_or (ha : PE X a ta) (hb : PE X (.BoolOp .Or (b :: rest) pos) tb) : PE X (.BoolOp .Or (a :: b :: rest) pos) (zOrV ta tb) := by
  rw [zOrV_eq]
  exact pe_or ha hb
theorem pez_not (ha : PE X a ta) : PE X (.UnaryOp .Not a pos) (zNotV ta) := by
  rw [zNotV_eq]
  exact pe_not ha
theorem pez_neg (ha : PE X a ta) : PE X (.UnaryOp .USub a pos) (zNeg ta) := by
  have e : zNeg ta = tUn (rU fun i => .int (-i)) ta := by
    funext σ H Q
    refine congrArg (ta σ H) (funext fun x => funext fun H1 => propext ⟨fun h => ?_, fun ⟨i, ei, h⟩ => by cases ei; exact h⟩)
    cases x with
    | int i => exact ⟨i, rfl, h⟩
    | _ => exact h.elim
  rw [e]
  exact pe_un un_neg ha
theorem pe_isi {kd : Kd} {fx cx : Str} (he : PE X e te) (hg : Gl X fx) (hm : X.mg fx = none) (hv : bootBuiltins fx = some (.builtin "isinstance"))
    (hc : Gl X cx) (hcm : X.mg cx = none) (hcv : bootBuiltins cx = some (.type kd.nm)) (h1 : fx ≠ "__name__" := by decide) (h2 : (fx == ("__debug__" : Str)) = false := by decide)
    (h3 : cx ≠ "__name__" := by decide) (h4 : (cx == ("__debug__" : Str)) = false := by decide)
    (h5 : starEach [e, .Name cx p2] X.env = (false, eval e X.env) :: starEach [.Name cx p2] X.env := by rfl) (h6 : (backTo pos (starEach [.Name cx p2] X.env)).any (·.1) = false := by rfl)
    (h7 : starEach [.Name cx p2] X.env = (false, eval (.Name cx p2) X.env) :: starEach [] X.env := by rfl) :
    PE X (.Call (.Name fx p1) [e, .Name cx p2] [] pos) (zIsiT X.K kd te) :=
  PE.to (pe_callB call_isiZ hg hm hv (pa_cons he (pa_cons (pe_bltn (v := .ty kd.nm) hc hcm hcv rfl h3 h4) pa_nil h7) h5) h1 h2 h5 h6) fun σ H Q h => by
    have e1 : (fun x H1 => zIsiV X.K kd x H1 Q) = fun x H1 => zIsi X.K [x, .ty kd.nm] H1 Q := by
      funext x H1
      refine propext ⟨zIsiV_to, fun h => ?_⟩
      cases x with
      | non => exact h.2
      | bl b =>
        have e : (kd.nm == "bool" || kd.nm == "int") = kd.isB := by cases kd <;> decide +kernel
        have q := h.2
        rw [e] at q
        exact q
      | int i =>
        have e : (kd.nm == "int") = kd.isI := by cases kd <;> decide +kernel
        have q := h.2
        rw [e] at q
        exact q
      | str i =>
        have e : (kd.nm == "str") = kd.isS := by cases kd <;> decide +kernel
        have q := h.2
        rw [e] at q
        exact q
      | ref i =>
        obtain ⟨_, t, ty, q⟩ := h
        rcases ty with ⟨rfl, z⟩ | ⟨rfl, z⟩ | ⟨rfl, z⟩
        · refine ⟨.list, z, ?_⟩
          rw [← nm_eq]
          exact q
        · refine ⟨.tuple, z, ?_⟩
          rw [← nm_eq]
          exact q
        · refine ⟨.dict, z, ?_⟩
          rw [← nm_eq]
          exact q
      | byt _ => exact h.elim
      | flt _ => exact h.elim
      | ty _ => exact h.elim
    show te σ H fun x H1 => zIsi X.K [x, .ty kd.nm] H1 Q
    rw [← e1]
    exact h
theorem pe_cint {i : Int} (hg : Gl X x) (h : ∃ t, X.mg x = some (.int i t)) (hd : (x == ("__debug__" : Str)) = false := by decide) : PE X (.Name x pos) (tC (.int i)) := by
  obtain ⟨t, h⟩ := h
  exact pe_glob hg h ⟨t, rfl⟩ hd
theorem pe_cstr {z : Str} (hg : Gl X x) (h : ∃ t, X.mg x = some (.str z t)) (hd : (x == ("__debug__" : Str)) = false := by decide) : PE X (.Name x pos) (tC (.str z)) := by
  obtain ⟨t, h⟩ := h
  exact pe_glob hg h ⟨t, rfl⟩ hd
theorem call_lenZ : CallR X (.builtin "len") (zLen X.K) := by
  intro pins s σ H xs us Q I r h
  unfold zLen at h
  split at h
  · exact call_len_str pins s σ H _ us Q I r ⟨_, rfl, h.1, h.2⟩
  · obtain ⟨ys, hq, q⟩ := h
    exact call_len_seq pins s σ H _ us Q I r ⟨_, ys, rfl, hq, q⟩
  · exact h.elim
theorem call_absZ : CallR X (.builtin "abs") rAbs := by
  intro pins s σ H xs us Q I r h
  unfold rAbs at h
  split at h
  · exact call_abs pins s σ H _ us Q I r ⟨_, rfl, h⟩
  · exact h.elim
theorem call_mx2 (hc : X.calm = true) : CallR X (.builtin "max") rMx2 := by
  intro pins s σ H xs us Q I r h
  unfold rMx2 at h
  split at h
  · exact call_max2 hc pins s σ H _ us Q I r ⟨_, _, rfl, h⟩
  · exact h.elim
theorem call_mn2 (hc : X.calm = true) : CallR X (.builtin "min") rMn2 := by
  intro pins s σ H xs us Q I r h
  unfold rMn2 at h
  split at h
  · exact call_min2 hc pins s σ H _ us Q I r ⟨_, _, rfl, h⟩
  · exact h.elim
theorem call_intZ : CallR X (.type "int") rInt1 := by
  intro pins s σ H xs us Q I r h
  unfold rInt1 at h
  split at h
  · exact call_int1 pins s σ H _ us Q I r (.inl ⟨_, rfl, h⟩)
  · exact call_int1 pins s σ H _ us Q I r (.inr ⟨_, rfl, h⟩)
  · exact h.elim
theorem call_listZ : CallR X (.type "list") (rListOf X.K) := by
  intro pins s σ H xs us Q I r h
  unfold rListOf at h
  split at h
  · obtain ⟨ys, hq, q⟩ := h
    exact call_list_of pins s σ H _ us Q I r ⟨_, ys, rfl, hq, q⟩
  · exact h.elim
end
end Z
namespace Z
open PySem PySem.Spec PyProof.Rows L2

/-! ### heaps -/
theorem Same.put {H : Hp} {p : Addr} {o : HO} (n : H p = none) : Same H (upd H p o) := fun b u e => by
  rw [upd_ne (ne_of_none e n)]
  exact e
/-- all stands but what is at p -/
def But (p : Addr) (H H' : Hp) : Prop := ∀ b o, H b = some o → b ≠ p → H' b = some o
theorem But.refl (p : Addr) (H : Hp) : But p H H := fun _ _ e _ => e
theorem But.same {p : Addr} {H H' : Hp} (s : Same H H') : But p H H' := fun b o e _ => s b o e
theorem But.trans {p : Addr} {H H1 H2 : Hp} (a : But p H H1) (b : But p H1 H2) : But p H H2 := fun c o e n => b c o (a c o e n) n
theorem But.put {p : Addr} {H : Hp} {o : HO} : But p H (upd H p o) := fun b u e n => by
  rw [upd_ne n]
  exact e
/-- behind a change of p alone, p being new since H0 -/
theorem But.old {p : Addr} {H0 H H' : Hp} (b : But p H H') (s : Same H0 H) (n : H0 p = none) : Same H0 H' := fun c o e => b c o (s c o e) (ne_of_none e n)

/-! ### tests -/
theorem zite {b : Bool} {A B : Prop} (h1 : b = true → A) (h2 : b = false → B) : if b = true then A else B := by
  cases b
  · exact h2 rfl
  · exact h1 rfl

/-! ### loops and comprehensions, what is walked once reckoned -/
def forGo (J : It) (g : TG) (tb : TS) (D : Ends) (σ : St) (H1 : Hp) : Prop := ∃ W : Nat → Nat → St → Hp → Prop, (∃ m, W 0 m σ H1) ∧ ∀ i m σ H, W i m σ H →
  (J.stop i H ∧ D.nx σ H) ∨ (J.go i H ∧ ∃ N : St → Hp → Prop, (∀ σ' H', N σ' H' → ∃ m', m' < m ∧ W (i + 1) m' σ' H') ∧
    ∀ x H', J.yld i H x H' → g x σ H' fun σ2 H2 => tb { D with nx := N, ct := N, bk := D.nx } σ2 H2)
def zFor (wi : TI) (g : TG) (tb : TS) : TS := fun D σ H => wi σ H fun J H1 => forGo J g tb D σ H1
def lcGo (J : It) (g : TG) (tt : TT) (te : TE) (vs : List Nat) (σ : St) (H1 : Hp) (Q : VK) : Prop := ∀ D, H1 D = none →
  ∃ W : Nat → Nat → Hp → Prop, (∃ m, W 0 m (upd H1 D (.lst []))) ∧ ∀ i m H, W i m H →
    (J.stop i H ∧ Q (.ref D) H) ∨ (J.go i H ∧ ∃ Nx : Hp → Prop, (∀ H', Nx H' → ∃ m', m' < m ∧ W (i + 1) m' H') ∧
      ∀ x H', J.yld i H x H' → g x (wipe σ vs) H' fun σ2 H2 => wipe σ2 vs = wipe σ vs ∧ tt σ2 H2 fun b H3 =>
        if b = true then te σ2 H3 fun y H4 => ∃ acc, H4 D = some (.lst acc) ∧ acc.length < sizeLine ∧ Nx (upd H4 D (.lst (acc ++ [y]))) else Nx H3)
def zLc (wi : TI) (g : TG) (tt : TT) (te : TE) (vs : List Nat) : TE := fun σ H Q => wi σ H fun J H1 => lcGo J g tt te vs σ H1 Q
section
variable {X : Cx}
theorem psz_for {tg iter : Expr} {body : List Stmt} {wi : TI} {g : TG} {tb : TS} {pos : Pos} (hp : PassesOwn (model X.prog X.w) X.A X.env X.xe) (hc : X.calm = true) (hi : PI X tg iter wi) (hg : PG X tg g)
    (hb : PSs X body tb) (hs : ∀ x, foldedSetIterable iter X.env x = pure x := by intro _; rfl) : PS X (.For tg iter body [] pos) (zFor wi g tb) :=
  ps_for hp hc hi hg hb hs
theorem pez_lc {elt tg iter : Expr} {ifs : List Expr} {scope : Scope} {own : List (Str × Nat)} {pos : Pos} {wi : TI} {g : TG} {tt : TT} {te : TE} (hc : X.calm = true) (hN : X.N.Nodup) (hi : PI X tg iter wi)
    (ok : BlkOk X.N X.env.scope scope own)
    (hg : ∀ (s : Shared) (H : Hp) (C : Addr) (cl : List (Str × Addr)) (fp : List Addr), PG (X.blk s H scope (compEnvC scope cl C X.env) fp) tg g)
    (ht : ∀ (s : Shared) (H : Hp) (C : Addr) (cl : List (Str × Addr)) (fp : List Addr), PTs (X.blk s H scope (compEnvC scope cl C X.env) fp) ifs tt)
    (he : ∀ (s : Shared) (H : Hp) (C : Addr) (cl : List (Str × Addr)) (fp : List Addr), PE (X.blk s H scope (compEnvC scope cl C X.env) fp) elt te)
    (hs : ∀ x, foldedSetIterable iter X.env x = pure x := by intro _; rfl) :
    PE X (.ListComp elt [⟨tg, iter, ifs, 0⟩] scope pos) (zLc wi g tt te (own.map (·.2))) := pe_lc hc hN hi ok hg ht he hs
theorem psz_setLc {i : Nat} {y : Str} {py : Pos} {elt tg iter : Expr} {ifs : List Expr} {scope : Scope} {own : List (Str × Nat)} {pos spos : Pos} {wi : TI} {g : TG} {tt : TT} {te : TE}
    (hc : X.calm = true) (hN : X.N.Nodup) (hy : X.N[i]? = some y) (hyl : X.env.scope.names.lookup y = some .local)
    (hsw : swapsWith (.ListComp elt [⟨tg, iter, ifs, 0⟩] scope pos) (some (.Name y py)) spos.line X.env = pure true) (hi : PI X tg iter wi) (ok : BlkOk X.N X.env.scope scope own)
    (hg : ∀ (s : Shared) (H : Hp) (C : Addr) (cl : List (Str × Addr)) (fp : List Addr), PG (X.blk s H scope (compEnvC scope cl C X.env) fp) tg g)
    (ht : ∀ (s : Shared) (H : Hp) (C : Addr) (cl : List (Str × Addr)) (fp : List Addr), PTs (X.blk s H scope (compEnvC scope cl C X.env) fp) ifs tt)
    (he : ∀ (s : Shared) (H : Hp) (C : Addr) (cl : List (Str × Addr)) (fp : List Addr), PE (X.blk s H scope (compEnvC scope cl C X.env) fp) elt te)
    (hs : ∀ x, foldedSetIterable iter X.env x = pure x := by intro _; rfl) :
    PS X (.Assign [.Name y py] (.ListComp elt [⟨tg, iter, ifs, 0⟩] scope pos) spos) (tAsg (zLc wi g tt te (own.map (·.2))) (gName i)) :=
  ps_setLc hc hN hy hyl hsw hi ok hg ht he hs
end
section
variable {J : It} {n : Nat} {G : Hp → Prop} {Y : Nat → Hp → V → Hp → Prop}
/-- a for by its invariant -/
theorem for_z (w : Walk J n G Y) {g : TG} {tb : TS} {D : Ends} {σ : St} {H : Hp} (Pv : Nat → St → Hp → Prop) (h0 : Pv 0 σ H) (hG : ∀ i σ H, i ≤ n → Pv i σ H → G H)
    (hs : ∀ i x σ H H', i < n → Pv i σ H → Y i H x H' → g x σ H' fun σ2 H2 => tb { D with nx := Pv (i + 1), ct := Pv (i + 1), bk := D.nx } σ2 H2) (hd : ∀ σ H, Pv n σ H → D.nx σ H) :
    forGo J g tb D σ H := for_it w Pv h0 hG hs hd
/-- a comprehension by an invariant of the heap -/
theorem lc_z (w : Walk J n G Y) {g : TG} {tt : TT} {te : TE} {vs : List Nat} {σ : St} {H1 : Hp} {Q : VK} (Pv : Addr → Nat → Hp → Prop) (h0 : ∀ D, H1 D = none → Pv D 0 (upd H1 D (.lst [])))
    (hG : ∀ D i H, H1 D = none → i ≤ n → Pv D i H → G H)
    (hs : ∀ D i x H H', H1 D = none → i < n → Pv D i H → Y i H x H' → g x (wipe σ vs) H' fun σ2 H2 => wipe σ2 vs = wipe σ vs ∧ tt σ2 H2 fun b H3 =>
      if b = true then te σ2 H3 fun y H4 => ∃ acc, H4 D = some (.lst acc) ∧ acc.length < sizeLine ∧ Pv D (i + 1) (upd H4 D (.lst (acc ++ [y]))) else Pv D (i + 1) H3)
    (hd : ∀ D H, H1 D = none → Pv D n H → Q (.ref D) H) : lcGo J g tt te vs σ H1 Q :=
  fun D hD => lc_it w (Qd := fun H => Q (.ref D) H) (Pv D) (h0 D hD) (fun i H => hG D i H hD) (fun i x H H' => hs D i x H H' hD) fun H => hd D H hD
/-- a comprehension whose elements change nothing -/
theorem lc_map (w : Walk J n G Y) {g : TG} {tt : TT} {te : TE} {vs : List Nat} {σ : St} {H1 : Hp} {Q : VK} (f : Nat → V) (hn : n ≤ sizeLine) (hG : ∀ H', Same H1 H' → G H')
    (hs : ∀ i x H H', i < n → Same H1 H → Y i H x H' → H' = H ∧ ∃ σ2, (∀ R : St → Hp → Prop, R σ2 H → g x (wipe σ vs) H R) ∧ wipe σ2 vs = wipe σ vs ∧
      (∀ R : Bool → Hp → Prop, R true H → tt σ2 H R) ∧ (∀ R : VK, R (f i) H → te σ2 H R))
    (hd : ∀ D, H1 D = none → Q (.ref D) (upd H1 D (.lst ((List.range n).map f)))) : lcGo J g tt te vs σ H1 Q := by
  refine lc_z w (fun D i H => H = upd H1 D (.lst ((List.range i).map f))) (fun D hD => rfl) (fun D i H hD _ e => ?_) (fun D i x H H' hD hi e y => ?_) (fun D H hD e => ?_)
  · subst e
    exact hG _ (Same.put hD)
  · subst e
    obtain ⟨e2, σ2, h1, h2, h3, h4⟩ := hs i x _ H' hi (Same.put hD) y
    subst e2
    refine h1 _ ⟨h2, h3 _ ?_⟩
    show te σ2 _ _
    refine h4 _ ⟨_, upd_same, by simp; omega, ?_⟩
    rw [upd_upd, List.range_succ, List.map_append]
    rfl
  · subst e
    exact hd D hD
end
end Z
namespace Z
open PySem PySem.Spec PyProof.Rows L2

/-! ### the law's end, for defs of this layer -/
theorem law_callZ {P : Program} {w : World} {K : PySem.W.Frag} {mg mb : Str → Option Value} {k : Nat} {fa a : Addr} {fd : FuncData} {x : Str} {sp : Sp} {s₁ : Shared} {vs : List Value} {ns : List Int}
    (KX : K.In s₁.heap) (hns : s₁.heap.Ns mainGlobals mg) (hb : s₁.heap.Ns builtinsNs mb) (hbb : ∀ x : Str, x ≠ "__name__" → mb x = bootBuiltins x) (hlim : s₁.heap.NoLimit) (hg : s₁.gens = #[])
    (ha : s₁.heap.get? a = some { cls := .type "list", data := .seq vs.toArray }) (hi : IntsAre vs ns) (hl : ns.length ≤ sizeLine) (hr : Room k callerA)
    (F : ∀ base : Heap, K.In base → base.Ns mainGlobals mg → FnZ P w K mg base k fa fd [x] sp) (hbind : ∀ (s : Shared) (u : Value), BindsTo s fd ⟨[u], []⟩ [(x, u)])
    (hsp : ∀ H : Hp, Only H → SqL K H a (ns.map V.int) → sp [.ref a] H (fun v _ => v = .bl true) fun _ _ _ => False) :
    codeAny (model P w) callerA (.call (.ref fa) ⟨[.ref a], []⟩) (fun r s' => r = .ok (.ret (.bool true)) ∧ OldK s₁.heap s'.heap ∧ s'.os = s₁.os ∧ AllBare s'.gens) s₁ := by
  have rv := vals_ints hi
  have lenV := hi.length
  have core : ∀ H : Hp, Only H → SqL K H a (ns.map V.int) → HOk P w H s₁.heap → (∀ b, H b ≠ none → b = a) → (H a ≠ none → K.lookup a = none) →
      codeAny (model P w) callerA (.call (.ref fa) ⟨[.ref a], []⟩) (fun r s' => r = .ok (.ret (.bool true)) ∧ OldK s₁.heap s'.heap ∧ s'.os = s₁.os ∧ AllBare s'.gens) s₁ := by
    intro H hO hS hok hA hK
    have base_of : ∀ {b : Addr} {o : Obj}, s₁.heap.get? b = some o → H b = none → (hidT s₁.heap H).get? b = some o := fun e n => hidT_get e n
    have noA : ∀ {b : Addr} {o : Obj} {es : Array DictEntry} {ep : Nat}, s₁.heap.get? b = some o → o.data = .dict es ep → H b = none := fun {b o es ep} e d => by
      cases q : H b with
      | none => rfl
      | some u =>
        have e' : b = a := hA b (by rw [q]; simp)
        subst e'
        rw [ha] at e; cases e
        have d' : Data.seq vs.toArray _ = Data.dict es ep := d
        cases d'
    have nsK : ∀ {b : Addr} {m : Str → Option Value}, s₁.heap.Ns b m → (hidT s₁.heap H).Ns b m := fun {b m} ⟨o, es, ep, e, d, r⟩ => ⟨o, es, ep, base_of e (noA e d), d, r⟩
    have hKb : K.In (hidT s₁.heap H) := fun b o e => base_of (KX b o e) (by
      cases q : H b with
      | none => rfl
      | some u =>
        have e' : b = a := hA b (by rw [q]; simp)
        subst e'
        rw [hK (by rw [q]; simp)] at e; cases e)
    have hM : Mod K mg (hidT s₁.heap H) := ⟨hKb, nsK hns, ⟨mb, nsK hb, hbb⟩, let ⟨mc, h1, h2⟩ := hlim; ⟨mc, nsK h1, h2⟩⟩
    have e0 : Env0 P w K mg (hidT s₁.heap H) callerA [] s₁ H := ⟨rfl, hM, fun b o e => of_hidT e, Nat.le_of_eq (hidT_size _ _), trivial, fun b hb => absurd (show b ∈ ([] : List Addr) from hb) (by simp), hok, .of_eq hg⟩
    refine codeAny_mono ((F _ hKb (nsK hns)).run callerA [] s₁ H ⟨[.ref a], []⟩ [.ref a] [.ref a] _ _ hr (fun _ => rfl) e0 (hbind s₁ (.ref a)) (.cons rfl .nil) (hsp H hO hS)) fun r s' h => ?_
    cases r with
    | error e =>
      obtain ⟨_, _, _, _, _, _, _, _, _, _, _, _, z⟩ := h
      exact False.elim z
    | ok fl =>
      cases fl with
      | next => exact False.elim h
      | brk => exact False.elim h
      | cont => exact False.elim h
      | ret u =>
        obtain ⟨v, H', os, bare, un, hok', r', q⟩ := h
        have q' : v = .bl true := q
        subst q'
        obtain rfl : u = Value.bool true := r'
        refine ⟨rfl, OldK.of_keep fun b o e => ?_, os, bare⟩
        cases q : H b with
        | none => exact un.keep b o e q (by intro z; exact absurd (show b ∈ ([] : List Addr) from z) (by simp)) (by simp)
        | some u =>
          rcases hO b with z | ⟨ob, xs, z⟩
          · rw [q] at z; cases z
          · have z2 := un.frzs b ob _ z
            obtain ⟨e1, _⟩ := hok b _ z
            obtain ⟨e2, _⟩ := hok' b _ z2
            rw [e] at e1; cases e1
            exact e2
  cases hk : K.lookup a with
  | some o =>
    have e := KX a o hk
    rw [ha] at e
    cases e
    refine core (fun _ => none) (fun _ => .inl rfl) (.inr ⟨_, vs.toArray, _, hk, rfl, rfl, rfl, by rw [List.size_toArray, lenV]; exact hl, by simpa using rv⟩) (fun b u z => by have z' : (none : Option HO) = some u := z; cases z') (fun b z => absurd rfl z) fun z => absurd rfl z
  | none =>
    refine core (fun b => if b = a then some (.frz { cls := .type "list", data := .seq vs.toArray } (.lst (ns.map V.int))) else none) (fun b => ?_) (.inl (.inr ⟨{ cls := .type "list", data := .seq vs.toArray }, if_pos rfl⟩)) (fun b u z => ?_) (fun b z => ?_) fun _ => hk
    · by_cases hb : b = a
      · exact .inr ⟨_, _, if_pos hb⟩
      · exact .inl (if_neg hb)
    · by_cases hb : b = a
      · have z' := (if_pos hb).symm.trans z
        cases z'
        subst hb
        exact ⟨ha, by rw [List.length_map]; exact hl, vs, _, rv, ha⟩
      · have z' := (if_neg hb).symm.trans z
        cases z'
    · by_cases hb : b = a
      · exact hb
      · exact absurd (if_neg hb) z
theorem walk_ofZ {l : PySem.W.OpenLaw} {n k : Nat} {q : Program} {loose : List Str} {XP : (Str → Option Value) → Heap → Prop} {YP : World → Heap → Prop} {d : DefRec} {K : Params → PySem.W.Frag} {sp : PySem.W.Frag → Sp} {x : Str}
    (hn : l.most = some n) (hn2 : n ≤ sizeLine) (hdf : d.params.defaults = []) (hr : Room k callerA)
    (hY : ∀ (w : World) (h : Heap), YP w h → (K w.params).In h)
    (F : ∀ (w : World) (mg : Str → Option Value) (fa : Addr) (h : Heap), (K w.params).In h → h.Ns mainGlobals mg → mg d.name = some (.ref fa) →
      ∃ fd : FuncData, (∀ (s : Shared) (u : Value), BindsTo s fd ⟨[u], []⟩ [(x, u)]) ∧
        ∀ base : Heap, (K w.params).In base → base.Ns mainGlobals mg → FnZ l.prog w (K w.params) mg base k fa fd [x] (sp (K w.params)))
    (hsp : ∀ (K : PySem.W.Frag) (H : Hp) (a : Addr) (ns : List Int), ns.length ≤ n → Only H → SqL K H a (ns.map V.int) → sp K [.ref a] H (fun v _ => v = .bl true) fun _ _ _ => False) :
    PySem.W.WalkO q loose XP YP l.row.toRowW d [] (fun f vs => PySem.call f vs) := by
  refine Att.attach_call hn hdf fun w s₀ s₁ mg mb fa o pm cd doc a vs ns G Y ho hd hcd hmg hobj hints hlen hg => ?_
  have KX := hY w _ Y
  obtain ⟨fd, hb, hF⟩ := F w mg fa _ KX G.T.g hmg
  exact law_callZ KX G.T.g G.T.b G.T.builtins G.T.nolimit hg hobj hints (Nat.le_trans hlen hn2) hr hF hb (fun H hO hS => hsp (K w.params) H a ns hlen hO hS)
/-- the promise of a law: whatever the script, True -/
def spLaw (K : PySem.W.Frag) : Sp := fun vs H Q E => ∃ (a : Addr) (ns : List Int), vs = [.ref a] ∧ SqL K H a (ns.map V.int) ∧ ns.length ≤ 63 ∧ ∀ H', Q (.bl true) H'
theorem law_walk {l : PySem.W.OpenLaw} {k : Nat} {q : Program} {loose : List Str} {XP : (Str → Option Value) → Heap → Prop} {YP : World → Heap → Prop} {d : DefRec} {K : Params → PySem.W.Frag} (hn : l.most = some 63) (hdf : d.params.defaults = []) (hr : Room k callerA)
    (hY : ∀ (w : World) (h : Heap), YP w h → (K w.params).In h)
    (F : ∀ (w : World) (mg : Str → Option Value) (fa : Addr) (h : Heap), (K w.params).In h → h.Ns mainGlobals mg → mg d.name = some (.ref fa) →
      ∃ fd : FuncData, (∀ (s : Shared) (u : Value), BindsTo s fd ⟨[u], []⟩ [("script", u)]) ∧
        ∀ base : Heap, (K w.params).In base → base.Ns mainGlobals mg → FnZ l.prog w (K w.params) mg base k fa fd ["script"] (spLaw (K w.params))) :
    PySem.W.WalkO q loose XP YP l.row.toRowW d [] (fun f vs => PySem.call f vs) :=
  walk_ofZ (n := 63) (k := k) (x := "script") (sp := spLaw) hn (by decide) hdf hr hY F fun _ _ a ns hl _ hS => ⟨a, ns, rfl, hS, hl, fun _ => rfl⟩
/-- «except C» names an error of the class at C itself -/
theorem exm_own {K : PySem.W.Frag} {C : Addr} (b : PySem.W.subIn K (.ref C) (.type "BaseException") = some true) (c : PySem.W.isClsIn K C = true) (t : PySem.W.typeIn K (.ref C) = some (.type "type")) (u : PySem.W.subIn K (.ref C) (.ref C) = some true) :
    PySem.W.exmOne K (.ref C) (.ref C) = some true := by
  have c' : (PySem.W.clsIn K C).isSome = true := c
  simp [PySem.W.exmOne, PySem.W.kitCls, b, c', t, u]
end Z
namespace Z
open PySem PySem.Spec PyProof.Rows L2

/-! ### enumerate(tuple) -/
theorem enum1_meets {v : Value} {o : Obj} {G : Heap → Prop} (B : Begins v o G) :
    Meets (Builtin.«enumerate.__new__» ⟨[.type "enumerate", v], []⟩) (fun _ R s => G s.heap ∧
      R (.ok (.ret (.ref (s.heap.push o).objs.size))) { s with heap := (s.heap.push o).push { cls := .type "enumerate", data := .fields #[.none, .bool false, .ref s.heap.objs.size, rawInt 0, .none, .none] } }) :=
  .of_wp fun prog w A R s hh => by
    obtain ⟨hp, g, d, tk, os⟩ := s
    obtain ⟨hG, hR⟩ := hh
    have hsub := sub_enumerate
    have it1 : ∀ {A' : Around} {E : Value → Shared → Prop} {Q : Value → Shared → Prop}, Q (.ref hp.objs.size) ⟨hp.push o, g, d, tk, os⟩ → wpAny (model prog w) A' (pyIter v) Q E ⟨hp, g, d, tk, os⟩ :=
      fun q => B.iter prog w _ _ _ _ hG q
    wp_walk using it1
    refine wpAny_stack_any fun _ => wpAny_pure ?_
    split
    · rename_i c _ _ _ _ _
      cases (c == Value.type "enumerate") <;>
      · wp_walk using it1
        exact ⟨_, rfl, hR⟩
    · wp_walk using it1
      exact ⟨_, rfl, hR⟩
theorem enum1_call {prog : Program} {w : World} {A : Around} {E : Value → Shared → Prop} {s : Shared} {v : Value} {o : Obj} {G : Heap → Prop} {Q : Value → Shared → Prop} (B : Begins v o G) (hG : G s.heap)
    (k : ∀ h', IsEnum h' (s.heap.objs.size + 1) s.heap.objs.size 0 .none → h'.get? s.heap.objs.size = some o → (∀ b u, s.heap.get? b = some u → h'.get? b = some u) → Q (.ref (s.heap.objs.size + 1)) { s with heap := h' }) :
    wpAny (model prog w) A (call (.type "enumerate") [v]) Q E s := by
  have z1 : (s.heap.push o).objs.size = s.heap.objs.size + 1 := Heap.size_push ..
  have e1 : IsEnum ((s.heap.push o).push { cls := .type "enumerate", data := .fields #[.none, .bool false, .ref s.heap.objs.size, rawInt 0, .none, .none] }) (s.heap.objs.size + 1) s.heap.objs.size 0 .none := by
    rw [← z1]
    exact Heap.get?_push_size _ rfl
  refine callType_new F.called_enumerate (by decide) (F.typeCall_enumerate_1 _) (F.newCall_enumerate_1 _) (fun obj => F.args_object_init_2 obj _) F.entry_enumerate_new (enum1_meets B) ⟨hG, ?_⟩
  show _ ∧ _
  rw [z1]
  exact ⟨⟨_, e1, rfl⟩, k _ e1 (Heap.get?_push_of_some _ (Heap.get?_push_size _ B.free)) fun b u x => Heap.get?_push_of_some _ (Heap.get?_push_of_some _ x)⟩
/-- the tuple at a, each item with its index in a new pair -/
def ZeT (K : PySem.W.Frag) (a : Addr) : It where
  go := fun i H => ∃ (xs : List V) (x : V), SqT K H a xs ∧ xs[i]? = some x
  yld := fun i H v H' => ∃ T x, v = .ref T ∧ H T = none ∧ H' = upd H T (.tup [.int (i : Nat), x]) ∧ ∀ xs, SqT K H a xs → xs[i]? = some x
  stop := fun i H => ∃ xs : List V, SqT K H a xs ∧ xs.length ≤ i
theorem isTup_tuple {h : Heap} {a : Addr} {its : Array Value} (p : IsTup h a its) : h.IsTuple a its := by
  obtain ⟨o, e, c, n, d⟩ := p
  exact ⟨o, e, c, n, d⟩
theorem turn_zeT {P : Program} {w : World} {K : PySem.W.Frag} {elts : List Expr} {kk : Nat} {tpos : Pos} (a e it : Addr) :
    Turn P w K (.Tuple elts kk tpos) (ZeT K a) [e, it] e (fun i h => (∃ old, IsEnum h e it ((i : Nat) : Int) old) ∧ h.IsTupleIter it a i ∧ e ≠ it) where
  mem := by simp
  obj := fun i h st b hb => by
    obtain ⟨⟨old, he⟩, ⟨o, ho, hc, hd⟩, _⟩ := st
    simp only [List.mem_cons, List.not_mem_nil, or_false] at hb
    rcases hb with rfl | rfl
    · exact ⟨_, he, fun v q => nomatch q⟩
    · exact ⟨o, ho, fun v q => by rw [hd] at q; cases q⟩
  keep := fun i h h' st k => by
    obtain ⟨⟨old, he⟩, hi, hne⟩ := st
    exact ⟨⟨old, k e (by simp) _ he⟩, hi.at fun o q => k it (by simp) o q, hne⟩
  item := by
    intro X hP hw hK hc i pins s σ H E I hf st hg
    subst hP hw hK
    obtain ⟨⟨old, he⟩, hit, hne⟩ := st
    obtain ⟨xs, x, hq, hx⟩ := hg
    obtain ⟨its, rv, p, _⟩ := I.tuple hq
    obtain ⟨u, hu, ru⟩ := rv.get hx
    have pt := isTup_tuple p
    have nai : a ≠ it := fun z => by
      obtain ⟨o1, e1, c1, _⟩ := pt
      obtain ⟨o2, e2, c2, _⟩ := hit
      rw [z, e2] at e1
      cases e1
      rw [c2] at c1
      exact absurd c1 (by decide)
    have nea : e ≠ a := fun z => by
      obtain ⟨o1, e1, c1, _⟩ := pt
      have e2 : s.heap.get? e = _ := he
      rw [z, e1] at e2
      obtain rfl := Option.some.inj e2
      exact absurd (show Value.type "enumerate" = Value.type "tuple" from c1) (by decide)
    have lte : e < s.heap.objs.size := Heap.lt_size he
    have lti : it < s.heap.objs.size := by obtain ⟨_, q, _⟩ := hit; exact Heap.lt_size q
    have lts : i < its.toArray.size := by
      have := (List.getElem?_eq_some_iff.mp hu).1
      simpa using this
    refine wpAny_pyNext_enum_itemC (Draws.tuple (A := X.A.in1) (I.ok.hd hc) it a nai its.toArray) he ⟨hit, pt⟩ lts hne (by simp [hne, nea]) fun y h' tk hy ho hst hT hsz hk => ?_
    obtain rfl : y = u := by
      have hy' : its[i]? = some y := by simpa using hy
      rw [hu] at hy'
      exact (Option.some.inj hy').symm
    refine ⟨_, rfl, wpAny_letOwnedTupleGo_enum (s := { s with heap := h', toks := tk + 1 }) ho fun h2 he2 sb => ?_⟩
    have hT2 : h2.get? s.heap.objs.size = some { cls := .type "tuple", data := .seq #[.int i tk, y] } := (sb.2 _ (Nat.ne_of_gt lte)).trans hT
    have new : ObjOk X.prog X.w (upd H s.heap.objs.size (.tup [.int (i : Nat), x])) h2 s.heap.objs.size (.tup [.int (i : Nat), x]) :=
      ⟨show 2 ≤ sizeLine by decide, [.int i tk, y], .cons ⟨_, rfl⟩ (.cons ru .nil), ⟨_, hT2, rfl, _, rfl⟩⟩
    have I1 : Inv X pins σ (upd H s.heap.objs.size (.tup [.int (i : Nat), x])) { s with heap := h2, toks := tk + 1 } :=
      I.turnedNew (ch := [e, it]) (fun b ob hb q => (sb.2 b (fun z => hb (by simp [z]))).trans (hk b ob (fun z => hb (by simp [z])) (fun z => hb (by simp [z])) q)) hf (Nat.le_refl _) new
    refine ⟨.ref s.heap.objs.size, _, I1, rfl, ⟨_, x, rfl, I.hok.fresh (Nat.le_refl _), rfl, fun ys hy2 => by rw [I.tuple_inj hy2 hq]; exact hx⟩, ⟨⟨y, ?_⟩, hst.1.at fun o q => (sb.2 it (Ne.symm hne)).trans q, hne⟩, fun b hb => ?_⟩
    · have e1 : ((i + 1 : Nat) : Int) = (i : Int) + 1 := by omega
      rw [e1]
      exact he2
    · have lt : b < s.heap.objs.size := by
        simp only [List.mem_cons, List.not_mem_nil, or_false] at hb
        rcases hb with rfl | rfl
        · exact lte
        · exact lti
      rw [upd_ne (Nat.ne_of_lt lt)]
      exact (hf b hb).1
  done := by
    intro X hP hw hK hc i pins s σ H E I hf st hg
    subst hP hw hK
    obtain ⟨⟨old, he⟩, hit, hne⟩ := st
    obtain ⟨xs, hq, hx⟩ := hg
    obtain ⟨its, rv, p, _⟩ := I.tuple hq
    have pt := isTup_tuple p
    obtain ⟨f0, f1, f2, f3, f4, f5⟩ := hf it (by simp)
    have hl := rv.length
    have T := I.ok.hd hc
    have fin : ∀ h', Heap.ExtBut it s.heap h' → Inv X pins σ H { s with heap := h' } := fun h' eb => I.turned (t' := s.toks) (fun b o hb q => eb b o hb q) f0 f1 f3 f4 f5
    have D : Draws X.prog X.w X.A.in1 it [it, a] i (fun _ _ => True) (fun k h => k = i ∧ h.IsTupleIter it a i ∧ h.IsTuple a its.toArray) := {
      live := fun _ _ z => let ⟨o, ho, _⟩ := z.2.1; ⟨o, ho⟩
      frame := fun _ _ _ z hk => ⟨z.1, z.2.1.at fun o q => hk it (by simp) o q, z.2.2.at fun o q => hk a (by simp) o q⟩
      item := fun k _ _ _ lt z _ => absurd z.1 (Nat.ne_of_lt lt)
      done := fun s' Q' E' z hE => wpAny_nextOf_tuple_end (A := X.A.in1) T z.2.1 z.2.2 (by simp; omega) hE }
    exact wpAny_pyNext_enum_endD D he ⟨rfl, hit, pt⟩ fun h' eb => ⟨rfl, fin h' eb⟩
  self := fun A i s Q E st h => by
    obtain ⟨⟨_, he⟩, _⟩ := st
    exact wpAny_pyIter_enum he h
/-- enumerate of a list or of a tuple -/
def zEnum (K : PySem.W.Frag) (ta : TA) : TI := fun σ H R => ta σ H fun vs H1 => ∃ a xs, vs = [.ref a] ∧ ((SqL K H1 a xs ∧ R (Ite K a) H1) ∨ (SqT K H1 a xs ∧ R (ZeT K a) H1))
theorem pi_zEnum {X : Cx} {e : Expr} {ta : TA} {p pos tpos : Pos} {elts : List Expr} {kk : Nat} (hg : Gl X "enumerate") (hm : X.mg "enumerate" = none) (ha : PA X [e] ta) (hs : starEach [e] X.env = [(false, eval e X.env)] := by rfl) :
    PI X (.Tuple elts kk tpos) (.Call (.Name "enumerate" p) [e] [] pos) (zEnum X.K ta) := by
  constructor
  intro pins s σ H R I h
  refine Call_ (ld_blt I hg hm boot_enumerate (PyProof.Rows.callWith_type1 (thn (ha.run pos pins s σ H _ I h) ?_) hs rfl))
  rintro us s1 ⟨vs, H1, I1, r1, a, xs, rfl, q⟩
  cases r1 with
  | cons r rr =>
    cases rr
    cases r
    have foot : ∀ b ∈ [s1.heap.objs.size + 1, s1.heap.objs.size], FpOk X pins H1 b := fun b hb => by
      have le : s1.heap.objs.size ≤ b := by
        simp only [List.mem_cons, List.not_mem_nil, or_false] at hb
        omega
      exact I1.fpOk le (I1.hok.fresh le)
    rcases q with ⟨hq, q⟩ | ⟨hq, q⟩
    · obtain ⟨its, rv, p', hz⟩ := I1.list hq
      refine call_enumerate_list p'.isList fun h' he hit hsz hk => wpAny_pyIter_enum he ?_
      exact ⟨s1.heap.objs.size + 1, [s1.heap.objs.size + 1, s1.heap.objs.size], _, _, H1, rfl, I1.kept (t' := s1.toks) hk, turn_enum a (s1.heap.objs.size + 1) s1.heap.objs.size, ⟨⟨.none, he⟩, hit, Nat.succ_ne_self _⟩, foot, q⟩
    · obtain ⟨its, rv, p', hz⟩ := I1.tuple hq
      refine enum1_call (begins_tuple a its.toArray) (isTup_tuple p') fun h' he hit hk => wpAny_pyIter_enum he ?_
      exact ⟨s1.heap.objs.size + 1, [s1.heap.objs.size + 1, s1.heap.objs.size], _, _, H1, rfl, I1.kept (t' := s1.toks) hk, turn_zeT a (s1.heap.objs.size + 1) s1.heap.objs.size, ⟨⟨.none, he⟩, ⟨_, hit, rfl, rfl⟩, Nat.succ_ne_self _⟩, foot, q⟩
theorem walk_zeT {K : PySem.W.Frag} {a : Addr} {xs : List V} : Walk (ZeT K a) xs.length (fun H => SqT K H a xs) (YPair (fun i => some (.int (i : Nat))) (fun i => xs[i]?)) := by
  refine ⟨fun i _ hi q => ⟨xs, xs[i], q, by simp [hi]⟩, fun _ q => ⟨xs, q, Nat.le_refl _⟩, fun i H v H' _ q y => ?_⟩
  obtain ⟨T, x, h1, h2, h3, h4⟩ := y
  exact ⟨T, .int (i : Nat), x, h1, h2, h3, rfl, h4 xs q⟩
end Z
namespace Z
open PySem PySem.Spec PyProof.Rows L2

/-! ### {e for x in xs if t}: a set of keys (texts, ints) -/
def scGo (P : Program) (w : World) (J : It) (g : TG) (tt : TT) (te : TE) (vs : List Nat) (σ : St) (H1 : Hp) (Q : VK) : Prop := ∀ D, H1 D = none →
  ∃ W : Nat → Nat → Hp → Prop, (∃ m, W 0 m (upd H1 D (SetK P w D (fun _ => false) 0))) ∧ ∀ i m H, W i m H →
    (J.stop i H ∧ Q (.ref D) H) ∨ (J.go i H ∧ ∃ Nx : Hp → Prop, (∀ H', Nx H' → ∃ m', m' < m ∧ W (i + 1) m' H') ∧
      ∀ x H', J.yld i H x H' → g x (wipe σ vs) H' fun σ2 H2 => wipe σ2 vs = wipe σ vs ∧ tt σ2 H2 fun b H3 =>
        if b = true then te σ2 H3 fun y H4 => rSAddK P w (.ref D) [y] H4 fun _ H5 => Nx H5 else Nx H3)
def zSc (P : Program) (w : World) (wi : TI) (g : TG) (tt : TT) (te : TE) (vs : List Nat) : TE := fun σ H Q => wi σ H fun J H1 => scGo P w J g tt te vs σ H1 Q
/-- an empty set -/
abbrev set0 (w : World) : Obj := { cls := .type "set", dict := none, data := .set #[] 0 (.fresh 0 0 (!w.params.followText "set-order")) }
theorem set0_key {P : Program} {w : World} {h : Heap} : (h.push (set0 w)).SetOf (mixKind P w) h.objs.size (fun _ => false) 0 := by
  refine ⟨_, #[], 0, _, Heap.get?_push_size _ rfl, ⟨rfl, rfl, rfl⟩, rfl, ?_, ?_, by decide, rfl, rfl⟩
  · intro e he
    simp at he
  · intro k
    simp
section
variable {X : Cx} {elt tg iter : Expr} {ifs : List Expr} {scope : Scope} {own : List (Str × Nat)} {wi : TI} {g : TG} {tt : TT} {te : TE}
/-- where the block runs -/
abbrev blkAt (X : Cx) (s : Shared) (H : Hp) (scope : Scope) (fp : List Addr) : Cx :=
  X.blk s H scope (compEnvC scope (cellsFrom (s.heap.objs.size + 1) scope.names (cloFrom X.env.cells scope.names [])) s.heap.objs.size X.env) fp
abbrev InBlk (X : Cx) (scope : Scope) (e : Expr → Cx → Prop) (a : Expr) : Prop := ∀ (s : Shared) (H : Hp) (C : Addr) (cl : List (Str × Addr)) (fp : List Addr), e a (X.blk s H scope (compEnvC scope cl C X.env) fp)
theorem sc_turns {s3 : Shared} {fp : List Addr} {it D : Addr} {ce : Env} {J : It} {tn : Nat → Heap → Prop} {vs : List Nat} {σ : St} {Q : VK} {pos : Pos} {s4 : Shared} {m0 : Nat} {H3 : Hp} {R : Result → Shared → Prop} {W : Nat → Nat → Hp → Prop}
    (hc : X.calm = true) (T : Turn X.prog X.w X.K tg J fp it tn) (hg : PG (X.blk s3 H3 scope ce fp) tg g) (ht : PTs (X.blk s3 H3 scope ce fp) ifs tt) (he : PE (X.blk s3 H3 scope ce fp) elt te)
    (turn : ∀ i m H, W i m H → (J.stop i H ∧ Q (.ref D) H) ∨ (J.go i H ∧ ∃ Nx : Hp → Prop, (∀ H', Nx H' → ∃ m', m' < m ∧ W (i + 1) m' H') ∧
      ∀ x H', J.yld i H x H' → g x (wipe σ vs) H' fun σ2 H2 => wipe σ2 vs = wipe σ vs ∧ tt σ2 H2 fun b H3 =>
        if b = true then te σ2 H3 fun y H4 => rSAddK X.prog X.w (.ref D) [y] H4 fun _ H5 => Nx H5 else Nx H3))
    (I4 : Inv (X.blk s3 H3 scope ce fp) [] (wipe σ vs) H3 s4) (st4 : tn 0 s4.heap) (nfp : ∀ b ∈ fp, H3 b = none) (w0 : W 0 m0 H3)
    (out : ∀ H5 s6, Inv (X.blk s3 H3 scope ce fp) [] (wipe σ vs) H5 s6 → Q (.ref D) H5 → R (.ok .next) s6) :
    codeAny (model X.prog X.w) X.A (.compLoop (.SetComp elt [⟨tg, iter, ifs, 0⟩] scope pos) 0 (.ref it) (.ref D) ce) R s4 := by
  refine PpSet.compLoopS_any (fun n s' => ∃ i H', Inv (X.blk s3 H3 scope ce fp) [] (wipe σ vs) H' s' ∧ tn i s'.heap ∧ (∀ b ∈ fp, H' b = none) ∧ W i n H') ?_ m0 ⟨0, H3, I4, st4, nfp, w0⟩
  have stat : ∀ {σ' : St} {H' : Hp} {s' : Shared}, Inv (X.blk s3 H3 scope ce fp) [] σ' H' s' → (∀ b ∈ fp, H' b = none) → ∀ b ∈ fp, FpOk (X.blk s3 H3 scope ce fp) [] H' b := by
    intro σ' H' s' I' hn b hb
    obtain ⟨x1, x2⟩ := I'.ok.exf b hb
    refine ⟨hn b hb, x1, I'.ok.exfs b hb, .inl hb, fun x c e => x2 x c e, fun p hp => ?_⟩
    simp at hp
  rintro n s5 ⟨i, H5, I5, st5, n5, w5⟩
  rcases turn i n H5 w5 with ⟨stop, qq⟩ | ⟨go, Nx, hNx, step⟩
  · refine thnF (T.done (X.blk s3 H3 scope ce fp) rfl rfl rfl hc i [] s5 _ H5 (fun _ _ => False) I5 (stat I5 n5) st5 stop) ?_
    rintro r s6 ⟨rfl, I6⟩
    exact out H5 s6 I6 qq
  · refine thnF (T.item (X.blk s3 H3 scope ce fp) rfl rfl rfl hc i [] s5 _ H5 (fun _ _ => False) I5 (stat I5 n5) st5 go) ?_
    rintro r s6 ⟨u, rfl, h6⟩
    refine thnF h6 ?_
    rintro _ s7 ⟨x, H7, I7, r7, y7, st7, n7⟩
    have I7' := I7.pinned (stat I7 n7) (T.obj _ _ st7)
    refine thnF (hg.run _ s7 _ H7 x u _ I7' r7 (step x H7 y7)) ?_
    rintro _ s8 ⟨σ8, H8, I8, hw8, q8⟩
    refine thnF (ht.run _ s8 σ8 H8 _ I8 q8) ?_
    rintro b s9 ⟨H9, I9, q9⟩
    have fin : ∀ {s' : Shared} {H' : Hp}, Inv (X.blk s3 H3 scope ce fp) ([] ++ pinsAt fp s7.heap) σ8 H' s' → Nx H' →
        ∃ m, m < n ∧ ∃ i H', Inv (X.blk s3 H3 scope ce fp) [] (wipe σ vs) H' s' ∧ tn i s'.heap ∧ (∀ b ∈ fp, H' b = none) ∧ W i m H' := by
      intro s' H' I' nx
      obtain ⟨m', hm, w'⟩ := hNx H' nx
      have pin' : ∀ b ∈ fp, ∀ o, s7.heap.get? b = some o → s'.heap.get? b = some o ∧ H' b = none := fun b hb o e => by
        obtain ⟨z1, z2, _⟩ := I'.pin (b, o) (List.mem_append_right _ (List.mem_append_right _ (mem_pinsAt hb e)))
        exact ⟨z1, z2⟩
      have hl : (wipe σ vs).length = σ8.length := by rw [← hw8, wipe_length]
      refine ⟨m', hm, i + 1, H', (I'.unpinned (pins := [])).weak hl ?_, T.keep _ _ _ st7 fun b hb o e => (pin' b hb o e).1, ?_, w'⟩
      · intro j v e
        rw [← hw8] at e
        exact (wipe_some e).1
      · intro b hb
        obtain ⟨o, e, _⟩ := T.obj _ _ st7 b hb
        exact (pin' b hb o e).2
    cases b
    · simp only [Bool.false_eq_true, if_false] at q9 ⊢
      exact fin I9 q9
    · simp only [if_true] at q9 ⊢
      refine thnF (he.run _ s9 σ8 H9 _ I9 q9) ?_
      rintro z s10 ⟨yv, H10, I10, r10, q10⟩
      refine thnF (mt_saddK _ s10 σ8 H10 (.ref D) [yv] (.ref D) [z] _ I10 rfl (.cons r10 .nil) q10) ?_
      rintro _ s11 ⟨_, H11, I11, _, nx⟩
      exact fin I11 nx
theorem sc_run {pins : List (Addr × Obj)} {s : Shared} {σ : St} {H : Hp} {Q : VK} {pos pos' : Pos} {use : Option (Value → Sem Unit)} {Qf : Value → Shared → Prop} (hc : X.calm = true) (hN : X.N.Nodup) (I : Inv X pins σ H s) (hi : PI X tg iter wi) (ok : BlkOk X.N X.env.scope scope own)
    (hg : ∀ (s : Shared) (H : Hp) (C : Addr) (cl : List (Str × Addr)) (fp : List Addr), PG (X.blk s H scope (compEnvC scope cl C X.env) fp) tg g)
    (ht : ∀ (s : Shared) (H : Hp) (C : Addr) (cl : List (Str × Addr)) (fp : List Addr), PTs (X.blk s H scope (compEnvC scope cl C X.env) fp) ifs tt)
    (he : ∀ (s : Shared) (H : Hp) (C : Addr) (cl : List (Str × Addr)) (fp : List Addr), PE (X.blk s H scope (compEnvC scope cl C X.env) fp) elt te)
    (hs : ∀ x, foldedSetIterable iter X.env x = pure x) (h : zSc X.prog X.w wi g tt te (own.map (·.2)) σ H Q)
    (done : ∀ D C s' m H', Inv X pins σ H' s' → Q (.ref D) H' → s'.heap.Ns C m → FpOk X pins H' C → compPost (model X.prog X.w) X.A X.xe use Qf (.ref D) C (.ok .next) s') :
    wpAny (model X.prog X.w) X.A (comprehension (.SetComp elt [⟨tg, iter, ifs, 0⟩] scope pos) scope X.env pos' (newSet (.type "set")) false (eval iter X.env) use) Qf X.xe s := by
  have hfree : ∀ y ∈ scope.names, y.2 = .free → ∃ c, X.env.cells.lookup y.1 = some c := by
    intro y hy e
    rcases ok.free y hy e with k | k
    · exact I.ok.has _ (.inl k)
    · exact I.ok.has _ (.inr k)
  refine wpAny_comprehension_free (use := use) rfl hs (closure_ok hfree) ok.kind (fun y hy e => by rw [ok.uniq y hy, e]) (thn (hi.run pins s σ H _ I h) fun xv s1 hx => thn hx ?_)
  rintro itv s2 ⟨it, fp, tn, J, H2, rfl, I2, T, st2, f2, q⟩
  refine PpSet.newSet_ok (newEnv_comp ?_)
  have hDn : H2 s2.heap.objs.size = none := I2.hok.fresh (Nat.le_refl _)
  obtain ⟨W, ⟨m0, w0⟩, turn⟩ := q _ hDn
  -- the new set is known
  have I3 : Inv X pins σ (upd H2 s2.heap.objs.size (SetK X.prog X.w s2.heap.objs.size (fun _ => false) 0)) { s2 with heap := s2.heap.push (set0 X.w) } :=
    I2.laid (t' := s2.toks) (fun b o e => Heap.get?_push_of_some _ e) (Nat.le_refl _) (setK_new set0_key)
  have f3 : ∀ b ∈ fp, FpOk X pins (upd H2 s2.heap.objs.size (SetK X.prog X.w s2.heap.objs.size (fun _ => false) 0)) b ∧ b < (s2.heap.push (set0 X.w)).objs.size := by
    intro b hb
    obtain ⟨o, e, _⟩ := T.obj _ _ st2 b hb
    have lt := Heap.lt_size e
    refine ⟨⟨?_, (f2 b hb).2⟩, by rw [Heap.size_push]; exact Nat.lt_succ_of_lt lt⟩
    rw [upd_ne (Nat.ne_of_lt lt)]
    exact (f2 b hb).1
  have st3 : tn 0 (s2.heap.push (set0 X.w)) := T.keep _ _ _ st2 fun b _ o e => Heap.get?_push_of_some _ e
  generalize hs3 : ({ s2 with heap := s2.heap.push (set0 X.w) } : Shared) = s3 at I3
  have h3 : s3.heap = s2.heap.push (set0 X.w) := by rw [← hs3]
  rw [← h3] at f3 st3
  generalize hH3 : upd H2 s2.heap.objs.size (SetK X.prog X.w s2.heap.objs.size (fun _ => false) 0) = H3 at I3 f3 w0
  have I4 := block_start I3 ok hN f3
  show codeAny _ _ (.compStart (.SetComp elt [⟨tg, iter, ifs, 0⟩] scope pos) 0 (.ref it) (.ref s2.heap.objs.size) (compEnvC scope (cellsFrom (s3.heap.objs.size + 1) scope.names (cloFrom X.env.cells scope.names [])) s3.heap.objs.size X.env)) (compPost (model X.prog X.w) X.A X.xe use Qf (.ref s2.heap.objs.size) s3.heap.objs.size) { s3 with heap := pushCells (s3.heap.push { cls := .type "dict", data := .dict #[] }) scope.names }
  have st4 : tn 0 (pushCells (s3.heap.push { cls := .type "dict", data := .dict #[] }) scope.names) := T.keep _ _ _ st3 fun b _ o e => pushCells_keeps _ _ _ _ (Heap.get?_push_of_some _ e)
  have nfp : ∀ b ∈ fp, H3 b = none := fun b hb => (f3 b hb).1.1
  have pg := hg s3 H3 s3.heap.objs.size (cellsFrom (s3.heap.objs.size + 1) scope.names (cloFrom X.env.cells scope.names [])) fp
  have pt := ht s3 H3 s3.heap.objs.size (cellsFrom (s3.heap.objs.size + 1) scope.names (cloFrom X.env.cells scope.names [])) fp
  have pe := he s3 H3 s3.heap.objs.size (cellsFrom (s3.heap.objs.size + 1) scope.names (cloFrom X.env.cells scope.names [])) fp
  generalize hce : compEnvC scope (cellsFrom (s3.heap.objs.size + 1) scope.names (cloFrom X.env.cells scope.names [])) s3.heap.objs.size X.env = ce at I4 pg pt pe ⊢
  have cL : ce.locals = s3.heap.objs.size := by
    rw [← hce]
    rfl
  have out : ∀ H5 s6, Inv (X.blk s3 H3 scope ce fp) [] (wipe σ (own.map (·.2))) H5 s6 → Q (.ref s2.heap.objs.size) H5 →
      compPost (model X.prog X.w) X.A X.xe use Qf (.ref s2.heap.objs.size) s3.heap.objs.size (.ok .next) s6 := by
    intro H5 s6 I6 qq
    have I7 : Inv X pins σ H5 s6 := I3.call' (ch := fp) I6.os I6.base I6.hok I6.bare fun b hb => by
      obtain ⟨⟨_, g1, _, g3, g4, g5⟩, _⟩ := f3 b hb
      exact ⟨g3, g1, g4, g5⟩
    have nC : H5 s3.heap.objs.size = none := by
      have z : H5 ce.locals = none := I6.free
      rwa [cL] at z
    obtain ⟨m, hn, _⟩ := I6.loc
    have hn : s6.heap.Ns ce.locals m := hn
    rw [cL] at hn
    exact done _ _ s6 m H5 I7 qq hn (I3.fpOk (Nat.le_refl _) nC)
  have loop := sc_turns (elt := elt) (iter := iter) (pos := pos) hc T pg pt pe turn I4 st4 nfp w0 out
  exact PpSet.codeAny_compStart_set loop (T.self X.A 0 _ _ _ st4 loop)
theorem pez_sc {pos : Pos} (hc : X.calm = true) (hN : X.N.Nodup) (hi : PI X tg iter wi) (ok : BlkOk X.N X.env.scope scope own)
    (hg : ∀ (s : Shared) (H : Hp) (C : Addr) (cl : List (Str × Addr)) (fp : List Addr), PG (X.blk s H scope (compEnvC scope cl C X.env) fp) tg g)
    (ht : ∀ (s : Shared) (H : Hp) (C : Addr) (cl : List (Str × Addr)) (fp : List Addr), PTs (X.blk s H scope (compEnvC scope cl C X.env) fp) ifs tt)
    (he : ∀ (s : Shared) (H : Hp) (C : Addr) (cl : List (Str × Addr)) (fp : List Addr), PE (X.blk s H scope (compEnvC scope cl C X.env) fp) elt te)
    (hs : ∀ x, foldedSetIterable iter X.env x = pure x := by intro _; rfl) :
    PE X (.SetComp elt [⟨tg, iter, ifs, 0⟩] scope pos) (zSc X.prog X.w wi g tt te (own.map (·.2))) := by
  constructor
  intro pins s σ H Q I h
  rw [PpSet.eval_SetComp]
  refine sc_run hc hN I hi ok hg ht he hs h fun D C s' m H' I' q hn f => ⟨m, hn, fun h2 sb => ?_⟩
  obtain ⟨g0, g1, g2, g3, g4, g5⟩ := f
  exact ⟨.ref D, H', I'.turned (t' := s'.toks) (fun b o hb e => (sb.2 b hb).trans e) g0 g1 g3 g4 g5, rfl, q⟩
/-- name = {..} on one line -/
theorem psz_setSc {i : Nat} {y : Str} {py pos spos : Pos} (hc : X.calm = true) (hN : X.N.Nodup) (hy : X.N[i]? = some y) (hyl : X.env.scope.names.lookup y = some .local)
    (hsw : swapsWith (.SetComp elt [⟨tg, iter, ifs, 0⟩] scope pos) (some (.Name y py)) spos.line X.env = pure true) (hi : PI X tg iter wi) (ok : BlkOk X.N X.env.scope scope own)
    (hg : ∀ (s : Shared) (H : Hp) (C : Addr) (cl : List (Str × Addr)) (fp : List Addr), PG (X.blk s H scope (compEnvC scope cl C X.env) fp) tg g)
    (ht : ∀ (s : Shared) (H : Hp) (C : Addr) (cl : List (Str × Addr)) (fp : List Addr), PTs (X.blk s H scope (compEnvC scope cl C X.env) fp) ifs tt)
    (he : ∀ (s : Shared) (H : Hp) (C : Addr) (cl : List (Str × Addr)) (fp : List Addr), PE (X.blk s H scope (compEnvC scope cl C X.env) fp) elt te)
    (hs : ∀ x, foldedSetIterable iter X.env x = pure x := by intro _; rfl) :
    PS X (.Assign [.Name y py] (.SetComp elt [⟨tg, iter, ifs, 0⟩] scope pos) spos) (tAsg (zSc X.prog X.w wi g tt te (own.map (·.2))) (gName i)) := by
  constructor
  intro pins s σ H D I h
  rw [exec_Assign_Name_used _ _ _ _ hsw]
  refine wpAny_bind (wpAny_standAt (wpAny_bind ?_))
  have h : zSc X.prog X.w wi g tt te (own.map (·.2)) σ H (fun x H1 => gName i x σ H1 D.nx) := h
  show wpAny _ X.A (do let _ ← comprehension (.SetComp elt [⟨tg, iter, ifs, 0⟩] scope pos) scope X.env (firstIterPos [⟨tg, iter, ifs, 0⟩] pos) (newSet (.type "set")) false (eval iter X.env) (some (assign (.Name y py) X.env))) _ _ s
  refine wpAny_bind (thn (sc_run (Qf := fun _ s' => SP X pins D .next s') hc hN I hi ok hg ht he hs h ?_) fun _ s' hq => wpAny_pure (wpAny_pure hq))
  intro L C s' m H' I' q hn f
  show wpAny _ _ (assign (.Name y py) X.env (.ref L)) _ _ _
  refine wpAny_assign_Name (store_ok2 (v := V.ref L) I' hN hy (.inl hyl) rfl (fun s2 I2 ha => ?_) (.inr hyl))
  obtain ⟨a, sb, ha⟩ := ha
  obtain ⟨g0, g1, g2, g3, g4, g5⟩ := f
  have nCa : C ≠ a := by
    rcases ha with z | z
    · rw [z]
      exact g1
    · exact fun e => g4 y a z e.symm
  exact ⟨m, hn.sameBut sb nCa, fun h3 sb3 => ⟨_, H', I2.turned (t' := s2.toks) (fun b o hb e => (sb3.2 b hb).trans e) g0 g1 g3 g4 g5, q⟩⟩
theorem sw_sc {gs : List Comprehension} {pos py : Pos} {y : Str} {l : Nat} {env : Env} (hk : env.scope.kind = .function) (hy : env.scope.names.lookup y = some .local) (hl : (py.line == pos.line) = true)
    (ha : (scope.names.any fun (n, k) => n == y && (k == .local || k == .cell)) = false) : swapsWith (.SetComp elt gs scope pos) (some (.Name y py)) l env = pure true := by
  have e1 : env.kindOf y = some .local := hy
  have e2 : env.blockKind = .function := by
    unfold Env.blockKind
    rw [hk]
    rfl
  unfold swapsWith
  simp only [e1, e2, ha, Expr.pos, hl]
  rfl
end
end Z
namespace Z
open PySem PySem.Spec PyProof.Rows L2

theorem passN {X : Cx} : Passes (L2.CX X.prog X.w) X (fun _ _ _ => False) := fun pins σ H s e s' I h => by
  obtain ⟨_, _, _, _, _, _, _, _, _, _, _, _, z⟩ := h
  exact False.elim z
section
variable {X : Cx}
/-! ### k in d, d a dict -/
def zDIn (neg : Bool) : R2 := fun x y H Q => ∃ a o, y = .ref a ∧ DGet H a x o ∧ Q (.bl (if neg = true then !o.isSome else o.isSome)) H
theorem op_zDIn (hu : X.A.units + 1 < cLine) : OpR X (compareOp .In) (zDIn false) := by
  intro pins s σ H x y v u Q I rx ry h
  obtain ⟨a, o, rfl, g, q⟩ := h
  obtain rfl : u = Value.ref a := ry
  exact d_in hu I g rx fun s2 I2 => ⟨.bl o.isSome, H, I2, rfl, q⟩
theorem op_zDNin (hu : X.A.units + 1 < cLine) : OpR X (compareOp .NotIn) (zDIn true) := by
  intro pins s σ H x y v u Q I rx ry h
  obtain ⟨a, o, rfl, g, q⟩ := h
  obtain rfl : u = Value.ref a := ry
  exact d_notIn hu I g rx fun s2 I2 => ⟨.bl (!o.isSome), H, I2, rfl, q⟩

/-! ### == and in of own instances -/
variable {n : Nat} {C f : Addr} {sp : Sp}
/-- one == other, both instances of the class at C -/
def zEqO (C : Addr) (sp : Sp) : R2 := fun x y H Q => ∃ a b dx dy fs gs, x = .ref a ∧ y = .ref b ∧ H a = some (.ins C dx fs) ∧ H b = some (.ins C dy gs) ∧
  sp [x, y] H (fun v H1 => ∃ c, v = .bl c ∧ Q v H1) fun _ _ _ => False
theorem op_zEqO (F : FnR X.prog X.w X.K X.mg X.base (L2.CX X.prog X.w) n f sp) (hs : PySem.W.findIn X.K (.ref C) "__eq__" = some (some (.ref f))) (hf : PySem.W.isFn X.K (.ref f) = true) (hr : Room n X.A) :
    OpR X (compareOp .Eq) (zEqO C sp) := by
  intro pins s σ H x y v u Q I rx ry h
  obtain ⟨a, b, dx, dy, fs, gs, rfl, rfl, ha, hb, h⟩ := h
  obtain rfl : v = Value.ref a := rx
  obtain rfl : u = Value.ref b := ry
  obtain ⟨mA, J1, _⟩ := ins_get I.hok ha
  obtain ⟨mB, J2, _⟩ := ins_get I.hok hb
  obtain ⟨od1, J1, _⟩ := J1.look
  obtain ⟨od2, J2, _⟩ := J2.look
  obtain ⟨m, hF⟩ := I.fr
  show wpAny (model X.prog X.w) X.A (richCompare .Eq (.ref a) (.ref b)) (EP X pins σ Q) X.xe s
  refine PySem.W.cmp_K (op := .Eq) (tb := .ref C) hr.units0 hF I.ok.mod.kin J1 J2.type (by simp [PySem.W.notFirst]) hs hf ?_
  refine thn (wpAny_call (run_fnR (us := [.ref a, .ref b]) (vs := [.ref a, .ref b]) F hr passN I (.cons rfl (.cons rfl .nil)) h)) ?_
  rintro w s2 ⟨z, H2, I2, rz, c, rfl, q⟩
  obtain rfl : w = Value.bool c := rz
  exact ⟨.bl c, H2, I2, rfl, q⟩
/-- x in o, o an instance of the class at C -/
def zInO (C : Addr) (sp : Sp) : R2 := fun x y H Q => ∃ b dy gs, y = .ref b ∧ H b = some (.ins C dy gs) ∧ sp [y, x] H (fun v H1 => ∃ c, v = .bl c ∧ Q v H1) fun _ _ _ => False
theorem op_zInO (F : FnR X.prog X.w X.K X.mg X.base (L2.CX X.prog X.w) n f sp) (hs : PySem.W.findIn X.K (.ref C) "__contains__" = some (some (.ref f))) (hf : PySem.W.isFn X.K (.ref f) = true) (hr : Room n X.A) :
    OpR X (compareOp .In) (zInO C sp) := by
  intro pins s σ H x y v u Q I rx ry h
  obtain ⟨b, dy, gs, rfl, hb, h⟩ := h
  obtain rfl : u = Value.ref b := ry
  obtain ⟨mB, J2, _⟩ := ins_get I.hok hb
  obtain ⟨od2, J2, _⟩ := J2.look
  obtain ⟨m, hF⟩ := I.fr
  refine PySem.W.in_K hF I.ok.mod.kin J2 hs hf ?_
  refine thn (wpAny_call (run_fnR (us := [.ref b, v]) (vs := [.ref b, x]) F hr passN I (.cons rfl (.cons rx .nil)) h)) ?_
  rintro w s2 ⟨z, H2, I2, rz, c, rfl, q⟩
  obtain rfl : w = Value.bool c := rz
  exact wpAny_pure ⟨.bl c, H2, I2, rfl, q⟩

/-! ### C(*xs), C in a local name -/
variable {k i : Nat} {x : Str} {e : Expr} {te : TE} {p pos sp_ : Pos} {E : XK}
def zNewL (K : PySem.W.Frag) (i : Nat) (C : Addr) (sp : Sp) (E : XK) (te : TE) : TE := fun σ H Q => σ[i]? = some (some (.ref C)) ∧ te σ H fun y H1 => ∃ a xs, y = .ref a ∧ (SqT K H1 a xs ∨ SqL K H1 a xs) ∧
  ∀ o dx, H1 o = none → H1 dx = none → dx ≠ o → sp (.ref o :: xs) (upd (upd H1 dx (.own o)) o (.ins C dx [])) (fun v H2 => v = .non ∧ Q (.ref o) H2) E
theorem pe_zNewL (M : Mk X.K C f) (F : FnR X.prog X.w X.K X.mg X.base (L2.CX X.prog X.w) k f sp) (hr : Room (k + 1) X.A) (hN : X.N[i]? = some x) (hv : Vis X.env.scope x) (hx : Passes (L2.CX X.prog X.w) X E) (he : PE X e te)
    (hdb : (x == ("__debug__" : Str)) = false := by decide) (hcd : (x == ("__classdict__" : Str)) = false := by decide) (hst : starEach [.Starred e sp_] X.env = [(true, eval e X.env)] := by rfl) :
    PE X (.Call (.Name x p) [.Starred e sp_] [] pos) (zNewL X.K i C sp E te) := by
  constructor
  intro pins s σ H Q I h
  obtain ⟨hs, ht⟩ := h
  refine wpAny_Call_Name_kw (thn ((pe_var (pos := p) hN hv hdb hcd).run pins s σ H (fun v H1 => v = .ref C ∧ H1 = H) I ⟨.ref C, hs, rfl, rfl⟩) ?_)
  rintro u s1 ⟨v, H1, I1, r1, rfl, rfl⟩
  cases r1
  refine PySem.W.callWith_S (h₀ := X.base) I.ok.mod.kin M.kp (thn (he.run pins s1 σ _ _ I1 ht) ?_) hst
  rintro w s2 ⟨y, H2, I2, ry, a, xs, rfl, hxs, q⟩
  obtain rfl : w = Value.ref a := ry
  exact StX.star_any I2 hxs fun us s3 I3 rv => ⟨I3.kIn, StX.run_makeR M F hr hx I3 rv q⟩

/-! ### isinstance of an own instance -/
structure CIns (K : PySem.W.Frag) (C : Addr) : Prop where
  cl : Cls K C
  ha : PySem.W.findIn K (.ref C) "__class__" = some (some (.builtin "object.__class__"))
  hn : PySem.W.specialIn K (.builtin "object.__class__") "__get__" = some (some (.builtin "getset_descriptor.__get__"))
  ht : PySem.W.takesIn K (.builtin "object.__class__") = some true
  hm : PySem.W.mroIn K C (.type "object") = some true
theorem isi_own {K : PySem.W.Frag} {C : Addr} {H : Hp} {Q : VK} {a dx : Addr} {fs : List (Str × V)} (c : CIns K C) (ea : H a = some (.ins C dx fs)) (q : Q (.bl true) H) : rIsi K [.ref a, .ref C] H Q :=
  ⟨_, _, .ref C, .ref C, true, rfl, .own C, .base (.ins ea c.cl c.ha c.hn c.ht c.hm), by simp [PySem.W.kitOne], q⟩
end
section
variable {X : Cx}
/-! ### tuple(x) -/
def zTupOf (K : PySem.W.Frag) : List V → Hp → VK → Prop := fun xs H Q => match xs with
  | [.ref p] => ∃ ys, (SqL K H p ys ∧ ∀ l, H l = none → Q (.ref l) (upd H l (.tup ys))) ∨ (SqT K H p ys ∧ Q (.ref p) H)
  | _ => False
theorem call_tupZ : CallR X (.type "tuple") (zTupOf X.K) := by
  intro pins s σ H xs us Q I r h
  unfold zTupOf at h
  split at h
  · obtain ⟨ys, h⟩ := h
    exact call_tuple_of pins s σ H _ us Q I r ⟨_, ys, rfl, h⟩
  · exact h.elim
end

/-! ### def f(a, *xs) -/
def spStar (n : Nat) (sp : Sp) : Sp := fun vs H Q E => ∃ ws rest, vs = ws ++ rest ∧ ws.length = n ∧ rest.length ≤ sizeLine ∧ ∀ p, H p = none → sp (ws ++ [.ref p]) (upd H p (.tup rest)) Q E
section
variable {P : Program} {w : World} {K : PySem.W.Frag} {mg : Str → Option Value} {base : Heap}
theorem okStar {x qual pv : Str} {st : Stmt} {f : Addr} {fd : FuncData} {N ps : List Str} {k : Nat} {sp : Sp} (F : Fun K x qual st f fd) (S : FnScope N (ps ++ [pv]) (defScope st))
    (hb : ∀ (kV doc pm : Value) (an : Option Addr) (cdv ct : Value) (us rest : List Value), us.length = ps.length →
      bindArgs (PySem.W.fnOf x qual (defArgs st) (defBody st) (defScope st) .none kV doc pm an cdv ct) ⟨us ++ rest, []⟩ = (newTuple rest >>= fun t => pure (ps.zip us ++ [(pv, t)])))
    (hbody : ∀ (cdv : Value) (A : Around) (outer : List Env) (s : Shared) (H : Hp) (vs : List V) (Q : VK) (E : XK),
      Room k (A.deeper (envOfC qual (defScope st) s.heap.objs.size f cdv)) → sp vs H Q E →
      ∃ t, PSs (cxOf (L2.CX P w) P w K mg base N qual (defScope st) f cdv A outer s H E) (defBody st) t ∧ t { nx := fun _ H' => Q .non H', rt := Q } (start N vs) H) :
    FnR P w K mg base (L2.CX P w) (k + 1) f (spStar ps.length sp) := by
  obtain ⟨oc, od, kV, doc, pm, an, cdv, ct, osl, rfl, lk, hcd⟩ := F.ex
  exact StX.fn_star (sp := sp) lk hcd S StX.cxUp (hb kV doc pm an cdv ct) fun A outer s H vs Q E hr hs => hbody cdv A outer s H vs Q E hr hs
end

/-- a set of keys over a walk -/
theorem sc_z {P : Program} {w : World} {J : It} {n : Nat} {G : Hp → Prop} {Y : Nat → Hp → V → Hp → Prop} (wk : Walk J n G Y) {g : TG} {tt : TT} {te : TE} {vs : List Nat} {σ : St} {H1 : Hp} {Q : VK} (Pv : Addr → Nat → Hp → Prop)
    (h0 : ∀ D, H1 D = none → Pv D 0 (upd H1 D (SetK P w D (fun _ => false) 0))) (hG : ∀ D i H, H1 D = none → i ≤ n → Pv D i H → G H)
    (hs : ∀ D i x H H', H1 D = none → i < n → Pv D i H → Y i H x H' → g x (wipe σ vs) H' fun σ2 H2 => wipe σ2 vs = wipe σ vs ∧ tt σ2 H2 fun b H3 =>
      if b = true then te σ2 H3 fun y H4 => rSAddK P w (.ref D) [y] H4 fun _ H5 => Pv D (i + 1) H5 else Pv D (i + 1) H3)
    (hd : ∀ D H, H1 D = none → Pv D n H → Q (.ref D) H) : scGo P w J g tt te vs σ H1 Q := by
  intro D hD
  refine ⟨fun i m H => m = n - i ∧ i ≤ n ∧ Pv D i H, ⟨n, by simp, Nat.zero_le _, h0 D hD⟩, ?_⟩
  rintro i m H ⟨rfl, hi, p⟩
  have q := hG D i H hD hi p
  rcases Nat.lt_or_ge i n with lt | ge
  · exact .inr ⟨wk.goes i H lt q, Pv D (i + 1), fun H' p' => ⟨n - (i + 1), by omega, rfl, lt, p'⟩, fun x H' y => hs D i x H H' hD lt p (wk.yields i H x H' lt q y)⟩
  · obtain rfl : i = n := Nat.le_antisymm hi ge
    exact .inl ⟨wk.stops H q, hd D H hD p⟩

theorem seq_of {a b : TS} {D : Ends} {σ : St} {H : Hp} (h : a { D with nx := b D } σ H) : tSeq a b D σ H := h
theorem ifS_of {t : TT} {a b : TS} {D : Ends} {σ : St} {H : Hp} (c : Bool) (ht : ∀ Q : Bool → Hp → Prop, Q c H → t σ H Q) (h1 : c = true → a D σ H) (h2 : c = false → b D σ H) : tIfS t a b D σ H := ht _ (zite h1 h2)
end Z
namespace Z
open PySem PySem.Spec PyProof.Rows L2
open AutoSeq1 (wpAny_loadPart')
open MeetsSeq

/-! ### x in a list, each question at its own state -/
section
variable {prog : Program} {w : World} {A : Around} {E : Value → Shared → Prop}
/-- at each turn the list is read anew; the items up to here were not it -/
def HasI (prog : Program) (w : World) (A : Around) (E : Value → Shared → Prop) (l : Addr) (x : Value) (N : Nat) (I : Nat → Shared → Prop) : Prop :=
  ∀ i s, I i s → ∃ (items : Array Value) (n : Nat), s.heap.get? l = some { cls := .type "list", data := .seq items n } ∧ items.size = N ∧
    ∀ h1 : i < items.size, wpAny (model prog w) A.in1 (eqBool items[i] x) (fun r s' => r = false ∧ I (i + 1) s') E s
theorem has_loop {R : Result → Shared → Prop} (l : Addr) (x : Value) (N : Nat) (I : Nat → Shared → Prop) (hl : HasI prog w A (fun e s' => R (.error e) s') l x N I) (fin : ∀ s, I N s → R (.ok (.ret (.bool false))) s) (k : Nat) :
    ∀ i : Nat, N - i = k → i ≤ N → ∀ s, I i s → wpAny (model prog w) A.in1 (Builtin.«list.__contains__.loop» ⟨[.ref l, x, rawInt i], []⟩) (GQ.FinOf prog w A R) (fun e s' => R (.error e) s') s := by
  induction k with
  | zero =>
    intro i hk hi s h
    obtain ⟨items, n, hg, hs, _⟩ := hl _ _ h
    obtain rfl : i = N := by omega
    have hR := fin s h
    obtain ⟨hp, g, d, tk, os⟩ := s
    wp_walk using wpAny_loadPart' hg
    have e1 : items[((i : Nat) : Int).toNat]? = none := by simp; omega
    rw [e1]
    wp_walk
    exact hR
  | succ k ih =>
    intro i hk hi s h
    obtain ⟨items, n, hg, hs, turn⟩ := hl _ _ h
    have lt : i < items.size := by omega
    have ht := turn lt
    obtain ⟨hp, g, d, tk, os⟩ := s
    wp_walk using wpAny_loadPart' hg
    have e1 : items[((i : Nat) : Int).toNat]? = some items[i] := by simp [lt]
    rw [e1]
    refine wpAny_bind (wpAny_mono ht ?_ fun _ _ z => z)
    rintro r s2 ⟨rfl, h2⟩
    have hrec := ih (i + 1) (by omega) (by omega) s2 h2
    obtain ⟨hp2, g2, d2, tk2, os2⟩ := s2
    have hc : ((i : Int) + 1) = ((i + 1 : Nat) : Int) := by omega
    wp_walk
    rw [hc]
    exact ⟨plainId_quiet plain_contains_loop _, codeAny_builtin entry_contains_loop (by
      rw [Around.under_plainId plain_contains_loop _]
      exact hrec)⟩
theorem in_none {l : Addr} {x : Value} {N : Nat} {s : Shared} {Q : Value → Shared → Prop} (I : Nat → Shared → Prop) (hl : HasI prog w A E l x N I) (h : I 0 s) (fin : ∀ s, I N s → Q (.bool false) s) :
    wpAny (model prog w) A (compareOp .In x (.ref l)) Q E s := by
  obtain ⟨items, n, hg, hs, _⟩ := hl _ _ h
  have hT : s.TypeIs (.ref l) "list" := ⟨_, hg, rfl⟩
  show wpAny _ A (do return .bool (← contains (.ref l) x)) Q E s
  refine wpAny_bind (wpAny_contains_slot hT F.slot_list_contains (wpAny_mono (GQ.call_here (Q := fun v s' => v = .bool false ∧ Q (.bool false) s') F.slot_list_contains hT F.entry_list_contains (F.args_list_contains_2 _ _) ?_) ?_ fun _ _ z => z))
  · have loop := has_loop (prog := prog) (w := w) (A := A) (R := wants (fun v s' => v = .bool false ∧ Q (.bool false) s') E) l x N I hl (fun s' h' => ⟨rfl, fin s' h'⟩) (N - 0) 0 rfl (Nat.zero_le _) s h
    obtain ⟨hp, g, d, tk, os⟩ := s
    wp_walk using wpAny_loadPart' hg
    exact ⟨plainId_quiet plain_contains_loop _, codeAny_builtin entry_contains_loop (by
      rw [Around.under_plainId plain_contains_loop _]
      exact loop)⟩
  · rintro v s' ⟨rfl, q⟩
    exact wpAny_truthy_bool (wpAny_pure q)
end
/-! ### == of another thing and an own instance -/
section
variable {prog : Program} {w : World} {A : Around} {E : Value → Shared → Prop} {s : Shared} {K : PySem.W.Frag} {x C f : Addr} {ox : Obj} {od : Option Obj} {v : Value} {T ida : String}
theorem rc_other {Q : Value → Shared → Prop} (hT : s.TypeIs v T) (slot : Slot T "__eq__" ida) (J : PySem.W.InstAt s.heap x ox C od) (X : K.In s.heap) (hsub : PySem.W.subIn K (.ref C) (.type T) = some false)
    (hs : PySem.W.findIn K (.ref C) "__eq__" = some (some (.ref f))) (hf : PySem.W.isFn K (.ref f) = true) (hu : A.units < cLine)
    (dec : ∀ Q' : Value → Shared → Prop, Q' .notImplemented s → wpAny (model prog w) A (call (.builtin ida) [v, .ref x]) Q' E s)
    (h : wpAny (model prog w) A (call (.ref f) [.ref x, v]) (PySem.W.CmpBack Q) E s) : wpAny (model prog w) A (richCompare .Eq v (.ref x)) Q E s := by
  have one : wpAny (model prog w) A (tryCompare (.ref x) "__eq__" v) (fun r s' => ∃ u, r = some u ∧ Q u s') E s := by
    unfold tryCompare
    refine wpAny_bind (PySem.W.ifBound_K X J hs hf (wpAny_mono h (fun u s' hv => ?_) fun _ _ e => e))
    cases u <;> first | exact hv.elim | exact wpAny_pure ⟨_, rfl, hv⟩
  rcases hi : cmpInfo CmpOp.Eq with ⟨sym, f', r⟩
  have e1 : f' = "__eq__" := by cases hi; rfl
  have e2 : r = "__eq__" := by cases hi; rfl
  subst e1 e2
  simp only [richCompare, hi, hT.oneThing_none]
  try with_reducible refine wpAny_holding ?_
  refine wpAny_bind (wpAny_cRoomFor hu ?_)
  refine wpAny_bind (wpAny_typeOf hT (wpAny_bind (J.type.here ?_)))
  have ne : (Value.type T != Value.ref C) = true := by simp
  simp only [ne, if_true]
  refine wpAny_bind ((PySem.W.looks_subIn X hsub).here ?_)
  simp only [Bool.false_eq_true, if_false, Bool.not_false, if_true]
  refine wpAny_bind (m := tryCompare v _ (.ref x)) (wpAny_tryCompare_declines hT slot (dec _ ⟨rfl, ?_⟩))
  refine wpAny_bind (wpAny_mono one (fun r s' z => ?_) fun _ _ e => e)
  obtain ⟨u, rfl, q⟩ := z
  exact wpAny_pure q
end

section
variable {prog : Program} {w : World} {A : Around} {E : Value → Shared → Prop} {s : Shared} {x : Addr} {ox : Obj}
theorem dec_none {Q : Value → Shared → Prop} (h : Q .notImplemented s) : wpAny (model prog w) A (call (.builtin "NoneType.__eq__") [.none, .ref x]) Q E s :=
  call_gives F.slot_NoneType_eq rfl F.entry_NoneType_eq (F.args_NoneType_eq_2 _ _) (SeqAt.NoneType___eq___none_ref_0 x) h
theorem dec_str {z : Str} {t : Tok} {Q : Value → Shared → Prop} (hx : s.heap.get? x = some ox) (hd : ox.data = .plain) (h : Q .notImplemented s) : wpAny (model prog w) A (call (.builtin "str.__eq__") [.str z t, .ref x]) Q E s := by
  refine GQ.call_here F.slot_str_eq (typeIs_str s z t) F.entry_str_eq (F.args_str_eq_2 _ _) ?_
  obtain ⟨cls, dd, data, sl⟩ := ox
  simp only at hd
  subst hd
  obtain ⟨hp, g, d, tk, os⟩ := s
  wp_walk using wpAny_load hx
  exact h
theorem dec_list {l : Addr} {items : Array Value} {n : Nat} {Q : Value → Shared → Prop} (hl : s.heap.get? l = some { cls := .type "list", data := .seq items n })
    (hi : ∀ (A' : Around) (Q' : Bool → Shared → Prop) (E' : Value → Shared → Prop), Q' false s → wpAny (model prog w) A' (isInstance (.ref x) (.type "list")) Q' E' s) (h : Q .notImplemented s) :
    wpAny (model prog w) A (call (.builtin "list.__eq__") [.ref l, .ref x]) Q E s := by
  refine GQ.call_here F.slot_list_eq ⟨_, hl, rfl⟩ F.entry_list_eq (F.args_list_eq_2 _ _) ?_
  obtain ⟨hp, g, d, tk, os⟩ := s
  have hi' : ∀ {A' : Around} {Q' : Bool → Shared → Prop} {E' : Value → Shared → Prop}, Q' false ⟨hp, g, d, tk, os⟩ → wpAny (model prog w) A' (isInstance (.ref x) (.type "list")) Q' E' ⟨hp, g, d, tk, os⟩ := fun q => hi _ _ _ q
  wp_walk using wpAny_loadPart' hl, hi'
  exact h
theorem dec_tuple {l : Addr} {items : Array Value} {n : Nat} {dd : Option Addr} {sl : Array (Option Value)} {Q : Value → Shared → Prop} (hl : s.heap.get? l = some { cls := .type "tuple", dict := dd, data := .seq items n, slots := sl })
    (hi : ∀ (A' : Around) (Q' : Bool → Shared → Prop) (E' : Value → Shared → Prop), Q' false s → wpAny (model prog w) A' (isInstance (.ref x) (.type "tuple")) Q' E' s) (h : Q .notImplemented s) :
    wpAny (model prog w) A (call (.builtin "tuple.__eq__") [.ref l, .ref x]) Q E s := by
  refine GQ.call_here F.slot_tuple_eq ⟨_, hl, rfl⟩ F.entry_tuple_eq (F.args_tuple_eq_2 _ _) ?_
  obtain ⟨hp, g, d, tk, os⟩ := s
  have hi' : ∀ {A' : Around} {Q' : Bool → Shared → Prop} {E' : Value → Shared → Prop}, Q' false ⟨hp, g, d, tk, os⟩ → wpAny (model prog w) A' (isInstance (.ref x) (.type "tuple")) Q' E' ⟨hp, g, d, tk, os⟩ := fun q => hi _ _ _ q
  wp_walk using wpAny_loadPart' hl, hi'
  exact h
end

theorem eqBool_of {prog : Program} {w : World} {A : Around} {E : Value → Shared → Prop} {s : Shared} {u : Value} {x : Addr} {Q : Bool → Shared → Prop} (hu : u = .none ∨ (∃ z t, u = .str z t) ∨ ∃ b, u = .ref b ∧ b ≠ x)
    (h : wpAny (model prog w) A (richCompare .Eq u (.ref x)) (fun v s' => ∃ r, v = .bool r ∧ Q r s') E s) : wpAny (model prog w) A (eqBool u (.ref x)) Q E s := by
  have fin : ∀ v s', (∃ r, v = .bool r ∧ Q r s') → wpAny (model prog w) A (truthOfDropped v) Q E s' := by
    rintro v s' ⟨r, rfl, q⟩
    exact wpAny_truthy_bool q
  rcases hu with rfl | ⟨z, t, rfl⟩ | ⟨b, rfl, hb⟩
  · unfold eqBool
    refine wpAny_holding (wpAny_ite_split (fun e => ?_) fun _ => wpAny_bind (wpAny_mono h fin fun _ _ z => z))
    exact absurd (eq_of_beq e) (fun z => by cases z)
  · unfold eqBool
    refine wpAny_holding (wpAny_ite_split (fun e => ?_) fun _ => wpAny_bind (wpAny_mono h fin fun _ _ z => z))
    exact absurd (eq_of_beq e) (fun z => by cases z)
  · unfold eqBool
    refine wpAny_holding (wpAny_ite_split (fun e => ?_) fun _ => wpAny_bind (wpAny_mono h fin fun _ _ z => z))
    exact absurd (eq_of_beq e) (fun z => by cases z; exact hb rfl)
/-- None, a text, a list, a tuple -/
def Oth (K : PySem.W.Frag) (H : Hp) (v : V) : Prop := v = .non ∨ (∃ z, v = .str z) ∨ (∃ b ys, v = .ref b ∧ H b = some (.lst ys)) ∨ ∃ b ys, v = .ref b ∧ SqT K H b ys
structure OwnNe (K : PySem.W.Frag) (C f : Addr) : Prop where
  none : PySem.W.subIn K (.ref C) (.type "NoneType") = some false
  str : PySem.W.subIn K (.ref C) (.type "str") = some false
  list : PySem.W.subIn K (.ref C) (.type "list") = some false
  tup : PySem.W.subIn K (.ref C) (.type "tuple") = some false
  at_ : PySem.W.findIn K (.ref C) "__eq__" = some (some (.ref f))
  fn : PySem.W.isFn K (.ref f) = true
def zInL (K : PySem.W.Frag) (C : Addr) (sp : Sp) : R2 := fun x y H Q => ∃ a dx fs l xs, x = .ref a ∧ y = .ref l ∧ H a = some (.ins C dx fs) ∧ H l = some (.lst xs) ∧
  (∀ v ∈ xs, Oth K H v ∧ ∀ H', Same H H' → sp [.ref a, v] H' (fun r H2 => r = .bl false ∧ Same H' H2) fun _ _ _ => False) ∧ ∀ H', Same H H' → Q (.bl false) H'
section
variable {X : Cx} {n : Nat} {C f : Addr} {sp : Sp}
theorem op_zInL (F : FnR X.prog X.w X.K X.mg X.base (L2.CX X.prog X.w) n f sp) (o : OwnNe X.K C f) (hr : Room (n + 1) X.A) : OpR X (compareOp .In) (zInL X.K C sp) := by
  intro pins s σ H x y v u Q I rx ry h
  obtain ⟨a, dx, fs, l, xs, rfl, rfl, ha, hl, hv, q⟩ := h
  obtain rfl : v = Value.ref a := rx
  obtain rfl : u = Value.ref l := ry
  refine in_none (N := xs.length) (fun i s' => ∃ H', Inv X pins σ H' s' ∧ Same H H') ?_ ⟨H, I, Same.refl H⟩ ?_
  · rintro i s1 ⟨H1, I1, z1⟩
    obtain ⟨_, its, m, rv, ln, hg⟩ := I1.lstM (z1 _ _ hl)
    refine ⟨its.toArray, m, hg, by simp [ln], fun h1 => ?_⟩
    have k1 : i < xs.length := by
      rw [ln]
      simpa using h1
    obtain ⟨u, hu, ru⟩ := rv.get (List.getElem?_eq_getElem k1)
    have eu : its.toArray[i] = u := by
      have h1' : i < its.length := by simpa using h1
      rw [List.getElem?_eq_getElem h1'] at hu
      simpa using Option.some.inj hu
    rw [eu]
    obtain ⟨ot, sp1⟩ := hv _ (List.getElem_mem k1)
    have ha1 := z1 _ _ ha
    obtain ⟨ox, od, J, hp⟩ := StX.insC_at I1 (.inr ⟨dx, fs, ha1⟩)
    have room : Room n X.A.in1 := hr.in1
    have hun : X.A.in1.units < cLine := room.units0
    -- the question itself
    have ask : ∀ Q' : Value → Shared → Prop, (∀ s2 H2, Inv X pins σ H2 s2 → Same H H2 → Q' (.bool false) s2) → wpAny (model X.prog X.w) X.A.in1 (call (.ref f) [.ref a, u]) (PySem.W.CmpBack Q') X.xe s1 := by
      intro Q' hQ
      have e := I1.env0
      have e0 : Env0 X.prog X.w X.K X.mg X.base X.A.in1 X.stack s1 H1 := ⟨e.frames, e.mod, e.bs, e.bsz, e.funs, e.frf, e.hok, e.bare⟩
      refine wpAny_call (codeAny_mono (F X.A.in1 X.stack s1 H1 [.ref a, u] [.ref a, xs[i]] _ _ room e0 (.cons (show RelV (.ref a) (.ref a) from rfl) (.cons ru .nil)) (sp1 H1 z1)) fun r s2 hq => ?_)
      rcases r with er | fl
      · exact passN pins σ H1 s1 er s2 I1 hq
      · cases fl with
        | ret w =>
          obtain ⟨z, H2, I2, rz, ez, z2⟩ := I1.after hq
          subst ez
          obtain rfl : w = Value.bool false := rz
          exact hQ s2 H2 I2 (z1.trans z2)
        | next => exact hq.elim
        | brk => exact hq.elim
        | cont => exact hq.elim
    have inst : ∀ T : String, PySem.W.subIn X.K (.ref C) (.type T) = some false → ∀ (A' : Around) (Q' : Bool → Shared → Prop) (E' : Value → Shared → Prop), Q' false s1 → wpAny (model X.prog X.w) A' (isInstance (.ref a) (.type T)) Q' E' s1 := by
      intro T hT A' Q' E' q'
      simp only [isInstance]
      exact wpAny_bind (J.type.here ((PySem.W.looks_subIn I1.kIn hT).here q'))
    have back : ∀ s2 H2, Inv X pins σ H2 s2 → Same H H2 → ∃ r, Value.bool false = .bool r ∧ r = false ∧ ∃ H', Inv X pins σ H' s2 ∧ Same H H' := fun s2 H2 I2 z2 => ⟨false, rfl, rfl, H2, I2, z2⟩
    generalize xs[i] = v at ot sp1 ru
    rcases ot with rfl | ⟨z, rfl⟩ | ⟨b, ys, rfl, hb⟩ | ⟨b, ys, rfl, hb⟩
    · obtain rfl : u = Value.none := ru
      exact eqBool_of (.inl rfl) (rc_other (T := "NoneType") rfl PySem.F.slot_NoneType_eq J I1.kIn o.none o.at_ o.fn hun (fun Q' q' => dec_none q') (ask _ back))
    · obtain ⟨t, rfl⟩ := ru
      exact eqBool_of (.inr (.inl ⟨_, _, rfl⟩)) (rc_other (T := "str") rfl PySem.F.slot_str_eq J I1.kIn o.str o.at_ o.fn hun (fun Q' q' => dec_str J.at_ hp q') (ask _ back))
    · obtain rfl : u = Value.ref b := ru
      have hb1 := z1 _ _ hb
      obtain ⟨_, its2, m2, _, _, hg2⟩ := I1.lstM hb1
      have ne : b ≠ a := fun z => by rw [z, ha1] at hb1; cases hb1
      exact eqBool_of (.inr (.inr ⟨_, rfl, ne⟩)) (rc_other (T := "list") ⟨_, hg2, rfl⟩ PySem.F.slot_list_eq J I1.kIn o.list o.at_ o.fn hun (fun Q' q' => dec_list hg2 (inst "list" o.list) q') (ask _ back))
    · obtain rfl : u = Value.ref b := ru
      obtain ⟨its2, _, p2, _⟩ := I1.tuple (show SqT X.K H1 b ys from by
        rcases hb with (h | ⟨o, h⟩) | h
        · exact .inl (.inl (z1 _ _ h))
        · exact .inl (.inr ⟨o, z1 _ _ h⟩)
        · exact .inr h)
      obtain ⟨ob, e1, c1, m2, d1⟩ := p2
      obtain ⟨cls, dd, data, sl⟩ := ob
      simp only at c1 d1
      subst c1 d1
      have ne : b ≠ a := fun z => by
        rw [z, J.at_] at e1
        cases e1
        have := J.cls
        cases this
      exact eqBool_of (.inr (.inr ⟨_, rfl, ne⟩)) (rc_other (T := "tuple") ⟨_, e1, rfl⟩ PySem.F.slot_tuple_eq J I1.kIn o.tup o.at_ o.fn hun (fun Q' q' => dec_tuple e1 (inst "tuple" o.tup) q') (ask _ back))
  · rintro s2 ⟨H2, I2, z2⟩
    exact ⟨.bl false, H2, I2, rfl, q H2 z2⟩
end

/-! ### C() of a class whose __init__ takes any number; str(int) -/
theorem pe_zMakeR0 {X : Cx} {k : Nat} {f C : Addr} {sp : Sp} {E : XK} {x : Str} {p pos : Pos} (M : Mk X.K C f) (F : FnR X.prog X.w X.K X.mg X.base (L2.CX X.prog X.w) k f sp) (hr : Room (k + 1) X.A) (hg : Gl X x) (hm : X.mg x = some (.ref C))
    (hx : Passes (L2.CX X.prog X.w) X E) (hdb : (x == ("__debug__" : Str)) = false := by decide) : PE X (.Call (.Name x p) [] [] pos) (StX.tMakeR C sp E tNil) := by
  constructor
  intro pins s σ H Q I h
  refine wpAny_Call_Name_kw (ld_glob I hg hm ?_ hdb)
  exact PySem.W.callWith_K0 I.kIn M.kp (StX.run_makeR (us := []) M F hr hx I .nil h)
def rStrI : List V → Hp → VK → Prop := fun xs H Q => ∃ i : Int, xs = [.int i] ∧ i.natAbs.log2 < 1920 ∧ Q (.str (toString i)) H
theorem call_strZ {X : Cx} : CallR X (.type "str") rStrI := call_str_int
end Z
namespace Z
open PySem PySem.Spec PyProof.Rows L2
/-! ### C.m(..), m a staticmethod of the class C -/
structure SMet (K : PySem.W.Frag) (C : Addr) (mc : Value) (m : Str) (p g : Addr) : Prop where
  at_ : PySem.W.findCls K (.ref C) mc m = some (.get (.builtin "staticmethod.__get__") (.ref p) .none (.ref C))
  rc : ∃ rest, PySem.W.recIn K p "staticmethod" = some (.ref g :: rest)
  kp : PySem.W.keepIn K (.ref g) = true
def tSMeth (C : Addr) (sp : Sp) (E : XK) (ta : TE) (t : TA) : TE := fun σ H Q => ta σ H fun x H1 => x = .ref C ∧ t σ H1 fun vs H2 => sp vs H2 Q E
section
variable {X : Cx} {CX : CXT} {k : Nat} {C p g : Addr} {mc : Value} {sp : Sp} {E : XK} {o e : Expr} {es : List Expr} {m : Str} {pos apos : Pos} {ta : TE} {t : TA} {pl : Sem Bool}
theorem pe_smeth (he : PE X o ta) (r : ClX.CRead X.K C mc) (c : SMet X.K C mc m p g) (F : FnR X.prog X.w X.K X.mg X.base CX k g sp) (hr : Room k X.A) (hx : Passes CX X E) (ha : PA X (e :: es) t)
    (hst : starEach (e :: es) X.env = (false, eval e X.env) :: starEach es X.env := by rfl) (hpl : (backTo pos (starEach es X.env)).any (·.1) = false := by rfl)
    (ht : eval (.Call (.Attribute o m apos) (e :: es) [] pos) X.env = (do
      let ov ← eval o X.env
      standAt apos.atName
      let (f, first) ← holding [ov] (getMethod ov m pl)
      callWith pos f first (backTo pos (starEach (e :: es) X.env)) (backToKw pos (keywordEach [] X.env))) := by rfl) :
    PE X (.Call (.Attribute o m apos) (e :: es) [] pos) (tSMeth C sp E ta t) := by
  refine ⟨fun pins s σ H Q I h => ?_⟩
  refine PySem.W.methodCall_KW (pl := pl) (thn (he.run pins s σ H _ I h) fun u s1 ⟨x, H1, I1, rx, ex, q⟩ => ?_) ht
  subst ex
  obtain rfl : u = Value.ref C := rx
  obtain ⟨rest, hp⟩ := c.rc
  refine PySem.W.method_cls I1.kIn r.ga (PySem.W.cls_bind I1.kIn r.rd c.at_ ?_)
  refine wpAny_call (PySem.W.sm_get (s := { s1 with toks := s1.toks + 1 }) (show X.K.In s1.heap from I1.kIn) hp (PySem.W.handed_on rfl ?_))
  have I2 := I1.tok (t := s1.toks + 1)
  refine PySem.W.callWith_K (h₀ := X.base) I2.ok.mod.kin c.kp (thn (ha.run pos pins _ σ H1 _ I2 q) ?_) hst hpl
  rintro us s3 ⟨vs, H2, I3, rv, q2⟩
  exact ⟨I3.kIn, wpAny_call (run_fnR (us := us) (vs := vs) F hr hx I3 rv q2)⟩
end
/-! ### int of a text, a cut of a text -/
def rIntS : List V → Hp → VK → Prop := fun xs H Q => match xs with
  | [.str a] => ∃ n, PySem.intText? a = some n ∧ a.length ≤ 640 ∧ Q (.int n) H
  | xs => rInt1 xs H Q
theorem call_intS {X : Cx} : CallR X (.type "int") rIntS := by
  intro pins s σ H xs us Q I r h
  unfold rIntS at h
  split at h
  · obtain ⟨n, h1, h2, q⟩ := h
    exact call_int_str pins s σ H _ us Q I r ⟨_, n, rfl, h1, h2, q⟩
  · exact call_intZ pins s σ H _ us Q I r h
end Z
namespace Z
open PySem PySem.Spec PyProof.Rows L2
/-! ### an exception as a thing that is tracked -/
def ExV (cls : Value) (d : Option Addr) (a : Addr) : HO := .ext fun h => ∃ (oe : Obj) (vs : Array Value), h.get? a = some oe ∧ Zc cls d oe ∧ oe.data = .fields vs
theorem exV_ok {P : Program} {w : World} {H : Hp} {h : Heap} {a : Addr} {cls : Value} {d : Option Addr} {oe : Obj} (e : h.get? a = some oe) (z : Zc cls d oe) (f : ∃ vs, oe.data = .fields vs) : ObjOk P w H h a (ExV cls d a) := by
  obtain ⟨vs, f⟩ := f
  exact ⟨⟨oe, vs, e, z, f⟩, ⟨oe, e⟩, fun _ _ ⟨o, v, q, r⟩ k => ⟨o, v, k o q, r⟩⟩
section
variable {X : Cx} {pins : List (Addr × Obj)} {σ : St} {H : Hp} {s : Shared} {a : Addr} {o : HO}
/-- what stands there, new since the entry, is tracked from now on -/
theorem track (I : Inv X pins σ H s) (hn : H a = none) (hc : ∃ ob vs, s.heap.get? a = some ob ∧ ob.data = .fields vs) (n0 : ∀ ob, X.s_0.heap.get? a = some ob → a ∉ X.ex → False) (nL : a ≠ X.env.locals)
    (np : ∀ p ∈ X.pn ++ pins, p.1 ≠ a) (new : ObjOk X.prog X.w (upd H a o) s.heap a o) : Inv X pins σ (upd H a o) s := by
  have ne : ∀ {b : Addr} {u : HO}, H b = some u → b ≠ a := fun e z => by rw [z, hn] at e; cases e
  have up : ∀ {b : Addr} {u : HO}, H b = some u → upd H a o b = some u := fun e => by rw [upd_ne (ne e)]; exact e
  have B := I.base
  refine ⟨I.ok, I.os, I.bare, ⟨B.keep, B.slot, ?_, B.there, ?_, ?_, ?_⟩, I.loc, I.cell, ?_, ?_, ?_, ?_, I.len⟩
  · intro b ob e n hx
    have nb : b ≠ a := fun z => n0 ob (z ▸ e) (z ▸ hx)
    rw [upd_ne nb]
    exact B.free b ob e n hx
  · intro b xs e
    exact up (B.tups b xs e)
  · intro b ob u e
    exact up (B.frzs b ob u e)
  · intro b ps e
    obtain ⟨m, q⟩ := B.tbls b ps e
    exact ⟨m, up q⟩
  · rw [upd_ne nL.symm]
    exact I.free
  · intro x c e
    have nc : c ≠ a := fun z => by
      obtain ⟨v, ob, e1, d1⟩ := I.cell x c e
      obtain ⟨ob2, vs, e2, d2⟩ := hc
      rw [z, e2] at e1
      cases e1
      rw [d2] at d1
      cases d1
    rw [upd_ne nc]
    exact I.freeC x c e
  · intro p hp
    obtain ⟨e, n, r⟩ := I.pin p hp
    exact ⟨e, by rw [upd_ne (np p hp)]; exact n, r⟩
  · intro b u e
    by_cases hb : b = a
    · subst hb
      rw [upd_same] at e
      cases e
      exact new
    · rw [upd_ne hb] at e
      exact (I.hok b u e).stay (fun _ _ _ q => q) (fun _ q => up q) fun _ _ q => up q
end
/-! ### its fields, its class -/
structure ExT (K : PySem.W.Frag) (C : Addr) : Prop where
  xf : XfC K C
  cl : (PySem.W.clsIn K C).isSome = true
  ha : PySem.W.findIn K (.ref C) "__class__" = some (some (.builtin "object.__class__"))
  hn : PySem.W.specialIn K (.builtin "object.__class__") "__get__" = some (some (.builtin "getset_descriptor.__get__"))
  ht : PySem.W.takesIn K (.builtin "object.__class__") = some true
  hm : PySem.W.mroIn K C (.type "object") = some true
/-- an exception of the class at C with these fields -/
def ExA (H : Hp) (a C : Addr) (fs : List (Str × V)) : Prop := ∃ dd, H a = some (ExV (.ref C) (some dd) a) ∧ H dd = some (.xd fs)
theorem ExA.same {H H' : Hp} {a C : Addr} {fs : List (Str × V)} (s : Same H H') (h : ExA H a C fs) : ExA H' a C fs := by
  obtain ⟨dd, h1, h2⟩ := h
  exact ⟨dd, s _ _ h1, s _ _ h2⟩
def tXv (C : Addr) (f : Str) (te : TE) : TE := fun σ H Q => te σ H fun x H1 => ∃ (a : Addr) (fs : List (Str × V)) (v : V), x = .ref a ∧ ExA H1 a C fs ∧ fs.lookup f = some v ∧ Q v H1
/-- isinstance(e, c) -/
def rIsV (K : PySem.W.Frag) : List V → Hp → VK → Prop := fun xs H Q => ∃ (a C : Addr) (fs : List (Str × V)) (c : V) (u : Value) (b : Bool), xs = [.ref a, c] ∧ ExA H a C fs ∧ ExT K C ∧ ClsV c u ∧ PySem.W.kitOne K (.ref C) u = some b ∧ Q (.bl b) H
def rIsVT (K : PySem.W.Frag) : List V → Hp → VK → Prop := fun xs H Q => ∃ (a C tp : Addr) (fs : List (Str × V)) (cs : List V) (us : List Value) (b : Bool), xs = [.ref a, .ref tp] ∧ H tp = some (.tup cs) ∧ Paired ClsV cs us ∧ ExA H a C fs ∧ ExT K C ∧
  PySem.W.kitAny K (.ref C) us = some b ∧ Q (.bl b) H
section
variable {X : Cx}
theorem exa_at {pins : List (Addr × Obj)} {σ : St} {H : Hp} {s : Shared} {a C : Addr} {fs : List (Str × V)} (I : Inv X pins σ H s) (h : ExA H a C fs) :
    ∃ (oe od : Obj) (mA : Str → Option Value), PySem.W.InstAt s.heap a oe C (some od) ∧ (∀ f, PySem.W.lookIn f od = some (mA f)) ∧ ∀ f, RelO (fs.lookup f) (mA f) := by
  obtain ⟨dd, e1, e2⟩ := h
  obtain ⟨⟨oe, vs, ho, hz, hd⟩, _, _⟩ := I.hok a _ e1
  obtain ⟨mA, ns, rel⟩ := (show ObjOk X.prog X.w H s.heap dd (.xd fs) from I.hok dd _ e2)
  obtain ⟨od, h1, h2⟩ := lookIn_ns ns
  refine ⟨oe, od, mA, ⟨ho, hz.1, ?_, ?_⟩, h2, rel⟩
  · unfold PySem.W.notCls
    rw [hd]
  · rw [hz.2]
    exact h1
theorem pe_xv {C : Addr} {e : Expr} {te : TE} {pos : Pos} {n : Str} (T : ExT X.K C) (hno : PySem.W.findIn X.K (.ref C) n = some none) (he : PE X e te) (hb : attributeBase e n X.env (eval e X.env) = eval e X.env := by rfl) :
    PE X (.Attribute e n pos) (tXv C n te) := by
  constructor
  intro pins s σ H Q I h
  refine attr_of hb (thn (he.run pins s σ H _ I h) ?_)
  rintro u s1 ⟨x, H1, I1, rx, a, fs, v, rfl, ha, hl, q⟩
  obtain rfl : u = Value.ref a := rx
  obtain ⟨oe, od, mA, J, lk, rel⟩ := exa_at I1 ha
  obtain ⟨u, hu, ru⟩ := RelO.some_of (v := v) (o := mA n) (by rw [← hl]; exact rel n)
  exact HandSPX.exc_get I1.kIn J T.xf.ga T.xf.gg T.xf.exC (PySem.W.findObj_own T.xf.hdC hno rfl (by rw [lk, hu])) (handed_of ru) ⟨v, H1, I1.tok _, ru, q⟩
theorem call_isV : CallR X (.builtin "isinstance") (rIsV X.K) := by
  intro pins s σ H xs us Q I r h
  obtain ⟨a, C, fs, c, cv, b, rfl, ha, T, k, e, q⟩ := h
  obtain ⟨u1, u2, rfl, r1, r2⟩ := vals2 r
  have e2 := k.eq r2
  subst e2
  obtain rfl : u1 = Value.ref a := r1
  obtain ⟨oe, od, mA, J, _⟩ := exa_at I ha
  exact PySem.W.kia_one (PySem.W.kitx_exc T.cl T.xf.ga T.xf.gg T.xf.exC T.ha T.hn T.ht T.hm) I.kIn J e (fun z => nomatch z) fun tk => ⟨.bl b, H, I.tok tk, rfl, q⟩
theorem call_isVT : CallR X (.builtin "isinstance") (rIsVT X.K) := by
  intro pins s σ H xs us Q I r h
  obtain ⟨a, C, tp, fs, cs, ws, b, rfl, hT, k, ha, T, e, q⟩ := h
  obtain ⟨u1, u2, rfl, r1, r2⟩ := vals2 r
  obtain rfl : u1 = Value.ref a := r1
  obtain rfl : u2 = Value.ref tp := r2
  obtain ⟨oe, od, mA, J, _⟩ := exa_at I ha
  obtain ⟨_, its, rv, ⟨oc, od2, dt, sl⟩, h1, h2, n, h3⟩ := (show ObjOk X.prog X.w H s.heap tp (.tup cs) from I.hok tp _ hT)
  have e3 := ClsV.all k rv
  simp only at h2 h3
  subst e3 h2 h3
  exact PySem.W.kia_tup (PySem.W.kitx_exc T.cl T.xf.ga T.xf.gg T.xf.exC T.ha T.hn T.ht T.hm) I.kIn J h1 e (fun z => nomatch z) fun tk => ⟨.bl b, H, I.tok tk, rfl, q⟩
end
theorem kit_cls {K : PySem.W.Frag} {t : Value} {C : Addr} {b : Bool} (ne : (t == Value.ref C) = b) (hc : (PySem.W.clsIn K C).isSome = true) (ht : PySem.W.typeIn K (.ref C) = some (.type "type")) (hs : PySem.W.subIn K t (.ref C) = some b) : PySem.W.kitOne K t (.ref C) = some b := by
  unfold PySem.W.kitOne PySem.W.kitCls
  cases b with
  | true => rw [if_pos ne]
  | false =>
    rw [ne]
    simp [hc, ht, hs]
theorem kit_bt {K : PySem.W.Frag} {C : Addr} {T : String} {b : Bool} (hm : PySem.W.kitMeta T = true) (hs : PySem.W.subIn K (.ref C) (.type T) = some b) : PySem.W.kitOne K (.ref C) (.type T) = some b := by
  unfold PySem.W.kitOne PySem.W.kitCls
  rw [if_neg (by simp)]
  show (if PySem.W.kitMeta T = true then PySem.W.subIn K (.ref C) (.type T) else none) = some b
  rw [if_pos hm]
  exact hs
theorem kit_one {K : PySem.W.Frag} {t : Value} : PySem.W.kitOne K t t = some true := by
  unfold PySem.W.kitOne
  rw [if_pos (beq_self_eq_true _)]
theorem kit_ne {K : PySem.W.Frag} {D C : Addr} (h1 : PySem.W.subIn K (.ref D) (.ref D) = some true) (h2 : PySem.W.subIn K (.ref D) (.ref C) = some false) : (Value.ref D == Value.ref C) = false := by
  rw [beq_eq_false_iff_ne]
  intro e
  rw [← e, h1] at h2
  cases h2
/-! ### try: body / except x as n: suite, what is caught always of that class -/
def wAsV (K : PySem.W.Frag) (c : Value) (i : Nat) (ts : TS) (D : Ends) : WX := fun cls d σ H => PySem.W.exmOne K cls c = some true ∧
  ∀ a, H a = none → ts { nx := fun σ' H' => D.nx (σ'.set i none) H', rt := D.rt, bk := fun σ' H' => D.bk (σ'.set i none) H', ct := fun σ' H' => D.ct (σ'.set i none) H' } (σ.set i (some (.ref a))) (upd H a (ExV cls d a))
/-- the exception on the ground, its name still to be given -/
structure Gr (X : Cx) (pins : List (Addr × Obj)) (σ : St) (H : Hp) (cls : Value) (d : Option Addr) (a : Addr) (B : Heap) (s : Shared) : Prop where
  inv : Inv X pins σ H s
  fl : HandSPX.FlyingZ B (X.env :: X.outer) a (Zc cls d) s.heap
  new : H a = none
  n0 : ∀ ob, X.s_0.heap.get? a = some ob → a ∉ X.ex → False
  nL : a ≠ X.env.locals
  np : ∀ p ∈ X.pn ++ pins, p.1 ≠ a
theorem Gr.of {X : Cx} {pins : List (Addr × Obj)} {σ : St} {H : Hp} {cls : Value} {d : Option Addr} {a : Addr} {B : Heap} {sI s : Shared} (hs : X.stack = X.env :: X.outer) (hf : X.env.frame = some X.env.locals) (J : Inv X pins σ H sI)
    (nb : ∀ b o, sI.heap.get? b = some o → b ∉ frs X.stack → B.get? b = some o) (fl : HandSPX.FlyingZ B (X.env :: X.outer) a (Zc cls d) s.heap) (up : sI.heap.UpToSlots s.heap) (os : s.os = sI.os) (ag : AllBare s.gens) (na : H a = none) : Gr X pins σ H cls d a B s := by
  obtain ⟨oe, vs, he, hz, hd⟩ := fl.there
  have nfr : a ∉ frs (X.env :: X.outer) := fun hm => by
    obtain ⟨_, o2, e2, hn⟩ := fl.2.2.1.mem hm
    rw [he] at e2
    cases e2
    exact hn _ hd
  have gone : ∀ o, sI.heap.get? a = some o → False := fun o e => by
    have := nb a o e (by rw [hs]; exact nfr)
    rw [fl.2.1] at this
    cases this
  refine ⟨J.landed nb fl.1 up os ag, fl, na, fun ob e hx => ?_, fun z => ?_, fun p hp z => ?_⟩
  · obtain ⟨o2, q⟩ := J.base.there a ob e hx
    exact gone _ q
  · exact nfr (List.mem_filterMap.mpr ⟨X.env, List.mem_cons_self, by rw [hf, z]⟩)
  · obtain ⟨e, _⟩ := J.pin p hp
    rw [z] at e
    exact gone _ e
/-- into the suite, the exception tracked -/
theorem Gr.suite {X : Cx} {pins : List (Addr × Obj)} {σ : St} {H : Hp} {cls : Value} {d : Option Addr} {a : Addr} {B : Heap} {s : Shared} (G : Gr X pins σ H cls d a B s) : Inv (X.suite a (X.pn ++ pins)) [] σ (upd H a (ExV cls d a)) s := by
  obtain ⟨oe, vs, he, hz, hd⟩ := G.fl.there
  have T := track G.inv G.new ⟨oe, vs, he, hd⟩ G.n0 G.nL G.np (exV_ok he hz ⟨vs, hd⟩)
  exact ⟨T.ok.suite _ _, T.os, T.bare, T.base, T.loc, T.cell, T.free, T.freeC, fun p hp => T.pin p (by simpa using hp), T.hok, T.len⟩
theorem unsuite {X : Cx} {pins : List (Addr × Obj)} {σ : St} {H : Hp} {a : Addr} {s : Shared} (ok : X.Ok) (I : Inv (X.suite a (X.pn ++ pins)) [] σ H s) : Inv X pins σ H s :=
  ⟨ok, I.os, I.bare, I.base, I.loc, I.cell, I.free, I.freeC, fun p hp => I.pin p (by simpa using hp), I.hok, I.len⟩
section
variable {X : Cx} {x n : Str} {c : Value} {i : Nat} {body suite : List Stmt} {b₀ : Stmt} {np pos pos' : Pos} {tb : WX → TS} {ts : TS}
theorem ps_try_asV (hs : X.stack = X.env :: X.outer) (hf : X.env.frame = some X.env.locals) (hN : X.N.Nodup) (hi : X.N[i]? = some n) (hln : X.env.kindOf n = some .local) (hc : Names X x c)
    (hb : ∀ (W : WX) (pn : List (Addr × Obj)) (xe : Value → Shared → Prop), Takes (X.tr pn xe) W → PassesOwn (model X.prog X.w) X.A X.env xe → PSs (X.tr pn xe) body (tb W))
    (hsu : ∀ (a : Addr) (pn : List (Addr × Obj)), PSs (X.suite a pn) (b₀ :: suite) ts) :
    PS X (.Try body [.ExceptHandler (some (.Name x np)) (some n) (b₀ :: suite) pos'] [] [] pos) (fun D σ H => tb (wAsV X.K c i ts D) D σ H) := by
  constructor
  intro pins s σ H D I h
  have ok := I.ok
  -- behind the suite
  have out : ∀ (a : Addr) (f : Flow) (s6 : Shared), SP (X.suite a (X.pn ++ pins)) [] { nx := fun σ' H' => D.nx (σ'.set i none) H', rt := D.rt, bk := fun σ' H' => D.bk (σ'.set i none) H', ct := fun σ' H' => D.ct (σ'.set i none) H' } f s6 →
      wpAny (model X.prog X.w) X.A (do bindName X.env n .none; unbindBehindTheSuite X.env n pos') (fun _ s7 => SP X pins D f s7) X.xe s6 := by
    intro a f s6 q
    cases f with
    | next =>
      obtain ⟨σ6, H6, S6, q6⟩ := q
      exact gone_ok (unsuite ok S6) hN hi hln fun s7 J7 => ⟨_, _, J7, q6⟩
    | brk =>
      obtain ⟨σ6, H6, S6, q6⟩ := q
      exact gone_ok (unsuite ok S6) hN hi hln fun s7 J7 => ⟨_, _, J7, q6⟩
    | cont =>
      obtain ⟨σ6, H6, S6, q6⟩ := q
      exact gone_ok (unsuite ok S6) hN hi hln fun s7 J7 => ⟨_, _, J7, q6⟩
    | ret u =>
      obtain ⟨v6, σ6, H6, S6, r6, q6⟩ := q
      exact gone_ok (unsuite ok S6) hN hi hln fun s7 J7 => ⟨_, _, _, J7, r6, q6⟩
  -- behind the body
  have done : ∀ (f : Flow) (s1 : Shared), SP (X.tr (X.pn ++ pins) (fun e s₁ => wpAny (model X.prog X.w) X.A (noteFrame e X.env) (fun _ s₂ => wpAny (model X.prog X.w) X.A (setFlight e none) (fun _ s₃ =>
      wpAny (model X.prog X.w) X.A (handleBy e X.env [.ExceptHandler (some (.Name x np)) (some n) (b₀ :: suite) pos']) (SP X pins D) X.xe s₃) X.xe s₂) X.xe s₁)) [] D f s1 →
      (match f with | .next => wpAny (model X.prog X.w) X.A (execs [] X.env) (SP X pins D) X.xe s1 | f => SP X pins D f s1) := by
    intro f s1 q
    cases f with
    | next =>
      obtain ⟨σ2, H2, J2, q2⟩ := q
      exact wpAny_execs_nil ⟨σ2, H2, J2.ofTry ok, q2⟩
    | brk =>
      obtain ⟨σ2, H2, J2, q2⟩ := q
      exact ⟨σ2, H2, J2.ofTry ok, q2⟩
    | cont =>
      obtain ⟨σ2, H2, J2, q2⟩ := q
      exact ⟨σ2, H2, J2.ofTry ok, q2⟩
    | ret u =>
      obtain ⟨v, σ2, H2, J2, r, q2⟩ := q
      exact ⟨v, σ2, H2, J2.ofTry ok, r, q2⟩
  refine wpAny_Try_except (wpAny_mono ((hb (wAsV X.K c i ts D) (X.pn ++ pins) _ ?_ PassesOwn.looking).run [] s σ H D (I.toTry _) h) done fun _ _ q => q)
  rintro u s1 ⟨a, B, sI, pins2, σ1, H1, cls, d, rfl, J2, nb, up, sky, na, os, ag, hm, hy⟩
  have J := J2.ofTry (pins := pins) ok
  have frames : X.A.frames = some (X.env :: X.outer) := by rw [ok.frames, hs]
  refine Sky.land Zc.steady frames hf (show Sky B (X.env :: X.outer) a (Zc cls d) X.env.locals s1.heap by rw [← hs]; exact sky) fun h3 fl3 up3 => ?_
  have G3 : Gr X pins σ1 H1 cls d a B { s1 with heap := h3 } := Gr.of hs hf J nb fl3 (up.trans up3) os ag na
  have S3 := G3.suite
  obtain ⟨oe, vs, he, hz, _⟩ := fl3.there
  refine wpAny_handleBy_cons (codeAny_handlers_test ?_) (by intro q; cases q)
  have ty : PySem.W.Looks (model X.prog X.w) h3 (typeOf (.ref a)) cls := fun A Q E s k q => wpAny_typeOf_ref (k _ _ he) (by rw [hz.1]; exact q)
  have mt := PySem.W.exm_one (M := model X.prog X.w) G3.inv.kIn ty hm
  have nm : ∀ {Q E : Value → Shared → Prop}, Q c { s1 with heap := h3 } → wpAny (model X.prog X.w) (X.A.mark (some (.ref a))) (eval (.Name x np) X.env) Q E { s1 with heap := h3 } := by
    intro Q E q
    obtain ⟨hg, hd, h1 | ⟨h1, h2, h3⟩⟩ := hc
    · exact ld_glob (X := X.suite a (X.pn ++ pins)) S3 hg h1 q hd
    · exact ld_blt (X := X.suite a (X.pn ++ pins)) S3 hg h1 h2 q h3 hd
  refine nm (mt.here (codeAny_handlers_suite_as (HandSPX.lands_againZ fl3 fun h4 fl4 up4 => ?_)))
  have G4 : Gr X pins σ1 H1 cls d a B { s1 with heap := h4 } := Gr.of hs hf J nb fl4 ((up.trans up3).trans up4) os ag na
  refine store_ok (X := X.suite a (X.pn ++ pins)) (v := .ref a) G4.suite hN hi (.inl hln) rfl (fun s5 S5 => ?_) (.inr hln)
  exact wpAny_mono ((hsu a (X.pn ++ pins)).run [] s5 _ _ _ S5 (hy a na)) (fun f s6 q => out a f s6 q) fun _ _ z => z.elim
end
/-! ### exceptions out of C.m(..) and C(..), by the state of the slots -/
def tCMethS (C : Addr) (sp : Sp) (E : St → XK) (ta : TE) (t : TA) : TE := fun σ H Q => ClX.tCMeth C sp (E σ) ta t σ H Q
def tMakeRS (C : Addr) (sp : Sp) (E : St → XK) (t : TA) : TE := fun σ H Q => StX.tMakeR C sp (E σ) t σ H Q
section
variable {X : Cx} {gd : Bool} {k : Nat} {C f g p : Addr} {fd : FuncData} {ps : List Str} {mc : Value} {sp : Sp} {E : St → XK} {o e : Expr} {es : List Expr} {x m : Str} {pos apos np : Pos} {ta : TE} {t : TA} {pl : Sem Bool}
theorem pe_cmethS (he : PE X o ta) (r : ClX.CRead X.K C mc) (c : ClX.CMet X.K C mc m p g) (F : FnG gd X.prog X.w X.K X.mg X.base k g fd ps sp) (hr : Room k X.A) (hgu : gd = true → X.A.guards = some []) (hb : Binds X.K fd ps []) (hx : ∀ σ, PassesAt (L2.CX X.prog X.w) X σ (E σ)) (ha : PA X (e :: es) t)
    (hst : starEach (e :: es) X.env = (false, eval e X.env) :: starEach es X.env := by rfl) (hpl : (backTo pos (starEach es X.env)).any (·.1) = false := by rfl)
    (ht : eval (.Call (.Attribute o m apos) (e :: es) [] pos) X.env = (do
      let ov ← eval o X.env
      standAt apos.atName
      let (f, first) ← holding [ov] (getMethod ov m pl)
      callWith pos f first (backTo pos (starEach (e :: es) X.env)) (backToKw pos (keywordEach [] X.env))) := by rfl) :
    PE X (.Call (.Attribute o m apos) (e :: es) [] pos) (tCMethS C sp E ta t) := by
  constructor
  intro pins s σ H Q I h
  refine PySem.W.methodCall_KW (pl := pl) (thn (he.run pins s σ H _ I h) ?_) ht
  rintro u s1 ⟨z, H1, I1, rz, rfl, q⟩
  obtain rfl : u = Value.ref C := rz
  refine ClX.getmethcm_ok I1 r c fun s2 I2 => ClX.callwith_cm I2 (ClX.base_none I1 (Nat.le_refl _)) c.fi (thn (ha.run pos _ s2 σ H1 _ I2 q) ?_) hst hpl
  rintro us s3 ⟨vs, H2, I3, rv, q2⟩
  have rc : Vals (V.ref C :: vs) (Value.ref C :: us) := .cons rfl rv
  have hl : (Value.ref C :: us).length = ps.length := rc.length.symm.trans (F.len _ _ _ _ q2)
  have z : wpAny (model X.prog X.w) X.A (call (.ref s1.heap.objs.size) us) (EP X ((s1.heap.objs.size, PySem.W.methodObj (.ref g) (.ref C)) :: pins) σ Q) X.xe s3 := by
    refine wpAny_call (PySem.W.method_call (ClX.pin_at I3) ?_)
    refine codeAny_mono (F.run X.A X.stack s3 H2 ⟨Value.ref C :: us, []⟩ (Value.ref C :: us) (V.ref C :: vs) Q (E σ) hr hgu I3.env0 (by simpa using hb s3 (Value.ref C :: us) I3.kIn (by simpa using hl)) rc q2) fun w s4 hq => ?_
    cases w with
    | error er => exact hx σ _ H2 s3 er s4 I3 hq
    | ok fl =>
      cases fl with
      | ret u => exact I3.after hq
      | next => exact hq.elim
      | brk => exact hq.elim
      | cont => exact hq.elim
  exact ⟨⟨ClX.pin_at I3, I3.kIn⟩, thn z fun _ _ y => ClX.unpinE y⟩
theorem pe_makeRS (M : Mk X.K C f) (F : FnR X.prog X.w X.K X.mg X.base (L2.CX X.prog X.w) k f sp) (hr : Room (k + 1) X.A) (hg : Gl X x) (hm : X.mg x = some (.ref C)) (hx : ∀ σ, PassesAt (L2.CX X.prog X.w) X σ (E σ)) (ha : PA X (e :: es) t)
    (hdb : (x == ("__debug__" : Str)) = false := by decide) (he : starEach (e :: es) X.env = (false, eval e X.env) :: starEach es X.env := by rfl) (hpl : (backTo pos (starEach es X.env)).any (·.1) = false := by rfl) :
    PE X (.Call (.Name x np) (e :: es) [] pos) (tMakeRS C sp E t) := by
  constructor
  intro pins s σ H Q I h
  refine wpAny_Call_Name_kw (ld_glob I hg hm ?_ hdb)
  refine PySem.W.callWith_K (h₀ := X.base) I.ok.mod.kin M.kp (thn (ha.run pos pins s σ H _ I h) ?_) he hpl
  rintro us s1 ⟨vs, H1, I1, rv, q⟩
  refine ⟨I1.kIn, wpAny_call ?_⟩
  have hq := q _ _ (I1.hok.fresh (Nat.le_succ s1.heap.objs.size)) (I1.hok.fresh (Nat.le_refl s1.heap.objs.size)) (Nat.ne_of_lt (Nat.lt_succ_self _))
  have I2 := Inv.made (C := C) I1
  have rc : Vals (V.ref (s1.heap.objs.size + 1) :: vs) (Value.ref (s1.heap.objs.size + 1) :: us) := .cons rfl rv
  refine make_map (f := f) I1.kIn M.makes M.init (beq_iff_eq.mp M.fn) (codeAny_mono (F _ X.stack _ _ _ _ _ (E σ) (hr.make C us []) (I2.env0.make C us []) rc hq) fun w s4 hw => ?_)
  cases w with
  | error er => exact hx σ pins _ _ er s4 I2 hw
  | ok fl =>
    cases fl with
    | ret u =>
      obtain ⟨v, H3, I3, r3, e3, q3⟩ := I2.after hw
      subst e3
      exact ⟨r3, ⟨V.ref (s1.heap.objs.size + 1), H3, I3, rfl, q3⟩⟩
    | next => exact hw.elim
    | brk => exact hw.elim
    | cont => exact hw.elim
end
end Z
namespace Z
open PySem PySem.Spec PyProof.Rows L2
open PySem.SeqAt PySem.MeetsSeq PySem.MeetsSeq2 PySem.MeetsSeq3 PySem.SeqRoads2
open PySem.AutoSeq1 (wpAny_loadPart')
/-! ### == of a flat thing and a dict -/
section
variable {A : Around} {s : Shared}
/-- a dict as it stands -/
def DictO (h : Heap) (l : Addr) : Prop := ∃ (dd : Option Addr) (es : Array DictEntry) (ep : Nat) (sl : Array (Option Value)), h.get? l = some { cls := .type "dict", dict := dd, data := .dict es ep, slots := sl }
theorem dict_declines {prog : Program} {w : World} {E : Value → Shared → Prop} {l : Addr} {v : Value} {Q : Value → Shared → Prop} (hl : DictO s.heap l) (hv : v = .none ∨ (∃ i t, v = .int i t) ∨ ∃ z t, v = .str z t) (q : Q .notImplemented s) :
    wpAny (model prog w) A (call (.builtin "dict.__eq__") [.ref l, v]) Q E s := by
  obtain ⟨dd, es, ep, sl, hl⟩ := hl
  refine GQ.call_here F.slot_dict_eq ⟨_, hl, rfl⟩ F.entry_dict_eq (F.args_dict_eq_2 _ _) ?_
  obtain ⟨hp, g, d, tk, os⟩ := s
  have f1 := F.sub_NoneType_dict
  have f2 := F.sub_int_dict
  have f3 := F.sub_str_dict
  rcases hv with rfl | ⟨i, t, rfl⟩ | ⟨z, t, rfl⟩
  · wp_walk using wpAny_loadPart' hl, wpAny_load hl
    exact q
  · wp_walk using wpAny_loadPart' hl, wpAny_load hl
    exact q
  · wp_walk using wpAny_loadPart' hl, wpAny_load hl
    exact q
theorem int_declines {prog : Program} {w : World} {E : Value → Shared → Prop} {l : Addr} {i : Int} {t : Tok} {Q : Value → Shared → Prop} (hl : DictO s.heap l) (q : Q .notImplemented s) : wpAny (model prog w) A (call (.builtin "int.__eq__") [.int i t, .ref l]) Q E s := by
  obtain ⟨dd, es, ep, sl, hl⟩ := hl
  refine GQ.call_here F.slot_int_eq (typeIs_int s i t) F.entry_int_eq (F.args_int_eq_2 _ _) ?_
  obtain ⟨hp, g, d, tk, os⟩ := s
  wp_walk using wpAny_loadPart' hl, wpAny_load hl
  exact q
theorem str_declines {prog : Program} {w : World} {E : Value → Shared → Prop} {l : Addr} {z : Str} {t : Tok} {Q : Value → Shared → Prop} (hl : DictO s.heap l) (q : Q .notImplemented s) : wpAny (model prog w) A (call (.builtin "str.__eq__") [.str z t, .ref l]) Q E s := by
  obtain ⟨dd, es, ep, sl, hl⟩ := hl
  refine GQ.call_here F.slot_str_eq (typeIs_str s z t) F.entry_str_eq (F.args_str_eq_2 _ _) ?_
  obtain ⟨hp, g, d, tk, os⟩ := s
  wp_walk using wpAny_loadPart' hl, wpAny_load hl
  exact q
theorem eq_dict {l : Addr} {v : Value} (hl : DictO s.heap l) (hu : A.units < cLine) (hv : v = .none ∨ (∃ i t, v = .int i t) ∨ ∃ z t, v = .str z t) : EqAt A s v (.ref l) false := by
  intro prog w E Q h
  have ty : s.TypeIs (.ref l) "dict" := by
    obtain ⟨dd, es, ep, sl, hl⟩ := hl
    exact ⟨_, hl, rfl⟩
  have rc : wpAny (model prog w) A (richCompare .Eq v (.ref l)) (fun u s' => u = .bool false ∧ s' = s) E s := by
    rcases hv with rfl | ⟨i, t, rfl⟩ | ⟨z, t, rfl⟩
    · exact rc_eq_decline_or (k := false) (Ta := "NoneType") rfl ty (by decide) F.sub_dict_NoneType F.slot_NoneType_eq F.slot_dict_eq_refl (fun _ hq => dec_none hq) (fun _ hq => dict_declines hl (.inl rfl) hq)
        (fun _ hq => wpAny_of_eq (rfl : isSame .none (.ref l) = pure false) hq) (.inr hu) ⟨rfl, rfl⟩
    · exact rc_eq_decline_or (k := false) (typeIs_int s i t) ty (by decide) F.sub_dict_int F.slot_int_eq F.slot_dict_eq_refl (fun _ hq => int_declines hl hq) (fun _ hq => dict_declines hl (.inr (.inl ⟨_, _, rfl⟩)) hq)
        (fun _ hq => wpAny_of_eq (rfl : isSame (.int i t) (.ref l) = pure false) hq) (.inr hu) ⟨rfl, rfl⟩
    · exact rc_eq_decline_or (k := false) (typeIs_str s z t) ty (by decide) F.sub_dict_str F.slot_str_eq F.slot_dict_eq_refl (fun _ hq => str_declines hl hq) (fun _ hq => dict_declines hl (.inr (.inr ⟨_, _, rfl⟩)) hq)
        (fun _ hq => wpAny_of_eq (rfl : isSame (.str z t) (.ref l) = pure false) hq) (.inr hu) ⟨rfl, rfl⟩
  have fin : ∀ (u : Value) (s' : Shared), u = .bool false ∧ s' = s → wpAny (model prog w) A (truthOfDropped u) Q E s' := by
    rintro u s' ⟨rfl, rfl⟩
    exact wpAny_truthy_bool h
  rcases hv with rfl | ⟨i, t, rfl⟩ | ⟨z, t, rfl⟩
  · unfold eqBool
    exact wpAny_holding (wpAny_ite_split (fun e => absurd (eq_of_beq e) fun z => by cases z) fun _ => wpAny_bind (wpAny_mono rc fin fun _ _ z => z))
  · unfold eqBool
    exact wpAny_holding (wpAny_ite_split (fun e => absurd (eq_of_beq e) fun z => by cases z) fun _ => wpAny_bind (wpAny_mono rc fin fun _ _ z => z))
  · unfold eqBool
    exact wpAny_holding (wpAny_ite_split (fun e => absurd (eq_of_beq e) fun z => by cases z) fun _ => wpAny_bind (wpAny_mono rc fin fun _ _ z => z))
end
/-! ### x in l, l a list of tuples of flat things, x a tuple that begins with a dict -/
def tflat (v : V) : Prop := v = .non ∨ (∃ i, v = .int i) ∨ ∃ z, v = .str z
def rInDict (K : PySem.W.Frag) : R2 := fun x y H Q => ∃ (a d l : Addr) (v : V) (rs : List V) (kvs : List (Key × V)), x = .ref a ∧ y = .ref l ∧ SqT K H a [.ref d, v] ∧ H d = some (.dK kvs) ∧ tflat v ∧ SqL K H l rs ∧
  (∀ r ∈ rs, ∃ (b : Addr) (p q : V), r = .ref b ∧ SqT K H b [p, q] ∧ tflat p ∧ tflat q) ∧ Q (.bl false) H
def zInD (K : PySem.W.Frag) : R2 := fun x y H Q => rInD K x y H Q ∨ rInDict K x y H Q
theorem tflat_flat {v : V} (h : tflat v) : flatV v = true := by
  rcases h with rfl | ⟨i, rfl⟩ | ⟨z, rfl⟩ <;> rfl
section
variable {X : Cx}
theorem op_inDict (hu : X.A.units + 65 < cLine) : OpR X (compareOp .In) (rInDict X.K) := by
  intro pins s σ H x y v u Q I rx ry h
  obtain ⟨a, d, l, v2, rs, kvs, rfl, rfl, ha, hd, fv, hl, hr, q⟩ := h
  obtain rfl : v = Value.ref a := rx
  obtain rfl : u = Value.ref l := ry
  obtain ⟨its, rv, hl', _⟩ := I.list hl
  obtain ⟨xs, rx, px, _⟩ := I.tuple ha
  have dO : DictO s.heap d := by
    obtain ⟨_, _, vs, _, ⟨oc, od, dt, sl⟩, es, ep, e1, e2, e3, _⟩ := (show ObjOk X.prog X.w H s.heap d (.dK kvs) from I.hok d _ hd)
    have c1 := e2.1
    simp only at c1 e3
    subst c1 e3
    exact ⟨od, es, ep, sl, e1⟩
  obtain ⟨u1, u2, rfl, r1, r2⟩ := vals2 rx
  obtain rfl : u1 = Value.ref d := r1
  have he : ∀ y, y ∈ its.toArray → EqAt X.A.in1 s y (.ref a) ((fun _ => false) y) := by
    intro y hy
    obtain ⟨i, hi⟩ := List.getElem?_of_mem (show y ∈ its by simpa using hy)
    have li : i < rs.length := by
      rw [rv.length]
      exact (List.getElem?_eq_some_iff.mp hi).1
    obtain ⟨y2, hy2, ry⟩ := rv.get (List.getElem?_eq_getElem li)
    rw [hi] at hy2
    cases hy2
    obtain ⟨b, p, w, er, hb, fp, fw⟩ := hr _ (List.getElem_mem li)
    rw [er] at ry
    obtain rfl : y = Value.ref b := ry
    obtain ⟨zs, rz, pz, _⟩ := I.tuple hb
    obtain ⟨w1, w2, rfl, k1, k2⟩ := vals2 rz
    have ne : b ≠ a := by
      intro z
      subst z
      obtain ⟨o1, e1, _, n1, d1⟩ := px
      obtain ⟨o2, e2, _, n2, d2⟩ := pz
      rw [e1] at e2
      cases e2
      rw [d1] at d2
      injection d2 with d2
      have d3 := congrArg Array.toList d2
      simp only [List.cons.injEq] at d3
      obtain ⟨d4, _⟩ := d3
      rw [← d4] at k1
      rcases fp with rfl | ⟨i, rfl⟩ | ⟨z, rfl⟩
      · cases k1
      · obtain ⟨_, k1⟩ := k1; cases k1
      · obtain ⟨_, k1⟩ := k1; cases k1
    have rc := RcAt.tuples (A := X.A.in1) (e := fun j => if j = 0 then false else eqU v2 w2) (isTup_tuple pz) (isTup_tuple px) (show X.A.units + 1 < cLine by omega) (fun j h1 h2 => by
      have hj : j = 0 ∨ j = 1 := by
        have : j < 2 := by simpa using h1
        omega
      rcases hj with rfl | rfl
      · refine eq_dict dO (show X.A.units + 2 < cLine by omega) ?_
        rcases fp with rfl | ⟨i, rfl⟩ | ⟨z, rfl⟩
        · exact .inl k1
        · obtain ⟨t, k1⟩ := k1; exact .inr (.inl ⟨_, _, k1⟩)
        · obtain ⟨t, k1⟩ := k1; exact .inr (.inr ⟨_, _, k1⟩)
      · exact mem_eqAt r2 (tflat_flat fv) (xs := [w]) (us := [w2]) (.cons k2 .nil) (by simp [tflat_flat fw]) w2 (by simp))
    have e0 : ((List.range (min (#[w1, w2] : Array Value).size (#[Value.ref d, u2] : Array Value).size)).all (fun j => if j = 0 then false else eqU v2 w2) && (#[w1, w2] : Array Value).size == (#[Value.ref d, u2] : Array Value).size) = false := by
      simp [List.range_succ]
    exact EqAt.of_refs ne (by
      have rc' := rc
      rw [show ([w1, w2].toArray) = #[w1, w2] from rfl, show ([Value.ref d, u2].toArray) = #[Value.ref d, u2] from rfl, e0] at rc'
      exact rc')
  refine in_listAt (fun _ => false) hl'.isList he ?_
  have : its.toArray.any (fun _ => false) = false := by simp
  rw [this]
  exact ⟨.bl false, H, I, rfl, q⟩
theorem op_zInD (hu : X.A.units + 65 < cLine) : OpR X (compareOp .In) (zInD X.K) := OpR.or (op_inD hu) (op_inDict hu)
end
end Z
namespace Z
open PySem PySem.Spec PyProof.Rows L2
/-- xs.insert(i, y) -/
def rInsZ : V → List V → Hp → VK → Prop := fun x vs H Q => ∃ (l : Addr) (xs : List V) (i : Int) (y : V), x = .ref l ∧ vs = [.int i, y] ∧ H l = some (.lst xs) ∧ xs.length < sizeLine ∧ 0 ≤ i ∧ i < 2 ^ 63 ∧ Q .non (upd H l (.lst (xs.take i.toNat ++ [y] ++ xs.drop i.toNat)))
theorem mt_insZ {X : Cx} : MtR X "list.insert" rInsZ := mt_insert
theorem room65 {k : Nat} {A : Around} (r : Room k A) : A.units + 65 < cLine := by
  have := r.un
  omega
/-! ### repr of a list of things of any kind, dicts among them -/
def DpR2 (K : PySem.W.Frag) (H : Hp) (v : V) (d : PyData) : Prop := DpR K H v d ∨ ∃ (a b : Addr) (u : V) (du : PyData), v = .ref a ∧ SqT K H a [.ref b, u] ∧ H b = some (.dK []) ∧ flatD u = some du ∧ d = .tuple [.dict [], du]
def Rdd (h : Heap) (u : Value) (d : PyData) : Prop := ∃ as, Reads h u d as ∧ (d.hasDict = true → sysModules ∉ as)
theorem DpR2.reads {X : Cx} {pins : List (Addr × Obj)} {σ : St} {H : Hp} {s : Shared} (I : Inv X pins σ H s) {d : PyData} {v : V} {u : Value} (h : DpR2 X.K H v d) (r : RelV v u) : Rdd s.heap u d := by
  rcases h with h | ⟨a, b, w, dw, rfl, ha, hb, fw, rfl⟩
  · exact h.reads I r
  · obtain rfl : u = Value.ref a := r
    obtain ⟨its, rv, ⟨o, e1, c1, n, d1⟩, _⟩ := I.tuple ha
    obtain ⟨u1, u2, rfl, r1, r2⟩ := vals2 rv
    obtain ⟨as, h1, h2⟩ := DpR.reads I (d := .dict []) (v := .ref b) (u := u1) (.inr ⟨b, [], [], rfl, hb, rfl, .nil⟩) r1
    have h3 := flatD_reads (h := s.heap) fw r2
    refine ⟨as ++ ([] ++ []), Reads.tuple e1 c1 d1 (.cons h1 (.cons h3 .nil)), fun _ z => h2 (by simp [PyData.hasDict]) (by simpa using z)⟩
section
variable {prog : Program} {w : World} {h₀ : Heap}
theorem repr_each : ∀ {vs : List Value} {ds : List PyData}, Paired (Rdd h₀) vs ds → PyData.showableAll ds = true → (∀ t ∈ PyData.shownAll ds, t.length ≤ sizeLine) →
    (∃ as, ReadsAll h₀ vs ds as) ∧ ∃ bs, ReadAtMost h₀ (PyData.depthAll ds) bs ∧ ReprAllK prog w bs h₀ (PyData.depthAll ds) vs (PyData.shownAll ds)
  | _, _, .nil, _, _ => ⟨⟨_, .nil⟩, [], (fun _ h => nomatch h), by simp only [PyData.shownAll]; exact .nil⟩
  | _, _, .cons ⟨as, r, hm⟩ t, hs, hz => by
    simp only [PyData.showableAll, Bool.and_eq_true] at hs
    obtain ⟨b1, h1, k1⟩ := ReprK.of_reads (prog := prog) (w := w) r hs.1 hm (hz _ (by simp only [PyData.shownAll]; exact List.mem_cons_self ..))
    obtain ⟨⟨as2, r2⟩, b2, h2, k2⟩ := repr_each t hs.2 fun x hx => hz x (by simp only [PyData.shownAll]; exact List.mem_cons_of_mem _ hx)
    refine ⟨⟨_, .cons r r2⟩, b1 ++ b2, ?_, ?_⟩
    · simp only [PyData.depthAll]
      exact (h1.mono (Nat.le_max_left _ _)).append (h2.mono (Nat.le_max_right _ _))
    · simp only [PyData.depthAll, PyData.shownAll]
      exact .cons ((k1.more fun _ q => List.mem_append_left _ q).level_le (Nat.le_max_left _ _)) (k2.more_le (fun _ q => List.mem_append_right _ q) (Nat.le_max_right _ _))
end
theorem rdds {X : Cx} {pins : List (Addr × Obj)} {σ : St} {H : Hp} {s : Shared} (I : Inv X pins σ H s) : ∀ {vs : List V} {us : List Value} {ds : List PyData}, Paired (DpR2 X.K H) vs ds → Vals vs us → Paired (Rdd s.heap) us ds
  | _, _, _, .nil, .nil => .nil
  | _, _, _, .cons h t, .cons r q => .cons (h.reads I r) (rdds I t q)
def rReprL (K : PySem.W.Frag) : List V → Hp → VK → Prop := fun xs H Q => ∃ (a : Addr) (vs : List V) (ds : List PyData), xs = [.ref a] ∧ SqL K H a vs ∧ Paired (DpR2 K H) vs ds ∧ PyData.showableAll ds = true ∧ PyData.depthAll ds ≤ 32 ∧
  (PyData.list ds).shown.length ≤ sizeLine ∧ Q (.str (PyData.list ds).shown) H
theorem call_reprL {X : Cx} (hg : X.A.guards = some []) (hu : X.A.units + 64 < cLine) : CallR X (.builtin "repr") (rReprL X.K) := by
  intro pins s σ H xs us Q I r h
  obtain ⟨a, vs, ds, rfl, hq, hp, hs, hd, hz, q⟩ := h
  obtain ⟨u, rfl, ru⟩ := vals1 r
  obtain rfl : u = Value.ref a := ru
  obtain ⟨its, rv, ⟨oa, n, e1, c1, _, d1⟩, _⟩ := I.list hq
  have hz2 : (listText (PyData.shownAll ds)).length ≤ sizeLine := by simpa only [PyData.shown] using hz
  obtain ⟨⟨as, ra⟩, bs, h1, h2⟩ := repr_each (prog := X.prog) (w := X.w) (rdds I hp rv) hs fun t ht => Nat.le_trans (listText_mem_le ht) hz2
  have hna : a ∉ bs := not_mem_of_deeper (Reads.list e1 c1 d1 ra) (by simp only [PyData.depth]; omega) h1
  have keep : ∀ b o, s.heap.get? b = some o → s.heap.get? b = some o := fun _ _ z => z
  simp only [PyData.shown] at q
  refine call_repr_slot (by omega) ⟨oa, e1, c1⟩ F.slot_list_repr.toG ?_
  cases its with
  | nil =>
    cases ra
    simp only [PyData.shownAll, listText_nil] at q
    exact call_list_repr_empty ⟨oa, e1, c1⟩ e1 d1 ⟨_, _, rfl, ⟨.str _, H, I.tok _, ⟨_, rfl⟩, q⟩⟩
  | cons x l =>
    exact call_list_reprK e1 c1 d1 hna (by simpa using h2.length_eq) (fun i y e => h2.item i y (by simpa using e)) (show X.A.in1.guards = some [] from hg) (fun b _ => Clear.nil b) (show X.A.units + 1 + (PyData.depthAll ds + 1) < cLine by omega) keep
      (fun h' u tk hk => ⟨_, _, rfl, ⟨.str _, H, I.kept (t' := tk) hk, ⟨_, rfl⟩, q⟩⟩) hz2
end Z
namespace Z
open PySem PySem.W PySem.Calls PyProof.Rows PySem.HandSPX
/-! ### type.__call__ on an own exception class, with keywords -/
section
variable {M : Model} {A : Around} {E : Value → Shared → Prop} {h : Heap} {g : Array GenState} {d : Drawn} {t : Nat} {os : OsState}
variable {nm q : Str} {C N : Addr} {bs bm bmB : List Value} {hdct : Bool} {sn : List Str} {sub : List Value} {ab : Bool} {col : Option Bool} {dd : Option Addr} {k0 k1 k2 k3 k5 : Option Value} {B newId initId : String}
theorem check_new_kw (F : ExcBaseFacts B newId initId bmB) (hT : ∀ X : String, bm.contains (.type X) = bmB.contains (.type X)) {rest : List Value} {kw : List (Str × Value)} {Q : Unit → Shared → Prop}
    (hC : h.get? C = some (excClassObj nm q C N bs bm hdct sn sub ab col dd k0 k1 k2 k3 k5 newId)) (hq : Q () ⟨h, g, d, t, os⟩) : wpAny M A (checkBuiltinCall newId ⟨.ref C :: rest, kw⟩) Q E ⟨h, g, d, t, os⟩ := by
  have hcont : (Value.ref C :: bm).contains (.type B) = true := by rw [List.contains_cons, hT, F.hasB, Bool.or_true]
  have hstar := F.noStar
  simp only [checkBuiltinCall, F.newKind, F.newSplit, F.newRow]
  repeat (first | refine wpAny_loadPart_at hC ?_ | (refine wpAny_isSubtype_exc hC ?_; rw [hcont]) | refine wpAny_staticBase_exc hC ?_ | refine wpAny_madeBy_exc hC ?_ | simp only [bne_self_eq_false, Bool.false_eq_true, if_false] | wp_step)
  exact hq
end
section
variable {prog : Program} {w : World} {A : Around} {E : Value → Shared → Prop} {R : Result → Shared → Prop} {h : Heap} {g : Array GenState} {d : Drawn} {t : Nat} {os : OsState}
variable {nm q : Str} {C N : Addr} {bs bm bmB : List Value} {hdct : Bool} {sn : List Str} {sub : List Value} {ab : Bool} {col : Option Bool} {dd : Option Addr} {k0 k1 k2 k3 k5 : Option Value} {B newId initId : String}
theorem new_kw (F : ExcBaseFacts B newId initId bmB) (hT : ∀ X : String, bm.contains (.type X) = bmB.contains (.type X)) {rest : List Value} {kw : List (Str × Value)}
    (hC : h.get? C = some (excClassObj nm q C N bs bm hdct sn sub ab col dd k0 k1 k2 k3 k5 newId))
    (hq : R (.ok (.ret (.ref (h.objs.size + 1)))) ⟨(h.push { cls := .type "tuple", data := .seq rest.toArray }).push
      { cls := .ref C, data := .fields #[.ref h.objs.size, .none, .none, .none, .bool false, .none] }, g, d, t, os⟩) (hrest : rest.length ≤ sizeLine) :
    codeAny (model prog w) A (.builtin newId ⟨.ref C :: rest, kw⟩) R ⟨h, g, d, t, os⟩ := by
  have hends := F.ends
  have hcB : (Value.ref C :: bm).contains (.type B) = true := by rw [List.contains_cons, hT, F.hasB, Bool.or_true]
  have hcA : (Value.ref C :: bm).contains (.type "AttributeError") = false := by rw [List.contains_cons, hT, F.noAttr]; rfl
  have hcN : (Value.ref C :: bm).contains (.type "NameError") = false := by rw [List.contains_cons, hT, F.noName]; rfl
  refine codeAny_builtinAt F.entry ?_
  unfold Builtin.«BaseException.__new__»
  refine PySem.wpAt_bind ?_
  show PySem.wpAt _ _ _ (stack >>= _) _ _ _
  refine PySem.wpAt_bind (PySem.wpAt_stack fun p below => PySem.wpAt_of_wpAny ?_)
  wp_walk
  refine PySem.wpAt_of_wpAny ?_
  rw [F.owner]
  repeat (first | with_reducible refine wpAny_madeHere_exc F.canon hC ?_ | with_reducible refine wpAny_loadPart_at hC ?_ | (with_reducible refine wpAny_isSubtype_exc hC ?_; first | rw [hcB] | rw [hcA] | rw [hcN]) | wp_step)
  show R _ _
  rw [Heap.size_push]
  exact hq
theorem type_call_kw (F : ExcBaseFacts B newId initId bmB) (hT : ∀ X : String, bm.contains (.type X) = bmB.contains (.type X)) {rest : List Value} {kw : List (Str × Value)} {fI : Addr} {Q : Fin → Shared → Prop}
    (hC : h.get? C = some (excClassObj nm q C N bs bm hdct sn sub ab col dd k0 k1 k2 k3 k5 newId))
    (hi : W.Looks (model prog w) h (typeLookup (.ref C) "__init__") (some (.ref fI))) (hb : ∀ self, W.Looks (model prog w) h (bindSpecial (.ref fI) self) (.ref fI, [self])) (hrest : rest.length ≤ sizeLine)
    (hq : codeAny (model prog w) A (.call (.ref fI) ⟨.ref (h.objs.size + 1) :: rest, kw⟩)
      (fun r s' => match r with | .ok (.ret v) => v = .none ∧ Q (.done (.ret (.ref (h.objs.size + 1)))) s' | .ok _ => False | .error e => E e s')
      ⟨(h.push (W.kdv_tup rest)).push (excO C h.objs.size), g, d, t, os⟩) :
    wpAny (model prog w) A (Builtin.«type.__call__» ⟨.ref C :: rest, kw⟩) Q E ⟨h, g, d, t, os⟩ := by
  repeat (first | with_reducible refine wpAny_loadPart_at hC ?_ | with_reducible refine wpAny_madeBy_exc hC ?_ | wp_step)
  refine codeAny_call_builtin_code (Code.quiet_builtin _ F.quiet) (check_new_kw F hT hC ?_)
  refine new_kw F hT hC ?_ hrest
  show wpAny _ _ _ _ _ _
  have k : ∀ b o, h.get? b = some o → ((h.push (W.kdv_tup rest)).push (excO C h.objs.size)).get? b = some o := fun b o e => Heap.get?_push_of_some _ (Heap.get?_push_of_some _ e)
  have hC₁ := k _ _ hC
  have hget : ((h.push (W.kdv_tup rest)).push (excO C h.objs.size)).get? (h.objs.size + 1) = some (excO C h.objs.size) := by heap_get
  have hcC : (Value.ref C :: bm).contains (.ref C) = true := by simp
  have i1 := hi.keeps k
  have b1 := (hb (.ref (h.objs.size + 1))).keeps k
  unfold isInstance
  repeat (first | with_reducible refine wpAny_loadPart_at hget ?_ | (with_reducible refine wpAny_isSubtype_exc hC₁ ?_; rw [hcC]) | wp_step)
  show wpAny _ _ (typeLookup (.ref C) _) _ _ _
  refine i1.at ?_
  refine wpAny_holding (wpAny_bind (b1.at ?_))
  refine wpAny_bind (wpAny_call (codeAny_mono hq fun r s' z => ?_))
  rcases r with e | (v | _ | _ | _) <;> first | exact z | exact z.elim | skip
  obtain ⟨rfl, z⟩ := z
  first
    | exact wpAny_pure (wpAny_pure z)
    | (wp_walk; exact z)
theorem call_kw (F : ExcBaseFacts B newId initId bmB) (hT : ∀ X : String, bm.contains (.type X) = bmB.contains (.type X)) {rest : List Value} {kw : List (Str × Value)} {fI : Addr}
    (hC : h.get? C = some (excClassObj nm q C N bs bm hdct sn sub ab col dd k0 k1 k2 k3 k5 newId))
    (hi : W.Looks (model prog w) h (typeLookup (.ref C) "__init__") (some (.ref fI))) (hb : ∀ self, W.Looks (model prog w) h (bindSpecial (.ref fI) self) (.ref fI, [self])) (hrest : rest.length ≤ sizeLine)
    (hq : codeAny (model prog w) (A.under (.builtin "type.__call__" ⟨.ref C :: rest, kw⟩)) (.call (.ref fI) ⟨.ref (h.objs.size + 1) :: rest, kw⟩) (W.InitBack (h.objs.size + 1) R)
      ⟨(h.push (W.kdv_tup rest)).push (excO C h.objs.size), g, d, t, os⟩) :
    codeAny (model prog w) A (.call (.ref C) ⟨rest, kw⟩) R ⟨h, g, d, t, os⟩ := by
  have f1 := tc_lookup
  have f2 := tc_bind (.ref C)
  have hTy : (⟨h, g, d, t, os⟩ : Shared).TypeIs (.ref C) "type" := ⟨_, hC, rfl⟩
  refine codeAny_of_tree ?_
  show wpAny _ _ (callAny (.ref C) _) _ _ _
  repeat (any_goals (first | assumption | with_reducible refine wpAny_loadPart_at hC ?_ | wp_step))
  refine ⟨rfl, ?_⟩
  refine codeAny_call_builtin_at (Code.quiet_builtin _ (by decide +kernel)) entry_typeCall (wpAny_check_type_call_sub hC (type_call_kw F hT hC hi hb hrest ?_))
  refine codeAny_mono hq fun r s' z => ?_
  rcases r with e | (v | _ | _ | _) <;> exact z
end
section
open Builtin Builtin.ObjectAttr
variable {prog : Program} {w : World} {A : Around} {E : Value → Shared → Prop} {R : Result → Shared → Prop} {hp : Heap} {g : Array GenState} {d : Drawn} {t : Nat} {os : OsState}
theorem isEmpty_of_contains {l : List Value} {v : Value} (h : l.contains v = true) : l.isEmpty = false := by
  cases l with
  | nil => exact absurd h (by simp)
  | cons _ _ => rfl
/-- self.name = v on an exception that has no dict yet -/
theorem osa_new {K : W.Frag} {name : Str} {tk : Tok} {v : Value} {x C : Addr} {fv : Array Value} {cd : ClassData}
    (X : K.In hp) (hx : hp.get? x = some { cls := .ref C, data := .fields fv }) (hcd : W.clsIn K C = some cd) (hm : ∀ self, refuseLoop self "__setattr__" cd.mro = pure ()) (hob : cd.mro.contains (.type "object") = true) (hh : cd.hasDict = true) (ha : W.findIn K (.ref C) name = some none)
    (hq : ∀ h' tk' dx, (∀ b o, b ≠ x → hp.get? b = some o → h'.get? b = some o) → hp.objs.size ≤ dx → dx ≠ x → h'.get? x = some { cls := .ref C, dict := some dx, data := .fields fv } →
      h'.Ns1 dx (fun y => if y = name then some v else none) → R (.ok (.ret .none)) ⟨h', g, d, tk', os⟩) :
    codeAny (model prog w) A (.call (.builtin "object.__setattr__") ⟨[.ref x, .str name tk, v], []⟩) R ⟨hp, g, d, t, os⟩ := by
  have I : W.InstAt hp x { cls := .ref C, data := .fields fv } C none := ⟨hx, rfl, rfl, trivial⟩
  have SF := F.store_object
  have ne := isEmpty_of_contains hob
  have hxs : x ≠ hp.objs.size := Nat.ne_of_lt (Heap.lt_size hx)
  have sub : W.Looks (model prog w) hp (isInstance (.ref x) (.type "object")) true := I.type.andThen (W.looks_mroIn X (by unfold W.mroIn; rw [hcd, Option.bind_some, if_neg (by rw [ne]; decide), hob]))
  refine codeAny_call_builtin SF.slot.plain SF.entry (@W.check_slot (model prog w) _ _ ⟨hp, g, d, t, os⟩ "object.__setattr__" "object" "__setattr__" (.ref x) [.str name tk, v] [] _ SF.kind SF.split sub (SF.args (.ref x) (.str name tk) v) ?_)
  have hmr : W.Looks (model prog w) hp (mroOf (.ref C)) cd.mro := (W.looks_clsIn X hcd).andThen .now
  have L3 : W.Looks (model prog w) hp (storeTaker? none) none := .now
  have hcls : W.Looks (model prog w) hp (classData C) cd := W.looks_clsIn X hcd
  rw [W.osa_eq, refuse_eq]
  refine wpAny_bind (wpAny_bind (I.type.at (wpAny_bind (hmr.at ?_))))
  rw [hm]
  refine wpAny_pure (wpAny_bind (I.type.at (wpAny_bind ((W.looks_findIn X ha).at (wpAny_bind (L3.at ?_))))))
  show wpAny _ _ (storeInOwnDict (.ref x) (.ref C) (.str name tk) name v false) _ _ _
  obtain ⟨nm, bs, mro, ns, qn, hd, sn, sb, ab, col, del⟩ := cd
  dsimp only at hh
  subst hh
  unfold storeInOwnDict ownDictForStores
  repeat (first | with_reducible refine HandSPX.store_in_new ?_ ?_ | with_reducible refine wpAny_loadPart_at hx ?_ | with_reducible refine hcls.at ?_ | wp_step)
  · exact ⟨_, #[], _, (Heap.get?_update_ne _ _ _ _ hxs.symm).trans (Heap.get?_push_at rfl rfl), rfl, fun e he => absurd he (by simp), fun _ => rfl⟩
  · intro h' tk' hn' hs
    have hx₁ : (hp.push { cls := .type "dict", data := .dict #[] }).get? x = some { cls := .ref C, data := .fields fv } := Heap.get?_push_of_some _ hx
    refine hq h' tk' hp.objs.size (fun b o hb ho => ?_) (Nat.le_refl _) hxs.symm ?_ hn'
    · exact (hs.2 b (Nat.ne_of_lt (Heap.lt_size ho))).trans ((Heap.get?_update_ne _ _ _ _ hb).trans (Heap.get?_push_of_some _ ho))
    · exact (hs.2 x hxs).trans (Heap.get?_update_self _ hx₁ rfl)
/-- a further field of an exception that has its dict -/
theorem osa_more {K : W.Frag} {name : Str} {tk : Tok} {v : Value} {x C dx : Addr} {fv : Array Value} {cd : ClassData} {m0 : Str → Option Value} {nl : List Str}
    (X : K.In hp) (hx : hp.get? x = some { cls := .ref C, dict := some dx, data := .fields fv }) (hns : hp.Ns1 dx m0) (hw : Within m0 nl) (hz : nl.length ≤ 1000) (hcd : W.clsIn K C = some cd) (hm : ∀ self, refuseLoop self "__setattr__" cd.mro = pure ()) (hob : cd.mro.contains (.type "object") = true) (hh : cd.hasDict = true)
    (ha : W.findIn K (.ref C) name = some none)
    (hq : ∀ h' tk', (∀ b o, b ≠ dx → hp.get? b = some o → h'.get? b = some o) → h'.Ns1 dx (fun y => if y = name then some v else m0 y) → R (.ok (.ret .none)) ⟨h', g, d, tk', os⟩) :
    codeAny (model prog w) A (.call (.builtin "object.__setattr__") ⟨[.ref x, .str name tk, v], []⟩) R ⟨hp, g, d, t, os⟩ := by
  obtain ⟨oD, esD, epD, hoD, hdD, _⟩ := hns.count hw
  have I : W.InstAt hp x { cls := .ref C, dict := some dx, data := .fields fv } C (some oD) := ⟨hx, rfl, rfl, hoD⟩
  have SF := F.store_object
  have ne := isEmpty_of_contains hob
  have sub : W.Looks (model prog w) hp (isInstance (.ref x) (.type "object")) true := I.type.andThen (W.looks_mroIn X (by unfold W.mroIn; rw [hcd, Option.bind_some, if_neg (by rw [ne]; decide), hob]))
  refine codeAny_call_builtin SF.slot.plain SF.entry (@W.check_slot (model prog w) _ _ ⟨hp, g, d, t, os⟩ "object.__setattr__" "object" "__setattr__" (.ref x) [.str name tk, v] [] _ SF.kind SF.split sub (SF.args (.ref x) (.str name tk) v) ?_)
  have hmr : W.Looks (model prog w) hp (mroOf (.ref C)) cd.mro := (W.looks_clsIn X hcd).andThen .now
  have L3 : W.Looks (model prog w) hp (storeTaker? none) none := .now
  have hcls : W.Looks (model prog w) hp (classData C) cd := W.looks_clsIn X hcd
  rw [W.osa_eq, refuse_eq]
  refine wpAny_bind (wpAny_bind (I.type.at (wpAny_bind (hmr.at ?_))))
  rw [hm]
  refine wpAny_pure (wpAny_bind (I.type.at (wpAny_bind ((W.looks_findIn X ha).at (wpAny_bind (L3.at ?_))))))
  show wpAny _ _ (storeInOwnDict (.ref x) (.ref C) (.str name tk) name v false) _ _ _
  obtain ⟨nm, bs, mro, ns, qn, hd, sn, sb, ab, col, del⟩ := cd
  dsimp only at hh
  subst hh
  unfold storeInOwnDict ownDictForStores
  repeat (first | with_reducible refine OEX.store_in_old hns hw hz ?_ | with_reducible refine wpAny_loadPart_at hx ?_ | with_reducible refine hcls.at ?_ | wp_step)
  intro h' tk' hn' hs
  exact hq h' tk' (fun b o hb ho => (hs.2 b hb).trans ho) hn'
end
end Z

namespace Z
open PySem PySem.Spec PyProof.Rows L2
/-- what the written part says of the class: an own exception over a built-in one -/
structure OexB (K : PySem.W.Frag) (C : Addr) : Prop where
  cls : ∃ B newId initId bmB nm q N bs bm sn sub ab col dd k0 k1 k2 k3 k5, ExcBaseFacts B newId initId bmB ∧ K.lookup C = some (excClassObj nm q C N bs bm true sn sub ab col dd k0 k1 k2 k3 k5 newId) ∧
    (∀ X : String, bm.contains (.type X) = bmB.contains (.type X)) ∧ (∀ self, refuseLoop self "__setattr__" bm = pure ()) ∧ bm.contains (.type "object") = true
  sa : PySem.W.findIn K (.ref C) "__setattr__" = some (some (.builtin "object.__setattr__"))
  exC : PySem.W.subIn K (.ref C) (.type "BaseException") = some true
  tyC : PySem.W.typeIn K (.ref C) = some (.type "type")
  kC : PySem.W.keepIn K (.ref C) = true
section
variable {X : Cx} {pins : List (Addr × Obj)} {σ : St} {H : Hp} {s : Shared} {a C dx : Addr} {f : Str} {y : V} {u : Value} {fs : List (Str × V)} {Q : Unit → Shared → Prop} {E : Value → Shared → Prop} {A : Around}
/-- self.f = y, the first one -/
theorem ostB_new (T : OexB X.K C) (I : Inv X pins σ H s) (e : H a = some (exo a C none)) (hno : PySem.W.findIn X.K (.ref C) f = some none) (ry : RelV y u)
    (h : ∀ dx s', H dx = none → dx ≠ a → Inv X pins σ (upd (upd H dx (exd dx [(f, y)])) a (exo a C (some dx))) s' → Q () s') : wpAny (model X.prog X.w) A (setAttr (.ref a) f u) Q E s := by
  obtain ⟨B, newId, initId, bmB, nm, q, N, bs, bm, sn, sub, ab, col, dd, k0, k1, k2, k3, k5, hF, hC, hT, hbm, hob⟩ := T.cls
  have hcl : PySem.W.clsIn X.K C = some { name := nm, bases := bs, mro := .ref C :: bm, ns := N, qualname := q, hasDict := true, slotNames := sn, subclasses := sub, abstract := ab, collection := col, hasDel := false } := by unfold PySem.W.clsIn; rw [hC] <;> rfl
  obtain ⟨t1, ho⟩ := exo_at I.hok e
  obtain ⟨hp, g, d, t, os⟩ := s
  refine PySem.W.set_plain I.kIn (ox := { cls := .ref C, dict := none, data := .fields #[.ref t1, .none, .none, .none, .bool false, .none] }) (od := none) ⟨ho, rfl, rfl, trivial⟩ T.sa ?_
  refine osa_new I.kIn ho hcl (fun self => by rw [refuseLoop_ref]; exact hbm self) (by simp only [List.contains_cons, hob, Bool.or_true]) rfl hno (fun h' tk' dx k dn dne hx hn => ?_)
  have hnd : H dx = none := I.hok.fresh dn
  have nd : ∀ {b : Addr} {o : Obj}, hp.get? b = some o → b ≠ dx := fun {b o} q => Nat.ne_of_lt (Nat.lt_of_lt_of_le (Heap.lt_size q) dn)
  have na : ∀ {b : Addr}, H b = none → b ≠ a := fun {b} n z => by
    rw [z, e] at n
    cases n
  have Un1 : Un X.fs [] H (upd (upd H dx (exd dx [(f, y)])) a (exo a C (some dx))) hp h' := {
    keep := fun b o q n _ _ => k b o (na n) q
    slot := fun b o q n _ _ => ⟨o.slots, k b o (na n) q⟩
    free := fun b o q n _ => by rw [upd_ne (na n), upd_ne (nd q)]; exact n
    there := fun b o q _ => by
      by_cases hb : b = a
      · exact ⟨_, by rw [hb]; exact hx⟩
      · exact ⟨o, k b o hb q⟩
    tups := fun b xs q => by rw [upd_ne (at_ne e q exo_tup), upd_ne (ne_of_none q hnd)]; exact q
    frzs := fun b o v q => by rw [upd_ne (at_ne e q exo_frz), upd_ne (ne_of_none q hnd)]; exact q
    tbls := fun b ps q => ⟨#[], by rw [upd_ne (at_ne e q exo_tbl), upd_ne (ne_of_none q hnd), q]; simp⟩ }
  refine h dx _ hnd dne (I.un (t' := tk') Un1 fun b o q => ?_)
  by_cases hb : b = a
  · subst hb
    rw [upd_same] at q
    cases q
    exact exo_ok hx
  · rw [upd_ne hb] at q
    by_cases hd : b = dx
    · subst hd
      rw [upd_same] at q
      cases q
      exact exd_ok hn (relO_put (fs := []) ry fun g => True.intro)
    · rw [upd_ne hd] at q
      exact (I.hok b o q).stay (fun c v hc z => k c v (by
          rcases hc with hc | hc
          · rw [hc]
            exact hb
          · exact at_ne e hc exo_own) z)
        (fun c hc => by rw [upd_ne (at_ne e hc exo_own), upd_ne (ne_of_none hc hnd)]; exact hc) (fun c xs hc => by rw [upd_ne (at_ne e hc exo_tup), upd_ne (ne_of_none hc hnd)]; exact hc)
/-- self.f = y, a further one -/
theorem ostB_old (T : OexB X.K C) (I : Inv X pins σ H s) (e : H a = some (exo a C (some dx))) (ed : H dx = some (exd dx fs)) (hl : fs.length ≤ 900) (hno : PySem.W.findIn X.K (.ref C) f = some none) (ry : RelV y u)
    (h : ∀ s', Inv X pins σ (upd H dx (exd dx ((f, y) :: fs))) s' → Q () s') : wpAny (model X.prog X.w) A (setAttr (.ref a) f u) Q E s := by
  obtain ⟨B, newId, initId, bmB, nm, q, N, bs, bm, sn, sub, ab, col, dd, k0, k1, k2, k3, k5, hF, hC, hT, hbm, hob⟩ := T.cls
  have hcl : PySem.W.clsIn X.K C = some { name := nm, bases := bs, mro := .ref C :: bm, ns := N, qualname := q, hasDict := true, slotNames := sn, subclasses := sub, abstract := ab, collection := col, hasDel := false } := by unfold PySem.W.clsIn; rw [hC] <;> rfl
  obtain ⟨t1, ho⟩ := exo_at I.hok e
  obtain ⟨mA, hns, rel⟩ := exd_at I.hok ed
  have hw := within_of rel
  obtain ⟨hp, g, d, t, os⟩ := s
  obtain ⟨oD, _, _, hoD, _, _⟩ := hns.count hw
  refine PySem.W.set_plain I.kIn (ox := { cls := .ref C, dict := some dx, data := .fields #[.ref t1, .none, .none, .none, .bool false, .none] }) (od := some oD) ⟨ho, rfl, rfl, hoD⟩ T.sa ?_
  refine osa_more I.kIn ho hns hw (by rw [List.length_map]; omega) hcl (fun self => by rw [refuseLoop_ref]; exact hbm self) (by simp only [List.contains_cons, hob, Bool.or_true]) rfl hno (fun h' tk' k hn => ?_)
  have hd : ∃ o, h'.get? dx = some o := by
    obtain ⟨o, _, _, e', _⟩ := hn
    exact ⟨o, e'⟩
  exact h _ (I.write (t' := tk') (x := dx) (e := dx) (o := exd dx ((f, y) :: fs)) (by rw [ed]; exact True.intro) (.inl rfl) k hd (exd_ok hn (relO_put ry rel)))
end
/-- self.f = e -/
def tOstB (K : PySem.W.Frag) (f : Str) (to te : TE) : TS := fun D σ H => te σ H fun y H1 => to σ H1 fun x H2 => ∃ a C : Addr, x = .ref a ∧ OexB K C ∧ PySem.W.findIn K (.ref C) f = some none ∧
  ((H2 a = some (exo a C none) ∧ ∀ dx, H2 dx = none → dx ≠ a → D.nx σ (upd (upd H2 dx (exd dx [(f, y)])) a (exo a C (some dx)))) ∨
    ∃ (dx : Addr) (fs : List (Str × V)), H2 a = some (exo a C (some dx)) ∧ H2 dx = some (exd dx fs) ∧ fs.length ≤ 900 ∧ D.nx σ (upd H2 dx (exd dx ((f, y) :: fs))))
section
variable {X : Cx} {o e : Expr} {es : List Expr} {to te : TE} {ta : TA} {f : Str} {p p' p1 p2 pos : Pos}
theorem ps_ostB (ho : PE X o to) (he : PE X e te) (hs : swapsWith e (some (.Attribute o f p')) pos.line X.env = pure false := by rfl) : PS X (.Assign [.Attribute o f p'] e pos) (tOstB X.K f to te) := by
  refine ⟨fun pins s σ H D I h => ?_⟩
  refine plainObj_wpAny_Assign_Attribute (thn (he.run pins s σ H _ I h) fun v s1 ⟨y, H1, I1, r1, q1⟩ => thn (ho.run pins s1 σ H1 _ I1 q1) fun u s2 ⟨x, H2, I2, r2, a, C, ex, T, hno, q⟩ => ?_) hs
  subst ex
  obtain rfl : u = Value.ref a := r2
  rcases q with ⟨ea, q⟩ | ⟨dx, fs, ea, ed, hl, q⟩
  · exact ostB_new T I2 ea hno r1 fun dx s' n ne J => ⟨σ, _, J, q dx n ne⟩
  · exact ostB_old T I2 ea ed hl hno r1 fun s' J => ⟨σ, _, J, q⟩
end
/-! ### C(e, ..) that is raised -/
section
variable {gd : Bool} {X : Cx} {k : Nat} {C fI : Addr} {fd : FuncData} {ps : List Str} {sp : Sp} {x : Str} {p pos : Pos} {e : Expr} {es : List Expr} {t : TA}
/-- C(e, .., k = v): the state behind, and what is known of it -/
theorem run_xmk {pins : List (Addr × Obj)} {σ : St} {H : Hp} {s : Shared} {Q : Addr → Addr → List (Str × V) → Hp → Prop} {P : Value → Shared → Prop} {us all : List Value} {kw : List (Str × Value)} {vs : List V} (T : OexB X.K C) (iC : PySem.W.findIn X.K (.ref C) "__init__" = some (some (.ref fI))) (tI : PySem.W.typeIn X.K (.ref fI) = some (.type "function"))
    (F : FnG gd X.prog X.w X.K X.mg X.base k fI fd ps sp) (hr : Room (k + 1) X.A) (hgu : gd = true → X.A.guards = some [])
    (hb : ∀ (a : Addr) (s : Shared), X.K.In s.heap → BindsTo s fd ⟨.ref a :: us, kw⟩ (ps.zip (.ref a :: all))) (I : Inv X pins σ H s) (r : Vals vs all) (hz : us.length ≤ 1000)
    (h : ∀ a, H a = none → sp (.ref a :: vs) (upd H a (exo a C none)) (fun v H2 => v = .non ∧ ∃ (d : Addr) (fs : List (Str × V)), H2 a = some (exo a C (some d)) ∧ H2 d = some (exd d fs) ∧ H d = none ∧ Q a d fs H2) E0)
    (hP : ∀ a hp2 s' H2 d fs, s.heap.objs.size ≤ a → (∀ b o, s.heap.get? b = some o → hp2.get? b = some o) → s'.os = s.os → AllBare s'.gens → Un (frs X.stack) [] (upd H a (exo a C none)) H2 hp2 s'.heap → HOk X.prog X.w H2 s'.heap →
      Inv X pins σ H2 s' → H2 a = some (exo a C (some d)) → H2 d = some (exd d fs) → H d = none → Q a d fs H2 → P (.ref a) s') :
    wpAny (model X.prog X.w) X.A (call (.ref C) us kw) P X.xe s := by
  obtain ⟨B, newId, initId, bmB, nm, q, N, bs, bm, sn, sub, ab, col, dd, k0, k1, k2, k3, k5, hF, hC, hT, hbm, hob⟩ := T.cls
  obtain ⟨hp, g, dr, tk, os⟩ := s
  have hsz : hp.objs.size ≤ hp.objs.size + 1 := Nat.le_succ _
  have hq := h (hp.objs.size + 1) (I.hok.fresh hsz)
  have kk : ∀ b o, hp.get? b = some o → ((hp.push (PySem.W.kdv_tup us)).push (PySem.HandSPX.excO C hp.objs.size)).get? b = some o :=
    fun b o z => Heap.get?_push_of_some _ (Heap.get?_push_of_some _ z)
  have hget : ((hp.push (PySem.W.kdv_tup us)).push (PySem.HandSPX.excO C hp.objs.size)).get? (hp.objs.size + 1) =
      some (PySem.HandSPX.excO C hp.objs.size) := by heap_get
  have I2 := I.laid (t' := tk) (a := hp.objs.size + 1) (o := exo (hp.objs.size + 1) C none)
    (h' := (hp.push (PySem.W.kdv_tup us)).push (PySem.HandSPX.excO C hp.objs.size)) kk hsz (exo_ok hget)
  have r2 : Vals (V.ref (hp.objs.size + 1) :: vs) (Value.ref (hp.objs.size + 1) :: all) := .cons rfl r
  have hus : us.length ≤ sizeLine := by
    rw [sizeLine_eq]
    omega
  have bb := hb (hp.objs.size + 1) ⟨(hp.push (PySem.W.kdv_tup us)).push (PySem.HandSPX.excO C hp.objs.size), g, dr, tk, os⟩ I2.kIn
  refine wpAny_call (call_kw hF hT (I.kIn _ _ hC)
    (PySem.W.looks_findIn I.kIn iC) (fun self => PySem.W.bind_fn I.kIn self tI) hus
    (codeAny_mono (F.run _ X.stack _ _ ⟨Value.ref (hp.objs.size + 1) :: us, kw⟩ _ _ _ E0 (hr.make C us kw) (fun z => guards_make (hgu z)) (I2.env0.make C us kw) bb r2 hq) fun r s' hq' => ?_))
  rcases r with er | fl
  · exact (show False by
      obtain ⟨_, _, _, _, _, _, _, _, _, _, _, _, z⟩ := hq'
      exact z).elim
  · cases fl with
    | ret u =>
      obtain ⟨v, H2, os2, bare2, un2, hok2, rv, ev, d, fs, ea, ed, hd1, q2⟩ := hq'
      subst ev
      exact ⟨rv, hP _ _ s' H2 d fs hsz kk os2 bare2 un2 hok2 (I2.call' (ch := []) os2 un2 hok2 bare2 (fun b z => absurd z (by simp))) ea ed hd1 q2⟩
    | next => exact hq'.elim
    | brk => exact hq'.elim
    | cont => exact hq'.elim
theorem pmk_ZB (T : OexB X.K C) (iC : PySem.W.findIn X.K (.ref C) "__init__" = some (some (.ref fI))) (tI : PySem.W.typeIn X.K (.ref fI) = some (.type "function"))
    (F : FnG gd X.prog X.w X.K X.mg X.base k fI fd ps sp) (hr : Room (k + 1) X.A) (hgu : gd = true → X.A.guards = some []) (hb : Binds X.K fd ps []) (hg : Gl X x)
    (hm : X.mg x = some (.ref C)) (ha : PA X (e :: es) t) (hdb : (x == ("__debug__" : Str)) = false := by decide)
    (he : starEach (e :: es) X.env = (false, eval e X.env) :: starEach es X.env := by rfl) (hpl : (backTo pos (starEach es X.env)).any (·.1) = false := by rfl) :
    PMk X (.Call (.Name x p) (e :: es) [] pos) (zMkO C sp t) := by
  intro pins s σ H Q I h
  refine wpAny_Call_Name_kw (ld_glob I hg hm ?_ hdb)
  refine PySem.W.callWith_K (h₀ := X.base) I.ok.mod.kin T.kC (thn (ha.run pos pins s σ H _ I h) ?_) he hpl
  rintro us s1 ⟨vs, H1, I1, r1, hz, q1⟩
  refine ⟨I1.kIn, ?_⟩
  refine run_xmk (Q := fun a d fs H2 => Q (.ref C) (some d) (upd (del H2 a) d (.xd fs))) T iC tI F hr hgu (all := us) (kw := []) (fun a s2 K2 => ?_) I1 r1 (by show us.length ≤ 1000; rw [← Paired.length r1]; exact hz) q1 fun a hp2 s' H2 d fs hsz kk os2 bare2 un2 hok2 I3 ea ed hd1 q2 => ?_
  · have hl := F.len _ _ _ _ (q1 _ (I1.hok.fresh (Nat.le_refl _)))
    have bb := hb s2 (.ref a :: us) K2 (by rw [List.append_nil, List.length_cons, ← Paired.length r1]; exact hl)
    rw [List.append_nil] at bb
    exact bb
  · obtain ⟨hp, g, dr, tk, os⟩ := s1
    obtain ⟨h2, g2, d2, t2, os'⟩ := s'
    exact mk_end (raises_own T.exC T.tyC) I1 hsz kk un2 hok2 os2 bare2 ea ed hd1 q2
/-! ### an exception as a value: C(e, ..) -/
/-- an exception of the class at C with these fields -/
def ExO (H : Hp) (a C : Addr) (fs : List (Str × V)) : Prop := ∃ dd, H a = some (exo a C (some dd)) ∧ H dd = some (exd dd fs)
theorem ExO.same {H H' : Hp} {a C : Addr} {fs : List (Str × V)} (s : Same H H') (h : ExO H a C fs) : ExO H' a C fs := by
  obtain ⟨dd, h1, h2⟩ := h
  exact ⟨dd, s _ _ h1, s _ _ h2⟩
def tXmk (C : Addr) (sp : Sp) (ta : TA) : TE := fun σ H Q => ta σ H fun vs H1 => vs.length ≤ 1000 ∧ ∀ a, H1 a = none → sp (.ref a :: vs) (upd H1 a (exo a C none))
    (fun v H2 => v = .non ∧ ∃ (d : Addr) (fs : List (Str × V)), H2 a = some (exo a C (some d)) ∧ H2 d = some (exd d fs) ∧ H1 d = none ∧ Q (.ref a) H2) E0
theorem pe_xmk (T : OexB X.K C) (iC : PySem.W.findIn X.K (.ref C) "__init__" = some (some (.ref fI))) (tI : PySem.W.typeIn X.K (.ref fI) = some (.type "function"))
    (F : FnG gd X.prog X.w X.K X.mg X.base k fI fd ps sp) (hr : Room (k + 1) X.A) (hgu : gd = true → X.A.guards = some []) (hb : Binds X.K fd ps []) (hg : Gl X x)
    (hm : X.mg x = some (.ref C)) (ha : PA X (e :: es) t) (hdb : (x == ("__debug__" : Str)) = false := by decide)
    (he : starEach (e :: es) X.env = (false, eval e X.env) :: starEach es X.env := by rfl) (hpl : (backTo pos (starEach es X.env)).any (·.1) = false := by rfl) :
    PE X (.Call (.Name x p) (e :: es) [] pos) (tXmk C sp t) := by
  constructor
  intro pins s σ H Q I h
  refine wpAny_Call_Name_kw (ld_glob I hg hm ?_ hdb)
  refine PySem.W.callWith_K (h₀ := X.base) I.ok.mod.kin T.kC (thn (ha.run pos pins s σ H _ I h) ?_) he hpl
  rintro us s1 ⟨vs, H1, I1, r1, hz, q1⟩
  refine ⟨I1.kIn, ?_⟩
  refine run_xmk (Q := fun a d fs H2 => Q (.ref a) H2) T iC tI F hr hgu (all := us) (kw := []) (fun a s2 K2 => ?_) I1 r1 (by show us.length ≤ 1000; rw [← Paired.length r1]; exact hz) q1 fun a hp2 s' H2 d fs hsz kk os2 bare2 un2 hok2 I3 ea ed hd1 q2 => ?_
  · have hl := F.len _ _ _ _ (q1 _ (I1.hok.fresh (Nat.le_refl _)))
    have bb := hb s2 (.ref a :: us) K2 (by rw [List.append_nil, List.length_cons, ← Paired.length r1]; exact hl)
    rw [List.append_nil] at bb
    exact bb
  · exact ⟨.ref a, H2, I3, rfl, q2⟩
/-- C(k = e, ..), keywords alone: gV brings the values into the order of the parameters -/
def tXmkK (C : Addr) (sp : Sp) (n : Nat) (gV : List V → List V → List V) (tk : TA) : TE := fun σ H Q => tk σ H fun zs H1 => zs.length = n ∧ ∀ a, H1 a = none → sp (gV [.ref a] zs) (upd H1 a (exo a C none))
    (fun v H2 => v = .non ∧ ∃ (d : Addr) (fs : List (Str × V)), H2 a = some (exo a C (some d)) ∧ H2 d = some (exd d fs) ∧ H1 d = none ∧ Q (.ref a) H2) E0
theorem pe_xmkK {ks : List Str} {kws : List Keyword} {tk : TA} {g : List Value → List Value} {gV : List V → List V} (T : OexB X.K C) (iC : PySem.W.findIn X.K (.ref C) "__init__" = some (some (.ref fI))) (tI : PySem.W.typeIn X.K (.ref fI) = some (.type "function"))
    (F : FnG gd X.prog X.w X.K X.mg X.base k fI fd ps sp) (hr : Room (k + 1) X.A) (hgu : gd = true → X.A.guards = some []) (hb : KBn X.K fd ps 1 ks (fun us ws => us ++ g ws) (fun us ws => us ++ gV ws))
    (hrel : ∀ {zs : List V} {ws : List Value}, Vals zs ws → Vals (gV zs) (g ws)) (hg : Gl X x)
    (hm : X.mg x = some (.ref C)) (hkw : PK X kws tk) (hall : (backToKw pos (keywordEach kws X.env)).all (·.1.isSome) = true := by rfl) (hks : (backToKw pos (keywordEach kws X.env)).filterMap (·.1) = ks := by rfl)
    (hdb : (x == ("__debug__" : Str)) = false := by decide) (hpl : ((backTo pos (starEach [] X.env)).any (·.1) || (backToKw pos (keywordEach kws X.env)).any (·.1.isNone)) = false := by rfl) :
    PE X (.Call (.Name x p) [] kws pos) (tXmkK C sp ks.length (fun us ws => us ++ gV ws) tk) := by
  constructor
  intro pins s σ H Q I h
  refine wpAny_Call_Name_kw (ld_glob I hg hm ?_ hdb)
  refine PySem.W.callWith_KW0 (h₀ := X.base) I.ok.mod.kin T.kC hall (thn (hkw.run pos pins s σ H _ I h) fun ws s2 ⟨zs, H2, I2, rz, l2, q2⟩ => ⟨I2.kIn, ?_⟩) hpl
  rw [hks]
  have e2 : ws.length = ks.length := rz.length.symm.trans l2
  exact run_xmk (Q := fun a d fs H2 => Q (.ref a) H2) T iC tI F hr hgu (us := []) (fun a s2 K2 => hb.to s2 [.ref a] ws K2 rfl e2) I2 (hrel rz) (by decide) q2 fun a hp2 s' H2 d fs hsz kk os2 bare2 un2 hok2 I3 ea ed hd1 q2 => ⟨.ref a, H2, I3, rfl, q2⟩
end
theorem Fun.kbn {K : PySem.W.Frag} {x qual : Str} {st : Stmt} {f : Addr} {fd : FuncData} {ps : List Str} {n : Nat} {ks : List Str} {g : List Value → List Value → List Value} {gV : List V → List V → List V} (F : L2.Fun K x qual st f fd)
    (h : ∀ (kV doc pm : Value) (an : Option Addr) (cdv ct : Value) (us ws : List Value), us.length = n → ws.length = ks.length → bindArgs (PySem.W.fnOf x qual (defArgs st) (defBody st) (defScope st) .none kV doc pm an cdv ct) ⟨us, ks.zip ws⟩ = pure (ps.zip (g us ws)))
    (rel : ∀ {vs : List V} {us : List Value} {zs : List V} {ws : List Value}, Vals vs us → Vals zs ws → Vals (gV vs zs) (g us ws)) : KBn K fd ps n ks g gV := by
  obtain ⟨oc, od, kV, doc, pm, an, cdv, ct, osl, rfl, lk, hcd⟩ := F.ex
  exact ⟨fun s us ws _ l1 l2 => .of_eq (h kV doc pm an cdv ct us ws l1 l2), rel⟩
end Z
namespace Z
open PySem PySem.Spec PyProof.Rows L2
/-! ### the fields and the classes of an exception that is a value -/
/-- e.f, of an exception of whatever class -/
def tXo (K : PySem.W.Frag) (f : Str) (te : TE) : TE := fun σ H Q => te σ H fun x H1 => ∃ (a C : Addr) (fs : List (Str × V)) (v : V), x = .ref a ∧ ExO H1 a C fs ∧ XfC K C ∧ PySem.W.findIn K (.ref C) f = some none ∧ fs.lookup f = some v ∧ Q v H1
/-- isinstance(e, c) -/
def rIsO (K : PySem.W.Frag) : List V → Hp → VK → Prop := fun xs H Q => ∃ (a C : Addr) (fs : List (Str × V)) (c : V) (u : Value) (b : Bool), xs = [.ref a, c] ∧ ExO H a C fs ∧ ExT K C ∧ ClsV c u ∧ PySem.W.kitOne K (.ref C) u = some b ∧ Q (.bl b) H
section
variable {X : Cx}
theorem exo_in {pins : List (Addr × Obj)} {σ : St} {H : Hp} {s : Shared} {a C : Addr} {fs : List (Str × V)} (I : Inv X pins σ H s) (h : ExO H a C fs) :
    ∃ (oe od : Obj) (mA : Str → Option Value), PySem.W.InstAt s.heap a oe C (some od) ∧ (∀ f, PySem.W.lookIn f od = some (mA f)) ∧ ∀ f, RelO (fs.lookup f) (mA f) := by
  obtain ⟨dd, e1, e2⟩ := h
  obtain ⟨t1, ho⟩ := exo_at I.hok e1
  obtain ⟨mA, ns, rel⟩ := exd_at I.hok e2
  obtain ⟨od, h1, h2⟩ := lookIn_ns ns
  exact ⟨_, od, mA, ⟨ho, rfl, rfl, h1⟩, h2, rel⟩
theorem pe_xo {e : Expr} {te : TE} {pos : Pos} {n : Str} (he : PE X e te) (hb : attributeBase e n X.env (eval e X.env) = eval e X.env := by rfl) :
    PE X (.Attribute e n pos) (tXo X.K n te) := by
  constructor
  intro pins s σ H Q I h
  refine attr_of hb (thn (he.run pins s σ H _ I h) ?_)
  rintro u s1 ⟨x, H1, I1, rx, a, C, fs, v, rfl, ha, T, hno, hl, q⟩
  obtain rfl : u = Value.ref a := rx
  obtain ⟨oe, od, mA, J, lk, rel⟩ := exo_in I1 ha
  obtain ⟨u, hu, ru⟩ := RelO.some_of (v := v) (o := mA n) (by rw [← hl]; exact rel n)
  exact HandSPX.exc_get I1.kIn J T.ga T.gg T.exC (PySem.W.findObj_own T.hdC hno rfl (by rw [lk, hu])) (handed_of ru) ⟨v, H1, I1.tok _, ru, q⟩
theorem call_isO : CallR X (.builtin "isinstance") (rIsO X.K) := by
  intro pins s σ H xs us Q I r h
  obtain ⟨a, C, fs, c, cv, b, rfl, ha, T, k, e, q⟩ := h
  obtain ⟨u1, u2, rfl, r1, r2⟩ := vals2 r
  have e2 := k.eq r2
  subst e2
  obtain rfl : u1 = Value.ref a := r1
  obtain ⟨oe, od, mA, J, _⟩ := exo_in I ha
  exact PySem.W.kia_one (PySem.W.kitx_exc T.cl T.xf.ga T.xf.gg T.xf.exC T.ha T.hn T.ht T.hm) I.kIn J e (fun z => nomatch z) fun tk => ⟨.bl b, H, I.tok tk, rfl, q⟩
end
end Z
namespace Z
open PySem PySem.Spec PyProof.Rows L2
theorem vals_getD : ∀ {zs : List V} {ws : List Value}, Vals zs ws → ∀ i, RelV (zs.getD i .non) (ws.getD i .none)
  | _, _, .nil, i => by simp only [List.getD_nil]; exact rfl
  | _, _, .cons r t, 0 => r
  | _, _, .cons r t, i + 1 => vals_getD t i
/-- an own class whose classes above are built-in -/
def MroT (K : PySem.W.Frag) (C : Addr) (ts : List String) : Prop := ∃ cd, PySem.W.clsIn K C = some cd ∧ cd.mro = .ref C :: ts.map .type
theorem mroT_of {K : PySem.W.Frag} {nm q : Str} {C N : Addr} {bs bm : List Value} {hd : Bool} {sn : List Str} {sub : List Value} {ab : Bool} {col : Option Bool} {dd : Option Addr} {k0 k1 k2 k3 k5 : Option Value} {newId : String} {ts : List String}
    (h : K.lookup C = some (excClassObj nm q C N bs bm hd sn sub ab col dd k0 k1 k2 k3 k5 newId)) (e : bm = ts.map .type) : MroT K C ts := by
  subst e
  exact ⟨{ name := nm, bases := bs, mro := .ref C :: ts.map .type, ns := N, qualname := q, hasDict := hd, slotNames := sn, subclasses := sub, abstract := ab, collection := col, hasDel := false }, by unfold PySem.W.clsIn; rw [h] <;> rfl, rfl⟩
theorem MroT.ref {K : PySem.W.Frag} {C D : Addr} {ts : List String} (h : MroT K C ts) : PySem.W.subIn K (.ref C) (.ref D) = some (decide (C = D)) := by
  obtain ⟨cd, h1, h2⟩ := h
  show PySem.W.mroIn K C (.ref D) = _
  unfold PySem.W.mroIn
  rw [h1, Option.bind_some, h2]
  have : (ts.map Value.type).contains (.ref D) = false := by
    rw [List.contains_eq_mem]
    simp
  by_cases e : C = D
  · subst e
    simp
  · have e2 : ¬ D = C := fun z => e z.symm
    simp [e, e2]
theorem MroT.type {K : PySem.W.Frag} {C : Addr} {ts : List String} {T : String} (h : MroT K C ts) : PySem.W.subIn K (.ref C) (.type T) = some (decide (T ∈ ts)) := by
  obtain ⟨cd, h1, h2⟩ := h
  show PySem.W.mroIn K C (.type T) = _
  unfold PySem.W.mroIn
  rw [h1, Option.bind_some, h2]
  simp
/-- isinstance over own classes that are unlike -/
theorem kit_own {K : PySem.W.Frag} {C D : Addr} {ts : List String} (h : MroT K C ts) (hc : (PySem.W.clsIn K D).isSome = true) (ht : PySem.W.typeIn K (.ref D) = some (.type "type")) : PySem.W.kitOne K (.ref C) (.ref D) = some (decide (C = D)) := by
  by_cases e : C = D
  · subst e
    rw [kit_one]
    simp
  · refine kit_cls ?_ hc ht h.ref
    have : decide (C = D) = false := by simp [e]
    rw [this, beq_eq_false_iff_ne]
    exact fun z => e (Value.ref.inj z)
end Z
namespace Z
open PySem PySem.Spec PyProof.Rows L2
def top (i : Nat) : Stmt := PySem.Challenge.pw_falsedefaults_k14_errors_by_hand.main.body.getD i (.Pass ⟨0, 0, 0, 0⟩)
abbrev s_BadName_init : Stmt := inClass (top 1) 0
abbrev s_BadValue_init : Stmt := inClass (top 2) 0
abbrev s_BadTest_init : Stmt := inClass (top 3) 0
abbrev s_BadStep_init : Stmt := inClass (top 4) 0
abbrev s_BadFail_init : Stmt := inClass (top 5) 0
abbrev s_BadPair_init : Stmt := inClass (top 6) 0
abbrev s_BadKind_init : Stmt := inClass (top 7) 0
abbrev s_BadMend_init : Stmt := inClass (top 8) 0
abbrev s_BadText_init : Stmt := inClass (top 9) 0
abbrev s_BadCommand_init : Stmt := inClass (top 10) 0
abbrev s_Twice_init : Stmt := inClass (top 11) 0
abbrev s_Taken_init : Stmt := inClass (top 12) 0
abbrev s_Misplaced_init : Stmt := inClass (top 13) 0
abbrev s_Unlike_init : Stmt := inClass (top 14) 0
abbrev s_NoHandler_init : Stmt := inClass (top 15) 0
abbrev s_NoPlace_init : Stmt := inClass (top 16) 0
abbrev s_NotTyped_init : Stmt := inClass (top 17) 0
abbrev s_Refused_init : Stmt := inClass (top 18) 0
abbrev s_Shut_init : Stmt := inClass (top 19) 0
abbrev s_TooMany_init : Stmt := inClass (top 20) 0
abbrev s_is_name : Stmt := top 25
abbrev s_is_int : Stmt := top 26
abbrev s_check_name : Stmt := top 27
abbrev s_check_operand : Stmt := top 28
abbrev s_law_deck : Stmt := top 30
abbrev s_law_draw : Stmt := top 31
abbrev s_law_of : Stmt := top 32
abbrev s_law_number : Stmt := top 33
abbrev s_law_names : Stmt := top 34
abbrev s_law_thing : Stmt := top 35
abbrev s_law_made : Stmt := top 36
abbrev s_law_made_by_name : Stmt := top 37
abbrev s_law_is_checked : Stmt := top 38
abbrev s_law_has : Stmt := top 39
abbrev s_law_kinds : Stmt := top 40
abbrev s_law_above : Stmt := top 41
abbrev s_law : Stmt := top 42
structure Ads where
  f_BadName_init : Addr
  d_BadName_init : FuncData
  f_BadValue_init : Addr
  d_BadValue_init : FuncData
  f_BadTest_init : Addr
  d_BadTest_init : FuncData
  f_BadStep_init : Addr
  d_BadStep_init : FuncData
  f_BadFail_init : Addr
  d_BadFail_init : FuncData
  f_BadPair_init : Addr
  d_BadPair_init : FuncData
  f_BadKind_init : Addr
  d_BadKind_init : FuncData
  f_BadMend_init : Addr
  d_BadMend_init : FuncData
  f_BadText_init : Addr
  d_BadText_init : FuncData
  f_BadCommand_init : Addr
  d_BadCommand_init : FuncData
  f_Twice_init : Addr
  d_Twice_init : FuncData
  f_Taken_init : Addr
  d_Taken_init : FuncData
  f_Misplaced_init : Addr
  d_Misplaced_init : FuncData
  f_Unlike_init : Addr
  d_Unlike_init : FuncData
  f_NoHandler_init : Addr
  d_NoHandler_init : FuncData
  f_NoPlace_init : Addr
  d_NoPlace_init : FuncData
  f_NotTyped_init : Addr
  d_NotTyped_init : FuncData
  f_Refused_init : Addr
  d_Refused_init : FuncData
  f_Shut_init : Addr
  d_Shut_init : FuncData
  f_TooMany_init : Addr
  d_TooMany_init : FuncData
  f_is_name : Addr
  d_is_name : FuncData
  f_is_int : Addr
  d_is_int : FuncData
  f_check_name : Addr
  d_check_name : FuncData
  f_check_operand : Addr
  d_check_operand : FuncData
  f_law_deck : Addr
  d_law_deck : FuncData
  f_law_draw : Addr
  d_law_draw : FuncData
  f_law_of : Addr
  d_law_of : FuncData
  f_law_number : Addr
  d_law_number : FuncData
  f_law_names : Addr
  d_law_names : FuncData
  f_law_thing : Addr
  d_law_thing : FuncData
  f_law_made : Addr
  d_law_made : FuncData
  f_law_made_by_name : Addr
  d_law_made_by_name : FuncData
  f_law_is_checked : Addr
  d_law_is_checked : FuncData
  f_law_has : Addr
  d_law_has : FuncData
  f_law_kinds : Addr
  d_law_kinds : FuncData
  f_law_above : Addr
  d_law_above : FuncData
  f_law : Addr
  d_law : FuncData
  c_BadName : Addr
  c_BadValue : Addr
  c_BadTest : Addr
  c_BadStep : Addr
  c_BadFail : Addr
  c_BadPair : Addr
  c_BadKind : Addr
  c_BadMend : Addr
  c_BadText : Addr
  c_BadCommand : Addr
  c_Twice : Addr
  c_Taken : Addr
  c_Misplaced : Addr
  c_Unlike : Addr
  c_NoHandler : Addr
  c_NoPlace : Addr
  c_NotTyped : Addr
  c_Refused : Addr
  c_Shut : Addr
  c_TooMany : Addr
structure Txt (K : PySem.W.Frag) (mg : Str → Option Value) (g : Ads) : Prop where
  f_BadName_init : Fun K "__init__" "BadName.__init__" s_BadName_init g.f_BadName_init g.d_BadName_init
  e_BadName_init : Binds K g.d_BadName_init ["self", "name"] []
  f_BadValue_init : Fun K "__init__" "BadValue.__init__" s_BadValue_init g.f_BadValue_init g.d_BadValue_init
  e_BadValue_init : Binds K g.d_BadValue_init ["self", "value"] []
  f_BadTest_init : Fun K "__init__" "BadTest.__init__" s_BadTest_init g.f_BadTest_init g.d_BadTest_init
  e_BadTest_init : Binds K g.d_BadTest_init ["self", "test"] []
  f_BadStep_init : Fun K "__init__" "BadStep.__init__" s_BadStep_init g.f_BadStep_init g.d_BadStep_init
  e_BadStep_init : Binds K g.d_BadStep_init ["self", "index"] []
  f_BadFail_init : Fun K "__init__" "BadFail.__init__" s_BadFail_init g.f_BadFail_init g.d_BadFail_init
  e_BadFail_init : Binds K g.d_BadFail_init ["self", "index"] []
  f_BadPair_init : Fun K "__init__" "BadPair.__init__" s_BadPair_init g.f_BadPair_init g.d_BadPair_init
  e_BadPair_init : Binds K g.d_BadPair_init ["self", "index"] []
  f_BadKind_init : Fun K "__init__" "BadKind.__init__" s_BadKind_init g.f_BadKind_init g.d_BadKind_init
  e_BadKind_init : Binds K g.d_BadKind_init ["self", "kind"] []
  f_BadMend_init : Fun K "__init__" "BadMend.__init__" s_BadMend_init g.f_BadMend_init g.d_BadMend_init
  e_BadMend_init : Binds K g.d_BadMend_init ["self", "index"] []
  f_BadText_init : Fun K "__init__" "BadText.__init__" s_BadText_init g.f_BadText_init g.d_BadText_init
  e_BadText_init : Binds K g.d_BadText_init ["self", "line"] []
  f_BadCommand_init : Fun K "__init__" "BadCommand.__init__" s_BadCommand_init g.f_BadCommand_init g.d_BadCommand_init
  e_BadCommand_init : Binds K g.d_BadCommand_init ["self", "command"] []
  f_Twice_init : Fun K "__init__" "Twice.__init__" s_Twice_init g.f_Twice_init g.d_Twice_init
  e_Twice_init : Binds K g.d_Twice_init ["self", "name"] []
  f_Taken_init : Fun K "__init__" "Taken.__init__" s_Taken_init g.f_Taken_init g.d_Taken_init
  e_Taken_init : Binds K g.d_Taken_init ["self", "name"] []
  f_Misplaced_init : Fun K "__init__" "Misplaced.__init__" s_Misplaced_init g.f_Misplaced_init g.d_Misplaced_init
  e_Misplaced_init : Binds K g.d_Misplaced_init ["self", "handler", "number", "name"] []
  f_Unlike_init : Fun K "__init__" "Unlike.__init__" s_Unlike_init g.f_Unlike_init g.d_Unlike_init
  e_Unlike_init : Binds K g.d_Unlike_init ["self", "name"] []
  f_NoHandler_init : Fun K "__init__" "NoHandler.__init__" s_NoHandler_init g.f_NoHandler_init g.d_NoHandler_init
  e_NoHandler_init : Binds K g.d_NoHandler_init ["self", "name"] []
  f_NoPlace_init : Fun K "__init__" "NoPlace.__init__" s_NoPlace_init g.f_NoPlace_init g.d_NoPlace_init
  e_NoPlace_init : Binds K g.d_NoPlace_init ["self", "name"] []
  f_NotTyped_init : Fun K "__init__" "NotTyped.__init__" s_NotTyped_init g.f_NotTyped_init g.d_NotTyped_init
  e_NotTyped_init : Binds K g.d_NotTyped_init ["self", "name"] []
  f_Refused_init : Fun K "__init__" "Refused.__init__" s_Refused_init g.f_Refused_init g.d_Refused_init
  e_Refused_init : Binds K g.d_Refused_init ["self", "target", "number"] []
  f_Shut_init : Fun K "__init__" "Shut.__init__" s_Shut_init g.f_Shut_init g.d_Shut_init
  e_Shut_init : Binds K g.d_Shut_init ["self", "name"] []
  f_TooMany_init : Fun K "__init__" "TooMany.__init__" s_TooMany_init g.f_TooMany_init g.d_TooMany_init
  e_TooMany_init : Binds K g.d_TooMany_init ["self", "limit"] []
  f_is_name : Fun K "is_name" "is_name" s_is_name g.f_is_name g.d_is_name
  e_is_name : Binds K g.d_is_name ["thing"] []
  g_is_name : mg "is_name" = some (.ref g.f_is_name)
  k_is_name : PySem.W.keepIn K (.ref g.f_is_name) = true
  f_is_int : Fun K "is_int" "is_int" s_is_int g.f_is_int g.d_is_int
  e_is_int : Binds K g.d_is_int ["thing"] []
  g_is_int : mg "is_int" = some (.ref g.f_is_int)
  k_is_int : PySem.W.keepIn K (.ref g.f_is_int) = true
  f_check_name : Fun K "check_name" "check_name" s_check_name g.f_check_name g.d_check_name
  e_check_name : Binds K g.d_check_name ["thing"] []
  g_check_name : mg "check_name" = some (.ref g.f_check_name)
  k_check_name : PySem.W.keepIn K (.ref g.f_check_name) = true
  f_check_operand : Fun K "check_operand" "check_operand" s_check_operand g.f_check_operand g.d_check_operand
  e_check_operand : Binds K g.d_check_operand ["thing"] []
  g_check_operand : mg "check_operand" = some (.ref g.f_check_operand)
  k_check_operand : PySem.W.keepIn K (.ref g.f_check_operand) = true
  f_law_deck : Fun K "_law_deck" "_law_deck" s_law_deck g.f_law_deck g.d_law_deck
  e_law_deck : Binds K g.d_law_deck ["script", "turn"] []
  g_law_deck : mg "_law_deck" = some (.ref g.f_law_deck)
  k_law_deck : PySem.W.keepIn K (.ref g.f_law_deck) = true
  f_law_draw : Fun K "_law_draw" "_law_draw" s_law_draw g.f_law_draw g.d_law_draw
  e_law_draw : Binds K g.d_law_draw ["deck", "many"] []
  g_law_draw : mg "_law_draw" = some (.ref g.f_law_draw)
  k_law_draw : PySem.W.keepIn K (.ref g.f_law_draw) = true
  f_law_of : Fun K "_law_of" "_law_of" s_law_of g.f_law_of g.d_law_of
  e_law_of : Binds K g.d_law_of ["deck", "some"] []
  g_law_of : mg "_law_of" = some (.ref g.f_law_of)
  k_law_of : PySem.W.keepIn K (.ref g.f_law_of) = true
  f_law_number : Fun K "_law_number" "_law_number" s_law_number g.f_law_number g.d_law_number
  e_law_number : Binds K g.d_law_number ["deck"] []
  g_law_number : mg "_law_number" = some (.ref g.f_law_number)
  k_law_number : PySem.W.keepIn K (.ref g.f_law_number) = true
  f_law_names : Fun K "_law_names" "_law_names" s_law_names g.f_law_names g.d_law_names
  e_law_names : Binds K g.d_law_names ["deck", "many"] []
  g_law_names : mg "_law_names" = some (.ref g.f_law_names)
  k_law_names : PySem.W.keepIn K (.ref g.f_law_names) = true
  f_law_thing : Fun K "_law_thing" "_law_thing" s_law_thing g.f_law_thing g.d_law_thing
  e_law_thing : Binds K g.d_law_thing ["deck"] []
  g_law_thing : mg "_law_thing" = some (.ref g.f_law_thing)
  k_law_thing : PySem.W.keepIn K (.ref g.f_law_thing) = true
  f_law_made : Fun K "_law_made" "_law_made" s_law_made g.f_law_made g.d_law_made
  e_law_made : Binds K g.d_law_made ["k", "one"] []
  g_law_made : mg "_law_made" = some (.ref g.f_law_made)
  k_law_made : PySem.W.keepIn K (.ref g.f_law_made) = true
  f_law_made_by_name : Fun K "_law_made_by_name" "_law_made_by_name" s_law_made_by_name g.f_law_made_by_name g.d_law_made_by_name
  e_law_made_by_name : Binds K g.d_law_made_by_name ["k", "one"] []
  g_law_made_by_name : mg "_law_made_by_name" = some (.ref g.f_law_made_by_name)
  k_law_made_by_name : PySem.W.keepIn K (.ref g.f_law_made_by_name) = true
  f_law_is_checked : Fun K "_law_is_checked" "_law_is_checked" s_law_is_checked g.f_law_is_checked g.d_law_is_checked
  e_law_is_checked : Binds K g.d_law_is_checked ["thing"] []
  g_law_is_checked : mg "_law_is_checked" = some (.ref g.f_law_is_checked)
  k_law_is_checked : PySem.W.keepIn K (.ref g.f_law_is_checked) = true
  f_law_has : Fun K "_law_has" "_law_has" s_law_has g.f_law_has g.d_law_has
  e_law_has : Binds K g.d_law_has ["k", "e"] []
  g_law_has : mg "_law_has" = some (.ref g.f_law_has)
  k_law_has : PySem.W.keepIn K (.ref g.f_law_has) = true
  f_law_kinds : Fun K "_law_kinds" "_law_kinds" s_law_kinds g.f_law_kinds g.d_law_kinds
  e_law_kinds : Binds K g.d_law_kinds ["e"] []
  g_law_kinds : mg "_law_kinds" = some (.ref g.f_law_kinds)
  k_law_kinds : PySem.W.keepIn K (.ref g.f_law_kinds) = true
  f_law_above : Fun K "_law_above" "_law_above" s_law_above g.f_law_above g.d_law_above
  e_law_above : Binds K g.d_law_above ["e"] []
  g_law_above : mg "_law_above" = some (.ref g.f_law_above)
  k_law_above : PySem.W.keepIn K (.ref g.f_law_above) = true
  f_law : Fun K "law" "law" s_law g.f_law g.d_law
  e_law : Binds K g.d_law ["script"] []
  g_law : mg "law" = some (.ref g.f_law)
  k_law : PySem.W.keepIn K (.ref g.f_law) = true
  g_BadName : mg "BadName" = some (.ref g.c_BadName)
  o_BadName : OexB K g.c_BadName
  xt_BadName : ExT K g.c_BadName
  mt_BadName : MroT K g.c_BadName ["ValueError", "Exception", "BaseException", "object"]
  kb_BadName_5 : KBn K g.d_BadName_init ["self", "name"] 1 ["name"] (fun us ws => us ++ (fun ws => ws) ws) (fun us ws => us ++ (fun zs => zs) ws)
  x_BadName : XfC K g.c_BadName
  h_BadName : PySem.W.exmOne K (.ref g.c_BadName) (.ref g.c_BadName) = some true
  i_BadName : PySem.W.findIn K (.ref g.c_BadName) "__init__" = some (some (.ref g.f_BadName_init))
  t_BadName : PySem.W.typeIn K (.ref g.f_BadName_init) = some (.type "function")
  a_BadName_name : PySem.W.findIn K (.ref g.c_BadName) "name" = some none
  g_BadValue : mg "BadValue" = some (.ref g.c_BadValue)
  o_BadValue : OexB K g.c_BadValue
  xt_BadValue : ExT K g.c_BadValue
  mt_BadValue : MroT K g.c_BadValue ["ValueError", "Exception", "BaseException", "object"]
  kb_BadValue_6 : KBn K g.d_BadValue_init ["self", "value"] 1 ["value"] (fun us ws => us ++ (fun ws => ws) ws) (fun us ws => us ++ (fun zs => zs) ws)
  x_BadValue : XfC K g.c_BadValue
  h_BadValue : PySem.W.exmOne K (.ref g.c_BadValue) (.ref g.c_BadValue) = some true
  i_BadValue : PySem.W.findIn K (.ref g.c_BadValue) "__init__" = some (some (.ref g.f_BadValue_init))
  t_BadValue : PySem.W.typeIn K (.ref g.f_BadValue_init) = some (.type "function")
  a_BadValue_value : PySem.W.findIn K (.ref g.c_BadValue) "value" = some none
  g_BadTest : mg "BadTest" = some (.ref g.c_BadTest)
  o_BadTest : OexB K g.c_BadTest
  xt_BadTest : ExT K g.c_BadTest
  mt_BadTest : MroT K g.c_BadTest ["ValueError", "Exception", "BaseException", "object"]
  kb_BadTest_7 : KBn K g.d_BadTest_init ["self", "test"] 1 ["test"] (fun us ws => us ++ (fun ws => ws) ws) (fun us ws => us ++ (fun zs => zs) ws)
  x_BadTest : XfC K g.c_BadTest
  h_BadTest : PySem.W.exmOne K (.ref g.c_BadTest) (.ref g.c_BadTest) = some true
  i_BadTest : PySem.W.findIn K (.ref g.c_BadTest) "__init__" = some (some (.ref g.f_BadTest_init))
  t_BadTest : PySem.W.typeIn K (.ref g.f_BadTest_init) = some (.type "function")
  a_BadTest_test : PySem.W.findIn K (.ref g.c_BadTest) "test" = some none
  g_BadStep : mg "BadStep" = some (.ref g.c_BadStep)
  o_BadStep : OexB K g.c_BadStep
  xt_BadStep : ExT K g.c_BadStep
  mt_BadStep : MroT K g.c_BadStep ["ValueError", "Exception", "BaseException", "object"]
  kb_BadStep_8 : KBn K g.d_BadStep_init ["self", "index"] 1 ["index"] (fun us ws => us ++ (fun ws => ws) ws) (fun us ws => us ++ (fun zs => zs) ws)
  x_BadStep : XfC K g.c_BadStep
  h_BadStep : PySem.W.exmOne K (.ref g.c_BadStep) (.ref g.c_BadStep) = some true
  i_BadStep : PySem.W.findIn K (.ref g.c_BadStep) "__init__" = some (some (.ref g.f_BadStep_init))
  t_BadStep : PySem.W.typeIn K (.ref g.f_BadStep_init) = some (.type "function")
  a_BadStep_index : PySem.W.findIn K (.ref g.c_BadStep) "index" = some none
  g_BadFail : mg "BadFail" = some (.ref g.c_BadFail)
  o_BadFail : OexB K g.c_BadFail
  xt_BadFail : ExT K g.c_BadFail
  mt_BadFail : MroT K g.c_BadFail ["ValueError", "Exception", "BaseException", "object"]
  kb_BadFail_9 : KBn K g.d_BadFail_init ["self", "index"] 1 ["index"] (fun us ws => us ++ (fun ws => ws) ws) (fun us ws => us ++ (fun zs => zs) ws)
  x_BadFail : XfC K g.c_BadFail
  h_BadFail : PySem.W.exmOne K (.ref g.c_BadFail) (.ref g.c_BadFail) = some true
  i_BadFail : PySem.W.findIn K (.ref g.c_BadFail) "__init__" = some (some (.ref g.f_BadFail_init))
  t_BadFail : PySem.W.typeIn K (.ref g.f_BadFail_init) = some (.type "function")
  a_BadFail_index : PySem.W.findIn K (.ref g.c_BadFail) "index" = some none
  g_BadPair : mg "BadPair" = some (.ref g.c_BadPair)
  o_BadPair : OexB K g.c_BadPair
  xt_BadPair : ExT K g.c_BadPair
  mt_BadPair : MroT K g.c_BadPair ["ValueError", "Exception", "BaseException", "object"]
  kb_BadPair_10 : KBn K g.d_BadPair_init ["self", "index"] 1 ["index"] (fun us ws => us ++ (fun ws => ws) ws) (fun us ws => us ++ (fun zs => zs) ws)
  x_BadPair : XfC K g.c_BadPair
  h_BadPair : PySem.W.exmOne K (.ref g.c_BadPair) (.ref g.c_BadPair) = some true
  i_BadPair : PySem.W.findIn K (.ref g.c_BadPair) "__init__" = some (some (.ref g.f_BadPair_init))
  t_BadPair : PySem.W.typeIn K (.ref g.f_BadPair_init) = some (.type "function")
  a_BadPair_index : PySem.W.findIn K (.ref g.c_BadPair) "index" = some none
  g_BadKind : mg "BadKind" = some (.ref g.c_BadKind)
  o_BadKind : OexB K g.c_BadKind
  xt_BadKind : ExT K g.c_BadKind
  mt_BadKind : MroT K g.c_BadKind ["ValueError", "Exception", "BaseException", "object"]
  kb_BadKind_11 : KBn K g.d_BadKind_init ["self", "kind"] 1 ["kind"] (fun us ws => us ++ (fun ws => ws) ws) (fun us ws => us ++ (fun zs => zs) ws)
  x_BadKind : XfC K g.c_BadKind
  h_BadKind : PySem.W.exmOne K (.ref g.c_BadKind) (.ref g.c_BadKind) = some true
  i_BadKind : PySem.W.findIn K (.ref g.c_BadKind) "__init__" = some (some (.ref g.f_BadKind_init))
  t_BadKind : PySem.W.typeIn K (.ref g.f_BadKind_init) = some (.type "function")
  a_BadKind_kind : PySem.W.findIn K (.ref g.c_BadKind) "kind" = some none
  g_BadMend : mg "BadMend" = some (.ref g.c_BadMend)
  o_BadMend : OexB K g.c_BadMend
  xt_BadMend : ExT K g.c_BadMend
  mt_BadMend : MroT K g.c_BadMend ["ValueError", "Exception", "BaseException", "object"]
  kb_BadMend_12 : KBn K g.d_BadMend_init ["self", "index"] 1 ["index"] (fun us ws => us ++ (fun ws => ws) ws) (fun us ws => us ++ (fun zs => zs) ws)
  x_BadMend : XfC K g.c_BadMend
  h_BadMend : PySem.W.exmOne K (.ref g.c_BadMend) (.ref g.c_BadMend) = some true
  i_BadMend : PySem.W.findIn K (.ref g.c_BadMend) "__init__" = some (some (.ref g.f_BadMend_init))
  t_BadMend : PySem.W.typeIn K (.ref g.f_BadMend_init) = some (.type "function")
  a_BadMend_index : PySem.W.findIn K (.ref g.c_BadMend) "index" = some none
  g_BadText : mg "BadText" = some (.ref g.c_BadText)
  o_BadText : OexB K g.c_BadText
  xt_BadText : ExT K g.c_BadText
  mt_BadText : MroT K g.c_BadText ["ValueError", "Exception", "BaseException", "object"]
  kb_BadText_13 : KBn K g.d_BadText_init ["self", "line"] 1 ["line"] (fun us ws => us ++ (fun ws => ws) ws) (fun us ws => us ++ (fun zs => zs) ws)
  x_BadText : XfC K g.c_BadText
  h_BadText : PySem.W.exmOne K (.ref g.c_BadText) (.ref g.c_BadText) = some true
  i_BadText : PySem.W.findIn K (.ref g.c_BadText) "__init__" = some (some (.ref g.f_BadText_init))
  t_BadText : PySem.W.typeIn K (.ref g.f_BadText_init) = some (.type "function")
  a_BadText_line : PySem.W.findIn K (.ref g.c_BadText) "line" = some none
  g_BadCommand : mg "BadCommand" = some (.ref g.c_BadCommand)
  o_BadCommand : OexB K g.c_BadCommand
  xt_BadCommand : ExT K g.c_BadCommand
  mt_BadCommand : MroT K g.c_BadCommand ["ValueError", "Exception", "BaseException", "object"]
  kb_BadCommand_14 : KBn K g.d_BadCommand_init ["self", "command"] 1 ["command"] (fun us ws => us ++ (fun ws => ws) ws) (fun us ws => us ++ (fun zs => zs) ws)
  x_BadCommand : XfC K g.c_BadCommand
  h_BadCommand : PySem.W.exmOne K (.ref g.c_BadCommand) (.ref g.c_BadCommand) = some true
  i_BadCommand : PySem.W.findIn K (.ref g.c_BadCommand) "__init__" = some (some (.ref g.f_BadCommand_init))
  t_BadCommand : PySem.W.typeIn K (.ref g.f_BadCommand_init) = some (.type "function")
  a_BadCommand_command : PySem.W.findIn K (.ref g.c_BadCommand) "command" = some none
  g_Twice : mg "Twice" = some (.ref g.c_Twice)
  o_Twice : OexB K g.c_Twice
  xt_Twice : ExT K g.c_Twice
  mt_Twice : MroT K g.c_Twice ["ValueError", "Exception", "BaseException", "object"]
  kb_Twice_15 : KBn K g.d_Twice_init ["self", "name"] 1 ["name"] (fun us ws => us ++ (fun ws => ws) ws) (fun us ws => us ++ (fun zs => zs) ws)
  x_Twice : XfC K g.c_Twice
  h_Twice : PySem.W.exmOne K (.ref g.c_Twice) (.ref g.c_Twice) = some true
  i_Twice : PySem.W.findIn K (.ref g.c_Twice) "__init__" = some (some (.ref g.f_Twice_init))
  t_Twice : PySem.W.typeIn K (.ref g.f_Twice_init) = some (.type "function")
  a_Twice_name : PySem.W.findIn K (.ref g.c_Twice) "name" = some none
  g_Taken : mg "Taken" = some (.ref g.c_Taken)
  o_Taken : OexB K g.c_Taken
  xt_Taken : ExT K g.c_Taken
  mt_Taken : MroT K g.c_Taken ["ValueError", "Exception", "BaseException", "object"]
  kb_Taken_16 : KBn K g.d_Taken_init ["self", "name"] 1 ["name"] (fun us ws => us ++ (fun ws => ws) ws) (fun us ws => us ++ (fun zs => zs) ws)
  x_Taken : XfC K g.c_Taken
  h_Taken : PySem.W.exmOne K (.ref g.c_Taken) (.ref g.c_Taken) = some true
  i_Taken : PySem.W.findIn K (.ref g.c_Taken) "__init__" = some (some (.ref g.f_Taken_init))
  t_Taken : PySem.W.typeIn K (.ref g.f_Taken_init) = some (.type "function")
  a_Taken_name : PySem.W.findIn K (.ref g.c_Taken) "name" = some none
  g_Misplaced : mg "Misplaced" = some (.ref g.c_Misplaced)
  o_Misplaced : OexB K g.c_Misplaced
  xt_Misplaced : ExT K g.c_Misplaced
  mt_Misplaced : MroT K g.c_Misplaced ["ValueError", "Exception", "BaseException", "object"]
  kb_Misplaced_18 : KBn K g.d_Misplaced_init ["self", "handler", "number", "name"] 1 ["name", "handler", "number"] (fun us ws => us ++ (fun ws => [ws.getD 1 .none, ws.getD 2 .none, ws.getD 0 .none]) ws) (fun us ws => us ++ (fun zs => [zs.getD 1 .non, zs.getD 2 .non, zs.getD 0 .non]) ws)
  x_Misplaced : XfC K g.c_Misplaced
  h_Misplaced : PySem.W.exmOne K (.ref g.c_Misplaced) (.ref g.c_Misplaced) = some true
  i_Misplaced : PySem.W.findIn K (.ref g.c_Misplaced) "__init__" = some (some (.ref g.f_Misplaced_init))
  t_Misplaced : PySem.W.typeIn K (.ref g.f_Misplaced_init) = some (.type "function")
  a_Misplaced_handler : PySem.W.findIn K (.ref g.c_Misplaced) "handler" = some none
  a_Misplaced_number : PySem.W.findIn K (.ref g.c_Misplaced) "number" = some none
  a_Misplaced_name : PySem.W.findIn K (.ref g.c_Misplaced) "name" = some none
  g_Unlike : mg "Unlike" = some (.ref g.c_Unlike)
  o_Unlike : OexB K g.c_Unlike
  xt_Unlike : ExT K g.c_Unlike
  mt_Unlike : MroT K g.c_Unlike ["ValueError", "Exception", "BaseException", "object"]
  kb_Unlike_17 : KBn K g.d_Unlike_init ["self", "name"] 1 ["name"] (fun us ws => us ++ (fun ws => ws) ws) (fun us ws => us ++ (fun zs => zs) ws)
  x_Unlike : XfC K g.c_Unlike
  h_Unlike : PySem.W.exmOne K (.ref g.c_Unlike) (.ref g.c_Unlike) = some true
  i_Unlike : PySem.W.findIn K (.ref g.c_Unlike) "__init__" = some (some (.ref g.f_Unlike_init))
  t_Unlike : PySem.W.typeIn K (.ref g.f_Unlike_init) = some (.type "function")
  a_Unlike_name : PySem.W.findIn K (.ref g.c_Unlike) "name" = some none
  g_NoHandler : mg "NoHandler" = some (.ref g.c_NoHandler)
  o_NoHandler : OexB K g.c_NoHandler
  xt_NoHandler : ExT K g.c_NoHandler
  mt_NoHandler : MroT K g.c_NoHandler ["LookupError", "Exception", "BaseException", "object"]
  kb_NoHandler_0 : KBn K g.d_NoHandler_init ["self", "name"] 1 ["name"] (fun us ws => us ++ (fun ws => ws) ws) (fun us ws => us ++ (fun zs => zs) ws)
  x_NoHandler : XfC K g.c_NoHandler
  h_NoHandler : PySem.W.exmOne K (.ref g.c_NoHandler) (.ref g.c_NoHandler) = some true
  i_NoHandler : PySem.W.findIn K (.ref g.c_NoHandler) "__init__" = some (some (.ref g.f_NoHandler_init))
  t_NoHandler : PySem.W.typeIn K (.ref g.f_NoHandler_init) = some (.type "function")
  a_NoHandler_name : PySem.W.findIn K (.ref g.c_NoHandler) "name" = some none
  g_NoPlace : mg "NoPlace" = some (.ref g.c_NoPlace)
  o_NoPlace : OexB K g.c_NoPlace
  xt_NoPlace : ExT K g.c_NoPlace
  mt_NoPlace : MroT K g.c_NoPlace ["LookupError", "Exception", "BaseException", "object"]
  kb_NoPlace_1 : KBn K g.d_NoPlace_init ["self", "name"] 1 ["name"] (fun us ws => us ++ (fun ws => ws) ws) (fun us ws => us ++ (fun zs => zs) ws)
  x_NoPlace : XfC K g.c_NoPlace
  h_NoPlace : PySem.W.exmOne K (.ref g.c_NoPlace) (.ref g.c_NoPlace) = some true
  i_NoPlace : PySem.W.findIn K (.ref g.c_NoPlace) "__init__" = some (some (.ref g.f_NoPlace_init))
  t_NoPlace : PySem.W.typeIn K (.ref g.f_NoPlace_init) = some (.type "function")
  a_NoPlace_name : PySem.W.findIn K (.ref g.c_NoPlace) "name" = some none
  g_NotTyped : mg "NotTyped" = some (.ref g.c_NotTyped)
  o_NotTyped : OexB K g.c_NotTyped
  xt_NotTyped : ExT K g.c_NotTyped
  mt_NotTyped : MroT K g.c_NotTyped ["LookupError", "Exception", "BaseException", "object"]
  kb_NotTyped_2 : KBn K g.d_NotTyped_init ["self", "name"] 1 ["name"] (fun us ws => us ++ (fun ws => ws) ws) (fun us ws => us ++ (fun zs => zs) ws)
  x_NotTyped : XfC K g.c_NotTyped
  h_NotTyped : PySem.W.exmOne K (.ref g.c_NotTyped) (.ref g.c_NotTyped) = some true
  i_NotTyped : PySem.W.findIn K (.ref g.c_NotTyped) "__init__" = some (some (.ref g.f_NotTyped_init))
  t_NotTyped : PySem.W.typeIn K (.ref g.f_NotTyped_init) = some (.type "function")
  a_NotTyped_name : PySem.W.findIn K (.ref g.c_NotTyped) "name" = some none
  g_Refused : mg "Refused" = some (.ref g.c_Refused)
  o_Refused : OexB K g.c_Refused
  xt_Refused : ExT K g.c_Refused
  mt_Refused : MroT K g.c_Refused ["RuntimeError", "Exception", "BaseException", "object"]
  kb_Refused_19 : KBn K g.d_Refused_init ["self", "target", "number"] 1 ["number", "target"] (fun us ws => us ++ (fun ws => [ws.getD 1 .none, ws.getD 0 .none]) ws) (fun us ws => us ++ (fun zs => [zs.getD 1 .non, zs.getD 0 .non]) ws)
  x_Refused : XfC K g.c_Refused
  h_Refused : PySem.W.exmOne K (.ref g.c_Refused) (.ref g.c_Refused) = some true
  i_Refused : PySem.W.findIn K (.ref g.c_Refused) "__init__" = some (some (.ref g.f_Refused_init))
  t_Refused : PySem.W.typeIn K (.ref g.f_Refused_init) = some (.type "function")
  a_Refused_target : PySem.W.findIn K (.ref g.c_Refused) "target" = some none
  a_Refused_number : PySem.W.findIn K (.ref g.c_Refused) "number" = some none
  g_Shut : mg "Shut" = some (.ref g.c_Shut)
  o_Shut : OexB K g.c_Shut
  xt_Shut : ExT K g.c_Shut
  mt_Shut : MroT K g.c_Shut ["RuntimeError", "Exception", "BaseException", "object"]
  kb_Shut_3 : KBn K g.d_Shut_init ["self", "name"] 1 ["name"] (fun us ws => us ++ (fun ws => ws) ws) (fun us ws => us ++ (fun zs => zs) ws)
  x_Shut : XfC K g.c_Shut
  h_Shut : PySem.W.exmOne K (.ref g.c_Shut) (.ref g.c_Shut) = some true
  i_Shut : PySem.W.findIn K (.ref g.c_Shut) "__init__" = some (some (.ref g.f_Shut_init))
  t_Shut : PySem.W.typeIn K (.ref g.f_Shut_init) = some (.type "function")
  a_Shut_name : PySem.W.findIn K (.ref g.c_Shut) "name" = some none
  g_TooMany : mg "TooMany" = some (.ref g.c_TooMany)
  o_TooMany : OexB K g.c_TooMany
  xt_TooMany : ExT K g.c_TooMany
  mt_TooMany : MroT K g.c_TooMany ["OverflowError", "ArithmeticError", "Exception", "BaseException", "object"]
  kb_TooMany_4 : KBn K g.d_TooMany_init ["self", "limit"] 1 ["limit"] (fun us ws => us ++ (fun ws => ws) ws) (fun us ws => us ++ (fun zs => zs) ws)
  x_TooMany : XfC K g.c_TooMany
  h_TooMany : PySem.W.exmOne K (.ref g.c_TooMany) (.ref g.c_TooMany) = some true
  i_TooMany : PySem.W.findIn K (.ref g.c_TooMany) "__init__" = some (some (.ref g.f_TooMany_init))
  t_TooMany : PySem.W.typeIn K (.ref g.f_TooMany_init) = some (.type "function")
  a_TooMany_limit : PySem.W.findIn K (.ref g.c_TooMany) "limit" = some none
  n_LETTERS : ∃ t, mg "LETTERS" = some (.str "abcdefghijklmnopqrstuvwxyz" t)
  n_MOST_SIGNS : ∃ t, mg "MOST_SIGNS" = some (.int 8 t)
  n_BEYOND : ∃ t, mg "BEYOND" = some (.int 100000000000000000000 t)
  b_LookupError : mg "LookupError" = none
  b_OverflowError : mg "OverflowError" = none
  b_RuntimeError : mg "RuntimeError" = none
  b_TypeError : mg "TypeError" = none
  b_ValueError : mg "ValueError" = none
  b_abs : mg "abs" = none
  b_all : mg "all" = none
  b_bool : mg "bool" = none
  b_enumerate : mg "enumerate" = none
  b_int : mg "int" = none
  b_isinstance : mg "isinstance" = none
  b_len : mg "len" = none
  b_max : mg "max" = none
  b_min : mg "min" = none
  b_range : mg "range" = none
  b_repr : mg "repr" = none
  b_str : mg "str" = none
  nd : ([g.c_BadName, g.c_BadValue, g.c_BadTest, g.c_BadStep, g.c_BadFail, g.c_BadPair, g.c_BadKind, g.c_BadMend, g.c_BadText, g.c_BadCommand, g.c_Twice, g.c_Taken, g.c_Unlike, g.c_NoHandler, g.c_NoPlace, g.c_NotTyped, g.c_Shut, g.c_TooMany, g.c_Misplaced, g.c_Refused] : List Addr).Nodup
theorem sc_is_int : FnScope ["thing"] ["thing"] (defScope s_is_int) := ⟨rfl, rfl, rfl, by decide +kernel, rfl, by decide +kernel, by decide +kernel⟩
def R_is_int (K : PySem.W.Frag) (g : Ads) (E : XK) : TS :=
  (tRet (zAndV (zIsiT K .int (zVar 0)) (zAndV (zNotV (zIsiT K .bool (zVar 0))) (zChain zLt zLt (zNeg (tC (.int 100000000000000000000))) (zVar 0) (tC (.int 100000000000000000000))))))
def rw_is_int (K : PySem.W.Frag) (g : Ads) : Sp := fun vs H Q E => vs.length = 1 ∧ R_is_int K g E { nx := fun _ H' => Q .non H', rt := Q } (start ["thing"] vs) H
theorem raw_is_int {P : Program} {w : World} {K : PySem.W.Frag} {mg : Str → Option Value} {base : Heap} {g : Ads} (T : Txt K mg g) : FnG true P w K mg base 1 g.f_is_int g.d_is_int ["thing"] (rw_is_int K g) := by
  refine okZ T.f_is_int sc_is_int (fun vs H Q E h => h.1) (fun cdv A outer s H vs Q E hr hgu h => ⟨R_is_int K g E, ?_, h.2⟩)
  exact (pss_one (ps_ret (pez_and (pe_isi (kd := .int) (zv 0) (by rfl) T.b_isinstance (by decide +kernel) (by rfl) T.b_int (by decide +kernel)) (pez_and (pez_not (pe_isi (kd := .bool) (zv 0) (by rfl) T.b_isinstance (by decide +kernel) (by rfl) T.b_bool (by decide +kernel))) (pe_one (pez_chain op_zLt op_zLt (pez_neg (pe_cint rfl T.n_BEYOND)) (zv 0) (pe_cint rfl T.n_BEYOND)))))))
theorem sc_is_name : FnScope ["thing", "sign"] ["thing"] (defScope s_is_name) := ⟨rfl, rfl, rfl, by decide +kernel, rfl, by decide +kernel, by decide +kernel⟩
def R_is_name_3 (K : PySem.W.Frag) (g : Ads) (E : XK) : TS :=
  (tRet (tCB (rAll K) (tCons (zLc (iStr (zVar 0)) (gName 1) tYes (tOp (zIn K) (zVar 1) (tC (.str "abcdefghijklmnopqrstuvwxyz"))) [1]) tNil)))
def R_is_name (K : PySem.W.Frag) (g : Ads) (E : XK) : TS :=
  (tSeq (tIfS (tOr (tNot (zTru K (zIsiT K .str (zVar 0)))) (tOr (tNot (zTest (zChain zLe zLe (tC (.int 1)) (tCB (zLen K) (tCons (zVar 0) tNil)) (tC (.int 8))))) (zTest (tOp (zEq K) (zVar 0) (tC (.str "none"))))))
  (tRet (tC (.bl false)))
  tNext)
  (R_is_name_3 K g E))
def rw_is_name (K : PySem.W.Frag) (g : Ads) : Sp := fun vs H Q E => vs.length = 1 ∧ R_is_name K g E { nx := fun _ H' => Q .non H', rt := Q } (start ["thing", "sign"] vs) H
theorem raw_is_name {P : Program} {w : World} {K : PySem.W.Frag} {mg : Str → Option Value} {base : Heap} {g : Ads} (T : Txt K mg g) : FnG true P w K mg base 1 g.f_is_name g.d_is_name ["thing"] (rw_is_name K g) := by
  refine okZ T.f_is_name sc_is_name (fun vs H Q E h => h.1) (fun cdv A outer s H vs Q E hr hgu h => ⟨R_is_name K g E, ?_, h.2⟩)
  exact (pss_cons (ps_if (PW.pt (pw_or (pt_not (ptz_truth (pe_isi (kd := .str) (zv 0) (by rfl) T.b_isinstance (by decide +kernel) (by rfl) T.b_str (by decide +kernel)) (by intro _; rfl))) (pw_or (pt_not (ptz_chain op_zLe op_zLe pe_int (pe_callB call_lenZ (by rfl) T.b_len (by decide +kernel) (pa_cons (zv 0) pa_nil)) (pe_cint rfl T.n_MOST_SIGNS))) (pw_or1 (ptz_cmp (op_zEq hr.units) (zv 0) pe_str (nomark _))))))
  (pss_one (ps_ret pe_bl))
  pss_nil)
  (pss_one (ps_ret (pe_callB (cr_all rfl) (by rfl) T.b_all (by decide +kernel) (pa_cons (pez_lc (own := [("sign", 1)]) rfl sc_is_name.nd (pi_str (zv 0)) (blkOk_by (own := [("sign", 1)]) (N := ["thing", "sign"]) (sc := defScope s_is_name) (by decide +kernel)) (fun _ _ _ _ _ => pg_name (i := 1) sc_is_name.nd rfl (Or.inl rfl)) (fun _ _ _ _ _ => pts_nil) (fun _ _ _ _ _ => (pe_cmpR op_zIn (zv 1) (pe_cstr rfl T.n_LETTERS) (by rfl)))) pa_nil)))))
end Z
namespace Z
open PySem PySem.Spec PyProof.Rows L2
/-- a value of which isinstance knows the kind -/
def Knd (K : PySem.W.Frag) (H : Hp) (v : V) : Prop := match v with
  | .non => True | .bl _ => True | .int _ => True | .str z => z.length ≤ 1000
  | .ref a => ∃ t, KndR K H a t
  | _ => False
def isIntV (v : V) : Bool := match v with
  | .int i => decide (-100000000000000000000 < i) && decide (i < 100000000000000000000)
  | _ => false
def sp_is_int (K : PySem.W.Frag) (g : Ads) : Sp := fun vs H Q E => ∃ v, vs = [v] ∧ Knd K H v ∧ Q (.bl (isIntV v)) H
theorem pf_is_int {K : PySem.W.Frag} {g : Ads} (vs : List V) (H : Hp) (Q : VK) (E : XK) (h : sp_is_int K g vs H Q E) : rw_is_int K g vs H Q E := by
  obtain ⟨v, rfl, hk, q⟩ := h
  refine ⟨rfl, ?_⟩
  cases v with
  | non => exact q
  | bl b => exact q
  | str b => exact q
  | int i =>
    show if decide (-100000000000000000000 < i) = true then Q (.bl (decide (i < 100000000000000000000))) H else Q (.bl false) H
    refine zite (fun h => ?_) (fun h => ?_)
    · simpa [isIntV, h] using q
    · simpa [isIntV, h] using q
  | ref a =>
    obtain ⟨t, ht⟩ := hk
    cases t <;> first | exact ht.elim | exact ⟨_, ht, q⟩
  | _ => exact hk.elim
/-- the signs of a name -/
def lettB (z : Str) : Bool := ((List.range z.cps.size).map fun i => decide (z.cps.getD i 0 ∈ ("abcdefghijklmnopqrstuvwxyz" : Str).cps.toList)).all id
def nameB (z : Str) : Bool := decide ((1 : Int) ≤ z.length) && decide ((z.length : Int) ≤ 8) && !decide (z = "none") && lettB z
def isNameV (v : V) : Bool := match v with
  | .str z => nameB z
  | _ => false
def sp_is_name (K : PySem.W.Frag) (g : Ads) : Sp := fun vs H Q E => ∃ v, vs = [v] ∧ Knd K H v ∧ ∀ H', Same H H' → Q (.bl (isNameV v)) H'
theorem pf_is_name {K : PySem.W.Frag} {g : Ads} (vs : List V) (H : Hp) (Q : VK) (E : XK) (h : sp_is_name K g vs H Q E) : rw_is_name K g vs H Q E := by
  obtain ⟨v, rfl, hk, q⟩ := h
  refine ⟨rfl, ?_⟩
  cases v with
  | non => exact q H (Same.refl H)
  | bl b => exact q H (Same.refl H)
  | int b => exact q H (Same.refl H)
  | ref a =>
    obtain ⟨t, ht⟩ := hk
    cases t <;> first | exact ht.elim | exact ⟨_, ht, q H (Same.refl H)⟩
  | str z =>
    have hz : z.length ≤ 1000 := hk
    refine ⟨Nat.le_trans hz (by decide), zite (fun h1 => ?_) (fun h1 => ?_)⟩
    · refine zite (fun h2 => ?_) (fun h2 => ?_)
      · have e : isNameV (.str z) = false := by simp [isNameV, nameB] at h2 ⊢; omega
        rw [e] at q
        exact q H (Same.refl H)
      · refine .inl ⟨rfl, zite (fun h3 => ?_) (fun h3 => ?_)⟩
        · have e : isNameV (.str z) = false := by simp [isNameV, nameB] at h3 ⊢; simp [h3]
          rw [e] at q
          exact q H (Same.refl H)
        · refine ⟨z, rfl, lc_map walk_str (fun i => .bl (decide (z.cps.getD i 0 ∈ ("abcdefghijklmnopqrstuvwxyz" : Str).cps.toList))) ?_ (fun _ _ => trivial) (fun i x H0 H' hi s y => ?_) (fun D hD => ?_)⟩
          · exact Nat.le_trans hz (by decide)
          · obtain ⟨rfl, c, hc, rfl⟩ := y
            refine ⟨rfl, _, fun R r => r, rfl, fun R r => r, fun R r => .inl ⟨c, _, rfl, rfl, ?_⟩⟩
            have e : z.cps.getD i 0 = c := by simp [Array.getD_eq_getD_getElem?, hc]
            rw [← e]
            exact r
          · refine ⟨D, (List.range z.cps.size).map fun i => decide (z.cps.getD i 0 ∈ ("abcdefghijklmnopqrstuvwxyz" : Str).cps.toList), rfl, SqL.of ?_, ?_⟩
            · rw [upd_same, List.map_map]
              rfl
            · have e : isNameV (.str z) = lettB z := by
                have a1 : ¬ z = "none" := by simpa using h3
                have a2 : (1 : Int) ≤ z.length := by simpa using h1
                have a3 : (z.length : Int) ≤ 8 := by simpa using h2
                simp [isNameV, nameB, a1, a2, a3]
              have q' := q _ (Same.put (o := .lst ((List.range z.cps.size).map fun i => V.bl (decide (z.cps.getD i 0 ∈ ("abcdefghijklmnopqrstuvwxyz" : Str).cps.toList)))) hD)
              rw [e] at q'
              exact q'
    · have e : isNameV (.str z) = false := by
        have a1 : ¬ (1 : Int) ≤ z.length := by simpa using h1
        simp [isNameV, nameB, a1]
      rw [e] at q
      exact q H (Same.refl H)
  | _ => exact hk.elim
end Z
namespace Z
open PySem PySem.Spec PyProof.Rows L2
theorem ok_is_int {P : Program} {w : World} {K : PySem.W.Frag} {mg : Str → Option Value} {base : Heap} {g : Ads} (T : Txt K mg g) : FnZ P w K mg base 1 g.f_is_int g.d_is_int ["thing"] (sp_is_int K g) := (raw_is_int T).imp pf_is_int
theorem ok_is_name {P : Program} {w : World} {K : PySem.W.Frag} {mg : Str → Option Value} {base : Heap} {g : Ads} (T : Txt K mg g) : FnZ P w K mg base 1 g.f_is_name g.d_is_name ["thing"] (sp_is_name K g) := (raw_is_name T).imp pf_is_name
/-! ### an error with one field -/
def sp_x1 (C : Addr) (f : Str) : Sp := fun vs H Q E => ∃ a v, vs = [.ref a, v] ∧ H a = some (exo a C none) ∧
  ∀ dx, H dx = none → dx ≠ a → Q .non (upd (upd H dx (exd dx [(f, v)])) a (exo a C (some dx)))
theorem raise_at {C : Addr} {f : Str} {v : V} {H : Hp} {R : XK} (k : ∀ d, H d = none → R (.ref C) (some d) (upd H d (.xd [(f, v)]))) :
    [v].length ≤ 1000 ∧ ∀ a, H a = none → sp_x1 C f (.ref a :: [v]) (upd H a (exo a C none))
      (fun v' H2 => v' = .non ∧ ∃ (d : Addr) (fs : List (Str × V)), H2 a = some (exo a C (some d)) ∧ H2 d = some (exd d fs) ∧ H d = none ∧ R (.ref C) (some d) (upd (del H2 a) d (.xd fs))) E0 := by
  refine ⟨by simp, fun a ha => ⟨a, v, rfl, upd_same, fun dx hdx ne => ⟨rfl, dx, [(f, v)], upd_same, by rw [upd_ne ne, upd_same], ?_, ?_⟩⟩⟩
  · rw [upd_ne ne] at hdx
    exact hdx
  · have hd : H dx = none := by
      rw [upd_ne ne] at hdx
      exact hdx
    have e : upd (del (upd (upd (upd H a (exo a C none)) dx (exd dx [(f, v)])) a (exo a C (some dx))) a) dx (.xd [(f, v)]) = upd H dx (.xd [(f, v)]) := by
      funext b
      by_cases h1 : b = dx
      · rw [h1, upd_same, upd_same]
      · rw [upd_ne h1, upd_ne h1]
        by_cases h2 : b = a
        · rw [h2, del_same, ha]
        · rw [del_ne h2, upd_ne h2, upd_ne h1, upd_ne h2]
    rw [e]
    exact k dx hd
def sp_BadName_init (K : PySem.W.Frag) (g : Ads) : Sp := sp_x1 g.c_BadName "name"
def sp_BadValue_init (K : PySem.W.Frag) (g : Ads) : Sp := sp_x1 g.c_BadValue "value"
theorem sc_BadName_init : FnScope ["self", "name"] ["self", "name"] (defScope s_BadName_init) := ⟨rfl, rfl, rfl, by decide +kernel, rfl, by decide +kernel, by decide +kernel⟩
def R_BadName_init (K : PySem.W.Frag) (g : Ads) (E : XK) : TS :=
  (tOstB K "name" (zVar 0) (zVar 1))
def rw_BadName_init (K : PySem.W.Frag) (g : Ads) : Sp := fun vs H Q E => vs.length = 2 ∧ R_BadName_init K g E { nx := fun _ H' => Q .non H', rt := Q } (start ["self", "name"] vs) H
theorem raw_BadName_init {P : Program} {w : World} {K : PySem.W.Frag} {mg : Str → Option Value} {base : Heap} {g : Ads} (T : Txt K mg g) : FnG true P w K mg base 1 g.f_BadName_init g.d_BadName_init ["self", "name"] (rw_BadName_init K g) := by
  refine okZ T.f_BadName_init sc_BadName_init (fun vs H Q E h => h.1) (fun cdv A outer s H vs Q E hr hgu h => ⟨R_BadName_init K g E, ?_, h.2⟩)
  exact (pss_one (ps_ostB (zv 0) (zv 1)))
theorem sc_BadValue_init : FnScope ["self", "value"] ["self", "value"] (defScope s_BadValue_init) := ⟨rfl, rfl, rfl, by decide +kernel, rfl, by decide +kernel, by decide +kernel⟩
def R_BadValue_init (K : PySem.W.Frag) (g : Ads) (E : XK) : TS :=
  (tOstB K "value" (zVar 0) (zVar 1))
def rw_BadValue_init (K : PySem.W.Frag) (g : Ads) : Sp := fun vs H Q E => vs.length = 2 ∧ R_BadValue_init K g E { nx := fun _ H' => Q .non H', rt := Q } (start ["self", "value"] vs) H
theorem raw_BadValue_init {P : Program} {w : World} {K : PySem.W.Frag} {mg : Str → Option Value} {base : Heap} {g : Ads} (T : Txt K mg g) : FnG true P w K mg base 1 g.f_BadValue_init g.d_BadValue_init ["self", "value"] (rw_BadValue_init K g) := by
  refine okZ T.f_BadValue_init sc_BadValue_init (fun vs H Q E h => h.1) (fun cdv A outer s H vs Q E hr hgu h => ⟨R_BadValue_init K g E, ?_, h.2⟩)
  exact (pss_one (ps_ostB (zv 0) (zv 1)))
section
variable {P : Program} {w : World} {K : PySem.W.Frag} {mg : Str → Option Value} {base : Heap} {g : Ads}
theorem ok_BadName_init (T : Txt K mg g) : FnZ P w K mg base 1 g.f_BadName_init g.d_BadName_init ["self", "name"] (sp_BadName_init K g) :=
  (raw_BadName_init T).imp fun vs H Q E ⟨a, v, e, ha, k⟩ => by
    subst e
    exact ⟨rfl, a, g.c_BadName, rfl, T.o_BadName, T.a_BadName_name, .inl ⟨ha, k⟩⟩
theorem ok_BadValue_init (T : Txt K mg g) : FnZ P w K mg base 1 g.f_BadValue_init g.d_BadValue_init ["self", "value"] (sp_BadValue_init K g) :=
  (raw_BadValue_init T).imp fun vs H Q E ⟨a, v, e, ha, k⟩ => by
    subst e
    exact ⟨rfl, a, g.c_BadValue, rfl, T.o_BadValue, T.a_BadValue_value, .inl ⟨ha, k⟩⟩
end
theorem sc_check_name : FnScope ["thing"] ["thing"] (defScope s_check_name) := ⟨rfl, rfl, rfl, by decide +kernel, rfl, by decide +kernel, by decide +kernel⟩
def R_check_name_2 (K : PySem.W.Frag) (g : Ads) (E : XK) : TS :=
  (zRaise (fun cls d _ H => E cls d H) g.c_BadName (sp_BadName_init K g) (tCons (zVar 0) tNil))
def R_check_name (K : PySem.W.Frag) (g : Ads) (E : XK) : TS :=
  (tSeq (tIfS (tNot (zTru K (zCall (sp_is_name K g) [] (WE (fun cls d _ H => E cls d H)) (tCons (zVar 0) tNil))))
  (R_check_name_2 K g E)
  tNext)
  (tRet (zVar 0)))
def rw_check_name (K : PySem.W.Frag) (g : Ads) : Sp := fun vs H Q E => vs.length = 1 ∧ R_check_name K g E { nx := fun _ H' => Q .non H', rt := Q } (start ["thing"] vs) H
theorem raw_check_name {P : Program} {w : World} {K : PySem.W.Frag} {mg : Str → Option Value} {base : Heap} {g : Ads} (T : Txt K mg g) : FnG true P w K mg base 3 g.f_check_name g.d_check_name ["thing"] (rw_check_name K g) := by
  refine okZ T.f_check_name sc_check_name (fun vs H Q E h => h.1) (fun cdv A outer s H vs Q E hr hgu h => ⟨R_check_name K g E, ?_, h.2⟩)
  exact (pss_cons (ps_if (pt_not (ptz_truth (pe_callZ (ok_is_name T) (hr.mono (by decide)) hgu rfl T.g_is_name T.k_is_name T.e_is_name .nil (fun σ => passAt (takes_of rfl rfl rfl rfl) σ) (pa_cons (zv 0) pa_nil)) (by intro _; rfl)))
  (pss_one (ps_raise rfl (takes_of rfl rfl rfl rfl) (pmk_ZB T.o_BadName T.i_BadName T.t_BadName (ok_BadName_init T) (hr.mono (by decide)) hgu T.e_BadName_init rfl T.g_BadName (by exact (pa_cons (zv 0) pa_nil)))))
  pss_nil)
  (pss_one (ps_ret (zv 0))))
theorem sc_check_operand : FnScope ["thing"] ["thing"] (defScope s_check_operand) := ⟨rfl, rfl, rfl, by decide +kernel, rfl, by decide +kernel, by decide +kernel⟩
def R_check_operand_2 (K : PySem.W.Frag) (g : Ads) (E : XK) : TS :=
  (zRaise (fun cls d _ H => E cls d H) g.c_BadValue (sp_BadValue_init K g) (tCons (zVar 0) tNil))
def R_check_operand (K : PySem.W.Frag) (g : Ads) (E : XK) : TS :=
  (tSeq (tIfS (tAnd (zTest (tOp zIsnt (zVar 0) (tC .non))) (tAnd (tNot (zTru K (zCall (sp_is_int K g) [] (WE (fun cls d _ H => E cls d H)) (tCons (zVar 0) tNil)))) (tNot (zTru K (zCall (sp_is_name K g) [] (WE (fun cls d _ H => E cls d H)) (tCons (zVar 0) tNil))))))
  (R_check_operand_2 K g E)
  tNext)
  (tRet (zVar 0)))
def rw_check_operand (K : PySem.W.Frag) (g : Ads) : Sp := fun vs H Q E => vs.length = 1 ∧ R_check_operand K g E { nx := fun _ H' => Q .non H', rt := Q } (start ["thing"] vs) H
theorem raw_check_operand {P : Program} {w : World} {K : PySem.W.Frag} {mg : Str → Option Value} {base : Heap} {g : Ads} (T : Txt K mg g) : FnG true P w K mg base 3 g.f_check_operand g.d_check_operand ["thing"] (rw_check_operand K g) := by
  refine okZ T.f_check_operand sc_check_operand (fun vs H Q E h => h.1) (fun cdv A outer s H vs Q E hr hgu h => ⟨R_check_operand K g E, ?_, h.2⟩)
  exact (pss_cons (ps_if (PW.pt (pw_and (ptz_cmp op_zIsnt (zv 0) pe_non (nomark _)) (pw_and (pt_not (ptz_truth (pe_callZ (ok_is_int T) (hr.mono (by decide)) hgu rfl T.g_is_int T.k_is_int T.e_is_int .nil (fun σ => passAt (takes_of rfl rfl rfl rfl) σ) (pa_cons (zv 0) pa_nil)) (by intro _; rfl))) (pw_and1 (pt_not (ptz_truth (pe_callZ (ok_is_name T) (hr.mono (by decide)) hgu rfl T.g_is_name T.k_is_name T.e_is_name .nil (fun σ => passAt (takes_of rfl rfl rfl rfl) σ) (pa_cons (zv 0) pa_nil)) (by intro _; rfl)))))))
  (pss_one (ps_raise rfl (takes_of rfl rfl rfl rfl) (pmk_ZB T.o_BadValue T.i_BadValue T.t_BadValue (ok_BadValue_init T) (hr.mono (by decide)) hgu T.e_BadValue_init rfl T.g_BadValue (by exact (pa_cons (zv 0) pa_nil)))))
  pss_nil)
  (pss_one (ps_ret (zv 0))))
theorem Knd.same {K : PySem.W.Frag} {H H' : Hp} {v : V} (k : Knd K H v) (s : Same H H') : Knd K H' v := by
  cases v with
  | ref a =>
    obtain ⟨t, ht⟩ := k
    refine ⟨t, ?_⟩
    cases t with
    | list => exact ht.imp fun xs q => s.seq q
    | tuple =>
      obtain ⟨xs, q⟩ := ht
      refine ⟨xs, ?_⟩
      rcases q with (h | ⟨o, h⟩) | h
      · exact .inl (.inl (s _ _ h))
      · exact .inl (.inr ⟨o, s _ _ h⟩)
      · exact .inr h
    | dict =>
      rcases ht with ⟨x, h⟩ | ⟨x, h⟩
      · exact .inl ⟨x, s _ _ h⟩
      · exact .inr ⟨x, s _ _ h⟩
    | _ => exact ht.elim
  | non => trivial
  | bl _ => trivial
  | int _ => trivial
  | str _ => exact k
  | _ => exact k.elim
def sp_check_name (K : PySem.W.Frag) (g : Ads) : Sp := fun vs H Q E => ∃ v, vs = [v] ∧ Knd K H v ∧ (isNameV v = true → ∀ H', Same H H' → Q v H') ∧
  (isNameV v = false → ∀ H' d, Same H H' → H d = none → H' d = some (.xd [("name", v)]) → E (.ref g.c_BadName) (some d) H')
theorem pf_check_name {K : PySem.W.Frag} {g : Ads} (vs : List V) (H : Hp) (Q : VK) (E : XK) (h : sp_check_name K g vs H Q E) : rw_check_name K g vs H Q E := by
  obtain ⟨v, rfl, hk, q1, q2⟩ := h
  refine ⟨rfl, ⟨v, rfl, hk, fun H' s => ?_⟩⟩
  cases e : isNameV v with
  | true => exact q1 e H' s
  | false => exact raise_at fun d hd => q2 e _ d (s.trans (Same.put hd)) (s.free hd) upd_same
def isOperV (v : V) : Bool := decide (v = .non) || isIntV v || isNameV v
def sp_check_operand (K : PySem.W.Frag) (g : Ads) : Sp := fun vs H Q E => ∃ v, vs = [v] ∧ Knd K H v ∧ (isOperV v = true → ∀ H', Same H H' → Q v H') ∧
  (isOperV v = false → ∀ H' d, Same H H' → H d = none → H' d = some (.xd [("value", v)]) → E (.ref g.c_BadValue) (some d) H')
theorem pf_check_operand {K : PySem.W.Frag} {g : Ads} (vs : List V) (H : Hp) (Q : VK) (E : XK) (h : sp_check_operand K g vs H Q E) : rw_check_operand K g vs H Q E := by
  obtain ⟨v, rfl, hk, q1, q2⟩ := h
  refine ⟨rfl, rfl, zite (fun h1 => ?_) (fun h1 => ?_)⟩
  · have n1 : ¬ v = .non := by simpa using h1
    refine ⟨v, rfl, hk, zite (fun h2 => ?_) (fun h2 => ?_)⟩
    · have e2 : isIntV v = false := by simpa using h2
      refine ⟨v, rfl, hk, fun H' s => zite (fun h3 => ?_) (fun h3 => ?_)⟩
      · have e3 : isNameV v = false := by simpa using h3
        exact raise_at fun d hd => q2 (by simp [isOperV, n1, e2, e3]) _ d (s.trans (Same.put hd)) (s.free hd) upd_same
      · exact q1 (by simp [isOperV] at h3 ⊢; simp [h3]) H' s
    · exact q1 (by simp [isOperV] at h2 ⊢; simp [h2]) H (Same.refl H)
  · exact q1 (by simp [isOperV] at h1 ⊢; simp [h1]) H (Same.refl H)
end Z
namespace Z
open PySem PySem.Spec PyProof.Rows L2
theorem sc_law_deck : FnScope ["script", "turn", "cell", "words", "mix", "k", "word", "one"] ["script", "turn"] (defScope s_law_deck) := ⟨rfl, rfl, rfl, by decide +kernel, rfl, by decide +kernel, by decide +kernel⟩
def R_law_deck_5 (K : PySem.W.Frag) (g : Ads) (E : XK) : TS :=
  (tAsg (tOp zMod (tCB rInt1 (tCons (tOp zAdd (tOp zAdd (tOp zMul (zVar 4) (tC (.int 69069))) (zVar 6)) (tOp zMul (tC (.int 17)) (zVar 5))) tNil)) (tC (.int 2147483629))) (gName 4))
def R_law_deck_6 (K : PySem.W.Frag) (g : Ads) (E : XK) : TS :=
  (tRet (tLst (tCons (tIf (zTest (tOp zGe (zVar 2) (tOp zPow (tC (.int 10)) (tC (.int 18))))) (zVar 2) (tC (.int 0))) (tCons (zVar 4) (tCons (zVar 3) (tCons (zVar 1) tNil))))))
def R_law_deck_4 (K : PySem.W.Frag) (g : Ads) (E : XK) : TS :=
  (tSeq (zFor (zEnum K (tCons (zVar 3) tNil)) (gTup K 2 (gCons (gName 5) (gCons (gName 6) gNil)))
  (R_law_deck_5 K g E))
  (R_law_deck_6 K g E))
def R_law_deck_3 (K : PySem.W.Frag) (g : Ads) (E : XK) : TS :=
  (tSeq (tAsg (tOp zAdd (tC (.int 271)) (tOp zMul (tC (.int 1009)) (zVar 1))) (gName 4))
  (R_law_deck_4 K g E))
def R_law_deck_2 (K : PySem.W.Frag) (g : Ads) (E : XK) : TS :=
  (tSeq (tAsg (zLc (iList K (tSl (rSlL K) (zVar 0) tNoPart (tPart (tC (.int 63))))) (gName 7) tYes (tOp zMod (tCB rAbs (tCons (tCB rInt1 (tCons (zVar 7) tNil)) tNil)) (tC (.int 2147483563))) [7]) (gName 3))
  (R_law_deck_3 K g E))
def R_law_deck (K : PySem.W.Frag) (g : Ads) (E : XK) : TS :=
  (tSeq (tAsg (tIf (zTest (tOp zLt (zVar 1) (tCB (zLen K) (tCons (zVar 0) tNil)))) (tCB rAbs (tCons (tCB rIntS (tCons (tOp (zIx K) (zVar 0) (zVar 1)) tNil)) tNil)) (tC (.int 0))) (gName 2))
  (R_law_deck_2 K g E))
def rw_law_deck (K : PySem.W.Frag) (g : Ads) : Sp := fun vs H Q E => vs.length = 2 ∧ R_law_deck K g E { nx := fun _ H' => Q .non H', rt := Q } (start ["script", "turn", "cell", "words", "mix", "k", "word", "one"] vs) H
theorem raw_law_deck {P : Program} {w : World} {K : PySem.W.Frag} {mg : Str → Option Value} {base : Heap} {g : Ads} (T : Txt K mg g) : FnG true P w K mg base 1 g.f_law_deck g.d_law_deck ["script", "turn"] (rw_law_deck K g) := by
  refine okZ T.f_law_deck sc_law_deck (fun vs H Q E h => h.1) (fun cdv A outer s H vs Q E hr hgu h => ⟨R_law_deck K g E, ?_, h.2⟩)
  exact (pss_cons (ps_set (i := 2) sc_law_deck.nd rfl (Or.inl rfl) (pe_ifExp (ptz_cmp op_zLt (zv 1) (pe_callB call_lenZ (by rfl) T.b_len (by decide +kernel) (pa_cons (zv 0) pa_nil)) (nomark _)) (pe_callB call_absZ (by rfl) T.b_abs (by decide +kernel) (pa_cons (pe_callTy call_intS (by rfl) T.b_int (by decide +kernel) (pa_cons (pe_ix ix_z (zv 0) (zv 1) (fun _ _ => rfl)) pa_nil)) pa_nil)) pe_int))
  (pss_cons (psz_setLc (i := 3) (own := [("one", 7)]) rfl sc_law_deck.nd rfl rfl (sw_true rfl rfl rfl (by decide +kernel)) (pi_list (pe_slice sl_list (zv 0) po_none (po_some pe_int))) (blkOk_by (own := [("one", 7)]) (N := ["script", "turn", "cell", "words", "mix", "k", "word", "one"]) (sc := defScope s_law_deck) (by decide +kernel)) (fun _ _ _ _ _ => pg_name (i := 7) sc_law_deck.nd rfl (Or.inl rfl)) (fun _ _ _ _ _ => pts_nil) (fun _ _ _ _ _ => (pe_op op_zMod (pe_callB call_absZ (by rfl) T.b_abs (by decide +kernel) (pa_cons (pe_callTy call_intZ (by rfl) T.b_int (by decide +kernel) (pa_cons (zv 7) pa_nil)) pa_nil)) pe_int)))
  (pss_cons (ps_set (i := 4) sc_law_deck.nd rfl (Or.inl rfl) (pe_op op_zAdd pe_int (pe_op op_zMul pe_int (zv 1))))
  (pss_cons (psz_for PassesOwn.leaving rfl (pi_zEnum (by rfl) T.b_enumerate (pa_cons (zv 3) pa_nil)) (pg_tup rfl (pgs_cons (pg_name (i := 5) sc_law_deck.nd rfl (Or.inl rfl)) (pgs_cons (pg_name (i := 6) sc_law_deck.nd rfl (Or.inl rfl)) pgs_nil)))
  (pss_one (ps_set (i := 4) sc_law_deck.nd rfl (Or.inl rfl) (pe_op op_zMod (pe_callTy call_intZ (by rfl) T.b_int (by decide +kernel) (pa_cons (pe_op op_zAdd (pe_op op_zAdd (pe_op op_zMul (zv 4) pe_int) (zv 6)) (pe_op op_zMul pe_int (zv 5))) pa_nil)) pe_int))))
  (pss_one (ps_ret (pe_lst (pa_cons (pe_ifExp (ptz_cmp op_zGe (zv 2) (pe_op op_zPow pe_int pe_int) (nomark _)) (zv 2) pe_int) (pa_cons (zv 4) (pa_cons (zv 3) (pa_cons (zv 1) pa_nil)))))))))))
theorem sc_law_draw : FnScope ["deck", "many", "digit", "words", "more"] ["deck", "many"] (defScope s_law_draw) := ⟨rfl, rfl, rfl, by decide +kernel, rfl, by decide +kernel, by decide +kernel⟩
def R_law_draw_3 (K : PySem.W.Frag) (g : Ads) (E : XK) : TS :=
  (tSeq (tAsg (tOp zFdiv (tOp (zIx K) (zVar 0) (tC (.int 0))) (zVar 1)) (gSub (zVar 0) (tC (.int 0)) rSetL))
  (tRet (zVar 2)))
def R_law_draw_2 (K : PySem.W.Frag) (g : Ads) (E : XK) : TS :=
  (tSeq (tAsg (tOp zMod (tCB rIntS (tCons (tOp (zIx K) (zVar 0) (tC (.int 0))) tNil)) (zVar 1)) (gName 2))
  (R_law_draw_3 K g E))
def R_law_draw_9 (K : PySem.W.Frag) (g : Ads) (E : XK) : TS :=
  (tRet (tOp zMod (tOp zFdiv (tOp zMod (tCB rInt1 (tCons (tOp zAdd (tOp zMul (tOp zFdiv (tOp (zIx K) (zVar 0) (tC (.int 1))) (tC (.int 7))) (tC (.int 48271))) (tOp (zIx K) (zVar 0) (tC (.int 3)))) tNil)) (tC (.int 2147483587))) (tC (.int 32))) (zVar 1)))
def R_law_draw_8 (K : PySem.W.Frag) (g : Ads) (E : XK) : TS :=
  (tSeq (tAsg (tOp zMod (tCB rInt1 (tCons (tOp zAdd (tOp zAdd (tOp zMul (tOp (zIx K) (zVar 0) (tC (.int 1))) (tC (.int 16807))) (zVar 4)) (tOp zMul (tC (.int 7)) (tOp (zIx K) (zVar 0) (tC (.int 3))))) tNil)) (tC (.int 2147483629))) (gSub (zVar 0) (tC (.int 1)) rSetL))
  (R_law_draw_9 K g E))
def R_law_draw_7 (K : PySem.W.Frag) (g : Ads) (E : XK) : TS :=
  (tSeq (tAsg (tIf (zTest (tOp (zNe K) (zVar 3) (tLst tNil))) (tOp (zIx K) (zVar 3) (tOp zMod (tCB rIntS (tCons (tOp (zIx K) (zVar 0) (tC (.int 3))) tNil)) (tCB (zLen K) (tCons (zVar 3) tNil)))) (tC (.int 0))) (gName 4))
  (R_law_draw_8 K g E))
def R_law_draw_6 (K : PySem.W.Frag) (g : Ads) (E : XK) : TS :=
  (tSeq (tAsg (tOp zAdd (tOp (zIx K) (zVar 0) (tC (.int 3))) (tC (.int 1))) (gSub (zVar 0) (tC (.int 3)) rSetL))
  (R_law_draw_7 K g E))
def R_law_draw_5 (K : PySem.W.Frag) (g : Ads) (E : XK) : TS :=
  (tSeq (tAsg (tOp (zIx K) (zVar 0) (tC (.int 2))) (gName 3))
  (R_law_draw_6 K g E))
def R_law_draw (K : PySem.W.Frag) (g : Ads) (E : XK) : TS :=
  (tSeq (tIfS (zTest (tOp zGt (tOp (zIx K) (zVar 0) (tC (.int 0))) (tC (.int 0))))
  (R_law_draw_2 K g E)
  tNext)
  (R_law_draw_5 K g E))
def rw_law_draw (K : PySem.W.Frag) (g : Ads) : Sp := fun vs H Q E => vs.length = 2 ∧ R_law_draw K g E { nx := fun _ H' => Q .non H', rt := Q } (start ["deck", "many", "digit", "words", "more"] vs) H
theorem raw_law_draw {P : Program} {w : World} {K : PySem.W.Frag} {mg : Str → Option Value} {base : Heap} {g : Ads} (T : Txt K mg g) : FnG true P w K mg base 1 g.f_law_draw g.d_law_draw ["deck", "many"] (rw_law_draw K g) := by
  refine okZ T.f_law_draw sc_law_draw (fun vs H Q E h => h.1) (fun cdv A outer s H vs Q E hr hgu h => ⟨R_law_draw K g E, ?_, h.2⟩)
  exact (pss_cons (ps_if (ptz_cmp op_zGt (pe_ix ix_z (zv 0) pe_int (fun _ _ => rfl)) pe_int (nomark _))
  (pss_cons (ps_set (i := 2) sc_law_draw.nd rfl (Or.inl rfl) (pe_op op_zMod (pe_callTy call_intS (by rfl) T.b_int (by decide +kernel) (pa_cons (pe_ix ix_z (zv 0) pe_int (fun _ _ => rfl)) pa_nil)) (zv 1)))
  (pss_cons (ps_asg (pe_op op_zFdiv (pe_ix ix_z (zv 0) pe_int (fun _ _ => rfl)) (zv 1)) (pg_sub (zv 0) pe_int set_list))
  (pss_one (ps_ret (zv 2)))))
  pss_nil)
  (pss_cons (ps_set (i := 3) sc_law_draw.nd rfl (Or.inl rfl) (pe_ix ix_z (zv 0) pe_int (fun _ _ => rfl)))
  (pss_cons (ps_asg (pe_op op_zAdd (pe_ix ix_z (zv 0) pe_int (fun _ _ => rfl)) pe_int) (pg_sub (zv 0) pe_int set_list))
  (pss_cons (ps_set (i := 4) sc_law_draw.nd rfl (Or.inl rfl) (pe_ifExp (ptz_cmp (op_zNe hr.units) (zv 3) (pe_lst pa_nil) (nomark _)) (pe_ix ix_z (zv 3) (pe_op op_zMod (pe_callTy call_intS (by rfl) T.b_int (by decide +kernel) (pa_cons (pe_ix ix_z (zv 0) pe_int (fun _ _ => rfl)) pa_nil)) (pe_callB call_lenZ (by rfl) T.b_len (by decide +kernel) (pa_cons (zv 3) pa_nil))) (fun _ _ => rfl)) pe_int))
  (pss_cons (ps_asg (pe_op op_zMod (pe_callTy call_intZ (by rfl) T.b_int (by decide +kernel) (pa_cons (pe_op op_zAdd (pe_op op_zAdd (pe_op op_zMul (pe_ix ix_z (zv 0) pe_int (fun _ _ => rfl)) pe_int) (zv 4)) (pe_op op_zMul pe_int (pe_ix ix_z (zv 0) pe_int (fun _ _ => rfl)))) pa_nil)) pe_int) (pg_sub (zv 0) pe_int set_list))
  (pss_one (ps_ret (pe_op op_zMod (pe_op op_zFdiv (pe_op op_zMod (pe_callTy call_intZ (by rfl) T.b_int (by decide +kernel) (pa_cons (pe_op op_zAdd (pe_op op_zMul (pe_op op_zFdiv (pe_ix ix_z (zv 0) pe_int (fun _ _ => rfl)) pe_int) pe_int) (pe_ix ix_z (zv 0) pe_int (fun _ _ => rfl))) pa_nil)) pe_int) pe_int) (zv 1)))))))))
/-! ### what is drawn from -/
def DeckAt (H : Hp) (p wa : Addr) : Prop := ∃ (c m t : Int) (ws : List Int), H p = some (.lst [.int c, .int m, .ref wa, .int t]) ∧ H wa = some (.lst (ws.map V.int)) ∧ ws.length ≤ 63 ∧ 0 ≤ c
def sp_law_deck (K : PySem.W.Frag) (g : Ads) : Sp := fun vs H Q E => ∃ (a : Addr) (ns : List Int) (t : Int), vs = [.ref a, .int t] ∧ SqL K H a (ns.map V.int) ∧ ns.length ≤ 63 ∧ 0 ≤ t ∧
  ∀ p wa H', H p = none → H wa = none → Same H H' → DeckAt H' p wa → Q (.ref p) H'
theorem cut_ints (ns : List Int) (lo hi : Option Int) : ∃ ms : List Int, cutV (ns.map V.int) lo hi = ms.map V.int ∧ ms.length ≤ ns.length := by
  refine ⟨(ns.drop (HT.sIx ns.length 0 lo)).take (HT.sIx ns.length ns.length hi - HT.sIx ns.length 0 lo), ?_, ?_⟩
  · simp [cutV, List.map_take, List.map_drop]
  · simp; omega
theorem pf_law_deck {K : PySem.W.Frag} {g : Ads} (vs : List V) (H : Hp) (Q : VK) (E : XK) (h : sp_law_deck K g vs H Q E) : rw_law_deck K g vs H Q E := by
  obtain ⟨a, ns, t, rfl, hS, hl, ht, q⟩ := h
  refine ⟨rfl, ⟨_, .inl hS, ?_⟩⟩
  -- behind the first statement: any cell
  have go : ∀ c : Int, 0 ≤ c → R_law_deck_2 K g E { nx := fun _ H' => Q .non H', rt := Q } [some (.ref a), some (.int t), some (.int c), none, none, none, none, none] H := by
    intro c hc
    refine ⟨63, rfl, a, _, rfl, hS, fun p hp => ?_⟩
    obtain ⟨ms, em, lm⟩ := cut_ints ns none (some 63)
    rw [em]
    refine ⟨p, rfl, ⟨_, .inl (.inl upd_same)⟩, lc_map (walk_list (xs := ms.map V.int)) (fun i => .int ((if ms.getD i 0 < 0 then -ms.getD i 0 else ms.getD i 0) % 2147483563)) ?_ (fun H' s => .inl (.inl (s _ _ upd_same))) (fun i x H0 H' hi s y => ?_) (fun D hD => ?_)⟩
    · rw [List.length_map]
      exact Nat.le_trans lm (Nat.le_trans hl (by decide))
    · obtain ⟨rfl, hx⟩ := y
      rw [List.getElem?_map] at hx
      cases e : ms[i]? with
      | none =>
        rw [e] at hx
        cases hx
      | some z =>
        rw [e] at hx
        cases hx
        refine ⟨rfl, _, fun R r => r, rfl, fun R r => r, fun R r => ⟨by decide, ?_⟩⟩
        have e2 : ms.getD i 0 = z := by simp [List.getD_eq_getElem?_getD, e]
        rw [e2] at r
        exact r
    · -- the words stand at D
      have hnp : D ≠ p := fun z => by
        rw [z, upd_same] at hD
        cases hD
      have hDn : H D = none := by
        rw [upd_ne hnp] at hD
        exact hD
      generalize hw : (List.range (ms.map V.int).length).map (fun i => (if ms.getD i 0 < 0 then -ms.getD i 0 else ms.getD i 0) % 2147483563) = ws
      have hw2 : (List.range (ms.map V.int).length).map (fun i => V.int ((if ms.getD i 0 < 0 then -ms.getD i 0 else ms.getD i 0) % 2147483563)) = ws.map V.int := by
        rw [← hw, List.map_map]
        rfl
      have lw : ws.length ≤ 63 := by
        rw [← hw]
        simp
        omega
      rw [hw2]
      have s1 : Same H (upd (upd H p (.lst (ms.map V.int))) D (.lst (ws.map V.int))) := (Same.put hp).trans (Same.put hD)
      refine ⟨.inl (by decide), D, _, rfl, .inl ⟨SqL.of upd_same, for_z walk_enum (fun i σ H2 => ∃ (m : Int) (v5 v6 : Option V), σ = [some (.ref a), some (.int t), some (.int c), some (.ref D), some (.int m), v5, v6, none] ∧ Same (upd (upd H p (.lst (ms.map V.int))) D (.lst (ws.map V.int))) H2)
        ⟨_, none, none, rfl, Same.refl _⟩ (fun i σ H2 _ ⟨_, _, _, _, s2⟩ => SqL.of (s2 _ _ upd_same)) ?_ ?_⟩⟩
      · rintro i x σ H2 H3 hi ⟨m, v5, v6, rfl, s2⟩ ⟨T, x1, x2, rfl, hT, rfl, e1, e2⟩
        cases e1
        have e2 : (ws.map V.int)[i]? = some x2 := e2
        rw [List.getElem?_map] at e2
        cases e : ws[i]? with
        | none =>
          rw [e] at e2
          cases e2
        | some z =>
          rw [e] at e2
          cases e2
          exact ⟨T, _, rfl, SqT.of upd_same, rfl, _, _, rfl, _, _, rfl, rfl, .inr (by decide), .inl (by decide), by decide, _, _, _, rfl, s2.trans (Same.put hT)⟩
      · rintro σ H2 ⟨m, v5, v6, rfl, s2⟩
        have fin : ∀ c' : Int, 0 ≤ c' → (4 ≤ sizeLine ∧ ∀ p2, H2 p2 = none → Q (.ref p2) (upd H2 p2 (.lst [.int c', .int m, .ref D, .int t]))) := by
          refine fun c' hc' => ⟨by decide, fun p2 hp2 => q _ D _ ((s1.trans s2).free hp2) hDn ((s1.trans s2).trans (Same.put hp2)) ⟨c', m, t, ws, upd_same, ?_, lw, hc'⟩⟩
          rw [upd_ne (ne_of_none (s2 _ _ upd_same) hp2)]
          exact s2 _ _ upd_same
        refine ⟨⟨by decide, by decide, by decide⟩, zite (fun _ => ?_) (fun _ => ?_)⟩
        · exact fin c hc
        · exact fin 0 (Int.le_refl 0)
  refine zite (fun h1 => ?_) (fun h1 => ?_)
  · have h1' : t < (ns.map V.int).length := by simpa using h1
    obtain ⟨k, rfl⟩ : ∃ k : Nat, t = k := ⟨t.toNat, by omega⟩
    have hk : k < ns.length := by
      rw [List.length_map] at h1'
      omega
    refine ⟨_, .int ns[k], .inl hS, atI_nat (by simp [hk]), ?_⟩
    exact go _ (by split <;> omega)
  · exact go 0 (Int.le_refl 0)
end Z
namespace Z
open PySem PySem.Spec PyProof.Rows L2
theorem deck_ne {H : Hp} {p wa : Addr} {c m t : Int} {ws : List Int} (h : H p = some (.lst [.int c, .int m, .ref wa, .int t])) (h2 : H wa = some (.lst (ws.map V.int))) : wa ≠ p := by
  intro e
  rw [e, h] at h2
  have z : [V.int c, .int m, .ref wa, .int t] = ws.map V.int := by
    injection h2 with h2
    injection h2
  have z2 : V.ref wa ∈ ws.map V.int := z ▸ (by simp)
  obtain ⟨x, _, hx⟩ := List.mem_map.mp z2
  cases hx
theorem divW {n : Int} (h0 : 0 < n) (h : n ≤ 1000000000000000000000000) : CDivW 1 n := wide_div h0 (b := 80) (by omega) (by decide) (by decide)
theorem dp_ints {K : PySem.W.Frag} {H : Hp} : ∀ ws : List Int, DpAll K H (ws.map V.int) (ws.map PyData.int)
  | [] => .nil
  | x :: r => .cons (.int x) (dp_ints r)
theorem lay_ints : ∀ ws : List Int, PyData.canLayAll0 (ws.map PyData.int) = true ∧ PyData.depthAll (ws.map PyData.int) = 0
  | [] => ⟨by simp only [List.map_nil, PyData.canLayAll0], by simp only [List.map_nil, PyData.depthAll]⟩
  | x :: r => by
    obtain ⟨h1, h2⟩ := lay_ints r
    constructor
    · simp only [List.map_cons, PyData.canLayAll0, PyData.canLay0, h1, Bool.and_self]
    · simp only [List.map_cons, PyData.depthAll, PyData.depth, h2, Nat.max_self]
theorem shaped_ints (ws : List Int) : SeqAt.shaped (.list (ws.map PyData.int)) = true := by
  obtain ⟨h1, h2⟩ := lay_ints ws
  simp only [SeqAt.shaped, PyData.canLay0, PyData.depth, h1, h2]
  decide
def sp_law_draw (K : PySem.W.Frag) (g : Ads) : Sp := fun vs H Q E => ∃ (p wa : Addr) (n : Int), vs = [.ref p, .int n] ∧ DeckAt H p wa ∧ 0 < n ∧ n ≤ 1000000000000000000000000 ∧
  ∀ r H', 0 ≤ r → r < n → DeckAt H' p wa → But p H H' → Q (.int r) H'
theorem pf_law_draw {K : PySem.W.Frag} {g : Ads} (vs : List V) (H : Hp) (Q : VK) (E : XK) (h : sp_law_draw K g vs H Q E) : rw_law_draw K g vs H Q E := by
  obtain ⟨p, wa, n, rfl, ⟨c, m, t, ws, h1, h2, h3, h4⟩, n0, n1, q⟩ := h
  have hne := deck_ne h1 h2
  refine ⟨rfl, ⟨_, _, .inl (SqL.of h1), rfl, zite (fun hc => ?_) (fun hc => ?_)⟩⟩
  · refine ⟨_, _, .inl (SqL.of h1), rfl, n0, _, _, .inl (SqL.of h1), rfl, divW n0 n1, p, _, _, _, rfl, rfl, h1, rfl, ?_⟩
    refine q _ _ (Int.emod_nonneg _ (by omega)) (Int.emod_lt_of_pos _ n0) ⟨c / n, m, t, ws, upd_same, ?_, h3, Int.ediv_nonneg h4 (by omega)⟩ But.put
    rw [upd_ne hne]
    exact h2
  · refine ⟨_, _, .inl (SqL.of h1), rfl, _, _, .inl (SqL.of h1), rfl, p, _, _, _, rfl, rfl, h1, rfl, ?_⟩
    -- deck[3] is one more; what is drawn of the words is any int
    have go : ∀ (more : Int) (H1 : Hp), H1 p = some (.lst [.int c, .int m, .ref wa, .int (t + 1)]) → H1 wa = some (.lst (ws.map V.int)) → But p H H1 →
        R_law_draw_8 K g E { nx := fun _ H' => Q .non H', rt := Q } [some (.ref p), some (.int n), none, some (.ref wa), some (.int more)] H1 := by
      intro more H1 a1 a2 a3
      refine ⟨_, _, .inl (SqL.of a1), rfl, .inr (by decide), _, _, .inl (SqL.of a1), rfl, .inl (by decide), by decide, p, _, _, _, rfl, rfl, a1, rfl, ?_⟩
      refine ⟨_, _, .inl (SqL.of upd_same), rfl, ⟨by decide, by decide⟩, .inr (by decide), _, _, .inl (SqL.of upd_same), rfl, by decide, ⟨by decide, by decide⟩, n0, ?_⟩
      refine q _ _ (Int.emod_nonneg _ (by omega)) (Int.emod_lt_of_pos _ n0) ⟨c, _, t + 1, ws, upd_same, ?_, h3, h4⟩ (a3.trans But.put)
      rw [upd_ne hne]
      exact a2
    have g1 : (upd H p (.lst [.int c, .int m, .ref wa, .int (t + 1)])) wa = some (.lst (ws.map V.int)) := by
      rw [upd_ne hne]
      exact h2
    refine ⟨by decide, fun b hb => .inr ⟨_, _, .lst (SqL.of ?_) (dp_ints ws), .lst (SqL.of upd_same) .nil, shaped_ints ws, by decide +kernel, ?_⟩⟩
    · rw [upd_ne (ne_of_none g1 hb)]
      exact g1
    · have np : p ≠ b := ne_of_none upd_same hb
      have g2 : (upd (upd H p (.lst [.int c, .int m, .ref wa, .int (t + 1)])) b (.lst [])) p = some (.lst [.int c, .int m, .ref wa, .int (t + 1)]) := by rw [upd_ne np, upd_same]
      have g3 : (upd (upd H p (.lst [.int c, .int m, .ref wa, .int (t + 1)])) b (.lst [])) wa = some (.lst (ws.map V.int)) := by
        rw [upd_ne (ne_of_none g1 hb)]
        exact g1
      have g4 : But p H (upd (upd H p (.lst [.int c, .int m, .ref wa, .int (t + 1)])) b (.lst [])) := But.put.trans (But.same (Same.put hb))
      cases ws with
      | nil => exact go 0 _ g2 g3 g4
      | cons x r =>
        have l0 : (0 : Int) < (((x :: r).map V.int).length : Nat) := by
          rw [List.length_map, List.length_cons]
          omega
        have hlt := Int.emod_lt_of_pos (t + 1) l0
        have hge := Int.emod_nonneg (t + 1) (show ((((x :: r).map V.int).length : Nat) : Int) ≠ 0 by omega)
        obtain ⟨k, hk⟩ : ∃ k : Nat, (t + 1) % ((((x :: r).map V.int).length : Nat) : Int) = k := ⟨((t + 1) % ((((x :: r).map V.int).length : Nat) : Int)).toNat, by omega⟩
        have hkl : k < (x :: r).length := by
          rw [hk, List.length_map] at hlt
          omega
        refine ⟨_, _, .inl (SqL.of g2), rfl, _, .inl (SqL.of g3), l0, _, .int (x :: r)[k], .inl (SqL.of g3), ?_, go _ _ g2 g3 g4⟩
        rw [hk]
        exact atI_nat (by rw [List.getElem?_map, List.getElem?_eq_getElem hkl]; rfl)
end Z
namespace Z
open PySem PySem.Spec PyProof.Rows L2
section
variable {P : Program} {w : World} {K : PySem.W.Frag} {mg : Str → Option Value} {base : Heap} {g : Ads}
theorem ok_check_name (T : Txt K mg g) : FnZ P w K mg base 3 g.f_check_name g.d_check_name ["thing"] (sp_check_name K g) := (raw_check_name T).imp pf_check_name
theorem ok_check_operand (T : Txt K mg g) : FnZ P w K mg base 3 g.f_check_operand g.d_check_operand ["thing"] (sp_check_operand K g) := (raw_check_operand T).imp pf_check_operand
theorem ok_law_deck (T : Txt K mg g) : FnZ P w K mg base 1 g.f_law_deck g.d_law_deck ["script", "turn"] (sp_law_deck K g) := (raw_law_deck T).imp pf_law_deck
theorem ok_law_draw (T : Txt K mg g) : FnZ P w K mg base 1 g.f_law_draw g.d_law_draw ["deck", "many"] (sp_law_draw K g) := (raw_law_draw T).imp pf_law_draw
end
theorem sc_law_of : FnScope ["deck", "some"] ["deck", "some"] (defScope s_law_of) := ⟨rfl, rfl, rfl, by decide +kernel, rfl, by decide +kernel, by decide +kernel⟩
def R_law_of (K : PySem.W.Frag) (g : Ads) (E : XK) : TS :=
  (tRet (tOp (zIx K) (zVar 1) (zCall (sp_law_draw K g) [] (WE (fun cls d _ H => E cls d H)) (tCons (zVar 0) (tCons (tCB (zLen K) (tCons (zVar 1) tNil)) tNil)))))
def rw_law_of (K : PySem.W.Frag) (g : Ads) : Sp := fun vs H Q E => vs.length = 2 ∧ R_law_of K g E { nx := fun _ H' => Q .non H', rt := Q } (start ["deck", "some"] vs) H
theorem raw_law_of {P : Program} {w : World} {K : PySem.W.Frag} {mg : Str → Option Value} {base : Heap} {g : Ads} (T : Txt K mg g) : FnG true P w K mg base 2 g.f_law_of g.d_law_of ["deck", "some"] (rw_law_of K g) := by
  refine okZ T.f_law_of sc_law_of (fun vs H Q E h => h.1) (fun cdv A outer s H vs Q E hr hgu h => ⟨R_law_of K g E, ?_, h.2⟩)
  exact (pss_one (ps_ret (pe_ix ix_z (zv 1) (pe_callZ (ok_law_draw T) (hr.mono (by decide)) hgu rfl T.g_law_draw T.k_law_draw T.e_law_draw .nil (fun σ => passAt (takes_of rfl rfl rfl rfl) σ) (pa_cons (zv 0) (pa_cons (pe_callB call_lenZ (by rfl) T.b_len (by decide +kernel) (pa_cons (zv 1) pa_nil)) pa_nil))) (fun _ _ => rfl))))
theorem But.seq {K : PySem.W.Frag} {p a : Addr} {H H' : Hp} {xs : List V} (b : But p H H') (n : a ≠ p) (h : SqL K H a xs) : SqL K H' a xs := by
  rcases h with (h | ⟨o, h⟩) | h
  · exact .inl (.inl (b _ _ h n))
  · exact .inl (.inr ⟨o, b _ _ h n⟩)
  · exact .inr h
theorem But.tup {K : PySem.W.Frag} {p a : Addr} {H H' : Hp} {xs : List V} (b : But p H H') (n : a ≠ p) (h : SqT K H a xs) : SqT K H' a xs := by
  rcases h with (h | ⟨o, h⟩) | h
  · exact .inl (.inl (b _ _ h n))
  · exact .inl (.inr ⟨o, b _ _ h n⟩)
  · exact .inr h
theorem DeckAt.same {H H' : Hp} {p wa : Addr} (d : DeckAt H p wa) (s : Same H H') : DeckAt H' p wa := by
  obtain ⟨c, m, t, ws, h1, h2, h3, h4⟩ := d
  exact ⟨c, m, t, ws, s _ _ h1, s _ _ h2, h3, h4⟩
theorem DeckAt.ne {H : Hp} {p wa b : Addr} (d : DeckAt H p wa) (n : H b = none) : b ≠ p := by
  obtain ⟨c, m, t, ws, h1, h2, h3, h4⟩ := d
  exact (ne_of_none h1 n).symm
/-- an item by a drawn place -/
theorem drawn_at {xs : List V} {r : Int} (h0 : 0 ≤ r) (h1 : r < (xs.length : Int)) : ∃ (j : Nat) (x : V), xs[j]? = some x ∧ atI xs r = some x := by
  obtain ⟨k, rfl⟩ : ∃ k : Nat, r = k := ⟨r.toNat, by omega⟩
  have hk : k < xs.length := by omega
  exact ⟨k, xs[k], List.getElem?_eq_getElem hk, atI_nat (List.getElem?_eq_getElem hk)⟩
def sp_law_of (K : PySem.W.Frag) (g : Ads) : Sp := fun vs H Q E => ∃ (p wa a : Addr) (xs : List V), vs = [.ref p, .ref a] ∧ DeckAt H p wa ∧ (SqL K H a xs ∨ SqT K H a xs) ∧ a ≠ p ∧ xs ≠ [] ∧ xs.length ≤ 1000000 ∧
  ∀ (j : Nat) x H', xs[j]? = some x → DeckAt H' p wa → But p H H' → Q x H'
theorem pf_law_of {K : PySem.W.Frag} {g : Ads} (vs : List V) (H : Hp) (Q : VK) (E : XK) (h : sp_law_of K g vs H Q E) : rw_law_of K g vs H Q E := by
  obtain ⟨p, wa, a, xs, rfl, hd, ha, hne, hx, hl, q⟩ := h
  have l0 : 0 < xs.length := List.length_pos_iff.mpr hx
  refine ⟨rfl, ⟨xs, ha, p, wa, _, rfl, hd, by omega, by omega, fun r H' r0 r1 d' b' => ?_⟩⟩
  obtain ⟨j, x, e1, e2⟩ := drawn_at r0 r1
  refine ⟨xs, x, ?_, e2, q j x H' e1 d' b'⟩
  exact ha.elim (fun z => .inl (b'.seq hne z)) fun z => .inr (b'.tup hne z)
theorem ok_law_of {P : Program} {w : World} {K : PySem.W.Frag} {mg : Str → Option Value} {base : Heap} {g : Ads} (T : Txt K mg g) : FnZ P w K mg base 2 g.f_law_of g.d_law_of ["deck", "some"] (sp_law_of K g) := (raw_law_of T).imp pf_law_of
theorem sc_law_number : FnScope ["deck", "way", "found", "turn"] ["deck"] (defScope s_law_number) := ⟨rfl, rfl, rfl, by decide +kernel, rfl, by decide +kernel, by decide +kernel⟩
def R_law_number_3 (K : PySem.W.Frag) (g : Ads) (E : XK) : TS :=
  (tRet (tOp zSub (zCall (sp_law_draw K g) [] (WE (fun cls d _ H => E cls d H)) (tCons (zVar 0) (tCons (tC (.int 10)) tNil))) (tC (.int 4))))
def R_law_number_5 (K : PySem.W.Frag) (g : Ads) (E : XK) : TS :=
  (tRet (zCall (sp_law_of K g) [] (WE (fun cls d _ H => E cls d H)) (tCons (zVar 0) (tCons (tLst (tCons (tOp zSub (tOp zPow (tC (.int 10)) (tC (.int 20))) (tC (.int 1))) (tCons (tOp zSub (tC (.int 1)) (tOp zPow (tC (.int 10)) (tC (.int 20)))) tNil))) tNil))))
def R_law_number_8 (K : PySem.W.Frag) (g : Ads) (E : XK) : TS :=
  (tAsg (tOp zAdd (tOp zMul (zVar 2) (tC (.int 100000))) (zCall (sp_law_draw K g) [] (WE (fun cls d _ H => E cls d H)) (tCons (zVar 0) (tCons (tC (.int 100000)) tNil)))) (gName 2))
def R_law_number_9 (K : PySem.W.Frag) (g : Ads) (E : XK) : TS :=
  (tRet (zCall (sp_law_of K g) [] (WE (fun cls d _ H => E cls d H)) (tCons (zVar 0) (tCons (tLst (tCons (zVar 2) (tCons (zNeg (zVar 2)) tNil))) tNil))))
def R_law_number_7 (K : PySem.W.Frag) (g : Ads) (E : XK) : TS :=
  (tSeq (zFor (iRng1 (tCons (tOp zSub (zVar 1) (tC (.int 1))) tNil)) (gName 3)
  (R_law_number_8 K g E))
  (R_law_number_9 K g E))
def R_law_number_6 (K : PySem.W.Frag) (g : Ads) (E : XK) : TS :=
  (tSeq (tAsg (tC (.int 0)) (gName 2))
  (R_law_number_7 K g E))
def R_law_number_4 (K : PySem.W.Frag) (g : Ads) (E : XK) : TS :=
  (tSeq (tIfS (zTest (tOp (zEq K) (zVar 1) (tC (.int 2))))
  (R_law_number_5 K g E)
  tNext)
  (R_law_number_6 K g E))
def R_law_number_2 (K : PySem.W.Frag) (g : Ads) (E : XK) : TS :=
  (tSeq (tIfS (zTest (tOp zLt (zVar 1) (tC (.int 2))))
  (R_law_number_3 K g E)
  tNext)
  (R_law_number_4 K g E))
def R_law_number (K : PySem.W.Frag) (g : Ads) (E : XK) : TS :=
  (tSeq (tAsg (zCall (sp_law_draw K g) [] (WE (fun cls d _ H => E cls d H)) (tCons (zVar 0) (tCons (tC (.int 6)) tNil))) (gName 1))
  (R_law_number_2 K g E))
def rw_law_number (K : PySem.W.Frag) (g : Ads) : Sp := fun vs H Q E => vs.length = 1 ∧ R_law_number K g E { nx := fun _ H' => Q .non H', rt := Q } (start ["deck", "way", "found", "turn"] vs) H
theorem raw_law_number {P : Program} {w : World} {K : PySem.W.Frag} {mg : Str → Option Value} {base : Heap} {g : Ads} (T : Txt K mg g) : FnG true P w K mg base 3 g.f_law_number g.d_law_number ["deck"] (rw_law_number K g) := by
  refine okZ T.f_law_number sc_law_number (fun vs H Q E h => h.1) (fun cdv A outer s H vs Q E hr hgu h => ⟨R_law_number K g E, ?_, h.2⟩)
  exact (pss_cons (ps_set (i := 1) sc_law_number.nd rfl (Or.inl rfl) (pe_callZ (ok_law_draw T) (hr.mono (by decide)) hgu rfl T.g_law_draw T.k_law_draw T.e_law_draw .nil (fun σ => passAt (takes_of rfl rfl rfl rfl) σ) (pa_cons (zv 0) (pa_cons pe_int pa_nil))))
  (pss_cons (ps_if (ptz_cmp op_zLt (zv 1) pe_int (nomark _))
  (pss_one (ps_ret (pe_op op_zSub (pe_callZ (ok_law_draw T) (hr.mono (by decide)) hgu rfl T.g_law_draw T.k_law_draw T.e_law_draw .nil (fun σ => passAt (takes_of rfl rfl rfl rfl) σ) (pa_cons (zv 0) (pa_cons pe_int pa_nil))) pe_int)))
  pss_nil)
  (pss_cons (ps_if (ptz_cmp (op_zEq hr.units) (zv 1) pe_int (nomark _))
  (pss_one (ps_ret (pe_callZ (ok_law_of T) (hr.mono (by decide)) hgu rfl T.g_law_of T.k_law_of T.e_law_of .nil (fun σ => passAt (takes_of rfl rfl rfl rfl) σ) (pa_cons (zv 0) (pa_cons (pe_lst (pa_cons (pe_op op_zSub (pe_op op_zPow pe_int pe_int) pe_int) (pa_cons (pe_op op_zSub pe_int (pe_op op_zPow pe_int pe_int)) pa_nil))) pa_nil)))))
  pss_nil)
  (pss_cons (ps_set (i := 2) sc_law_number.nd rfl (Or.inl rfl) pe_int)
  (pss_cons (psz_for PassesOwn.leaving rfl (pi_range1 rfl T.b_range (pa_cons (pe_op op_zSub (zv 1) pe_int) pa_nil)) (pg_name (i := 3) sc_law_number.nd rfl (Or.inl rfl))
  (pss_one (ps_set (i := 2) sc_law_number.nd rfl (Or.inl rfl) (pe_op op_zAdd (pe_op op_zMul (zv 2) pe_int) (pe_callZ (ok_law_draw T) (hr.mono (by decide)) hgu rfl T.g_law_draw T.k_law_draw T.e_law_draw .nil (fun σ => passAt (takes_of rfl rfl rfl rfl) σ) (pa_cons (zv 0) (pa_cons pe_int pa_nil)))))))
  (pss_one (ps_ret (pe_callZ (ok_law_of T) (hr.mono (by decide)) hgu rfl T.g_law_of T.k_law_of T.e_law_of .nil (fun σ => passAt (takes_of rfl rfl rfl rfl) σ) (pa_cons (zv 0) (pa_cons (pe_lst (pa_cons (zv 2) (pa_cons (pez_neg (zv 2)) pa_nil))) pa_nil))))))))))
def sp_law_number (K : PySem.W.Frag) (g : Ads) : Sp := fun vs H Q E => ∃ (p wa : Addr), vs = [.ref p] ∧ DeckAt H p wa ∧
  ∀ i H', -100000000000000000000 < i → i < 100000000000000000000 → DeckAt H' p wa → But p H H' → Q (.int i) H'
theorem two_of {x : V} {a b : V} {j : Nat} (h : [a, b][j]? = some x) : x = a ∨ x = b := by
  match j, h with
  | 0, h => exact .inl (Option.some.inj h).symm
  | 1, h => exact .inr (Option.some.inj h).symm
  | j + 2, h => simp at h
theorem pf_law_number {K : PySem.W.Frag} {g : Ads} (vs : List V) (H : Hp) (Q : VK) (E : XK) (h : sp_law_number K g vs H Q E) : rw_law_number K g vs H Q E := by
  obtain ⟨p, wa, rfl, hd, q⟩ := h
  refine ⟨rfl, p, wa, _, rfl, hd, by decide, by decide, fun r H1 r0 r1 d1 b1 => zite (fun h1 => ?_) (fun h1 => ?_)⟩
  · refine ⟨p, wa, _, rfl, d1, by decide, by decide, fun r2 H2 r3 r4 d2 b2 => q _ _ (by omega) (by omega) d2 (b1.trans b2)⟩
  · have h1' : ¬ r < 2 := by simpa using h1
    refine .inl ⟨rfl, zite (fun h2 => ?_) (fun h2 => ?_)⟩
    · refine ⟨⟨by decide, by decide, by decide⟩, ⟨by decide, by decide, by decide⟩, by decide, fun l hl => ?_⟩
      refine ⟨p, wa, l, _, rfl, d1.same (Same.put hl), .inl (SqL.of upd_same), d1.ne hl, by simp, by decide, fun j x H2 hx d2 b2 => ?_⟩
      have b3 : But p H H2 := (b1.trans (But.same (Same.put hl))).trans b2
      rcases two_of hx with rfl | rfl
      · exact q _ _ (by decide) (by decide) d2 b3
      · exact q _ _ (by decide) (by decide) d2 b3
    · have h2' : ¬ r = 2 := by simpa using h2
      refine ⟨r - 1, rfl, by omega, by omega, for_z (walk_range (lo := 0) (n := (r - 1).toNat)) (fun i σ H2 => ∃ (f : Int) (v : Option V), σ = [some (.ref p), some (.int r), some (.int f), v] ∧ 0 ≤ f ∧ f < 100000 ^ i ∧ DeckAt H2 p wa ∧ But p H1 H2)
        ⟨0, none, rfl, by decide, by decide, d1, But.refl _ _⟩ (fun _ _ _ _ _ => trivial) ?_ ?_⟩
      · rintro i x σ H2 H3 hi ⟨f, v, rfl, f0, f1, d2, b2⟩ ⟨rfl, rfl⟩
        refine ⟨.inr (by decide), p, wa, _, rfl, d2, by decide, by decide, fun r2 H4 r3 r4 d4 b4 => ⟨_, _, rfl, by omega, ?_, d4, b2.trans b4⟩⟩
        rw [Int.pow_succ]
        generalize (100000 : Int) ^ i = P at f1 ⊢
        omega
      · rintro σ H2 ⟨f, v, rfl, f0, f1, d2, b2⟩
        have f2 : f < 100000000000000000000 := by
          have e : r = 3 ∨ r = 4 ∨ r = 5 := by omega
          rcases e with rfl | rfl | rfl
          · exact Int.lt_of_lt_of_le f1 (by decide)
          · exact Int.lt_of_lt_of_le f1 (by decide)
          · exact Int.lt_of_lt_of_le f1 (by decide)
        refine ⟨(show 2 ≤ sizeLine by decide), fun l hl => ?_⟩
        refine ⟨p, wa, l, _, rfl, d2.same (Same.put hl), .inl (SqL.of upd_same), d2.ne hl, by simp, (show 2 ≤ 1000000 by decide), fun j x H4 hx d4 b4 => ?_⟩
        have b5 : But p H H4 := ((b1.trans b2).trans (But.same (Same.put hl))).trans b4
        rcases two_of hx with rfl | rfl
        · exact q _ _ (by omega) f2 d4 b5
        · exact q _ _ (by omega) (by omega) d4 b5
theorem ok_law_number {P : Program} {w : World} {K : PySem.W.Frag} {mg : Str → Option Value} {base : Heap} {g : Ads} (T : Txt K mg g) : FnZ P w K mg base 3 g.f_law_number g.d_law_number ["deck"] (sp_law_number K g) := (raw_law_number T).imp pf_law_number
theorem sc_law_names : FnScope ["deck", "many", "letters", "stem", "first", "is_ahead", "turn", "found", "k", "at", "two"] ["deck", "many"] (defScope s_law_names) := ⟨rfl, rfl, rfl, by decide +kernel, rfl, by decide +kernel, by decide +kernel⟩
def R_law_names_4 (K : PySem.W.Frag) (g : Ads) (E : XK) : TS :=
  (tAsg (tOp zAdd (zVar 3) (zCall (sp_law_of K g) [] (WE (fun cls d _ H => E cls d H)) (tCons (zVar 0) (tCons (tLst (tCons (tC (.str "a")) (tCons (tC (.str "z")) (tCons (tC (.str "q")) (tCons (tC (.str "m")) tNil))))) tNil)))) (gName 3))
def R_law_names_9 (K : PySem.W.Frag) (g : Ads) (E : XK) : TS :=
  (tDrop (tBM K "list" rAppend (zVar 7) (tCons (tIf (zTru K (zVar 5)) (tOp zAdd (zVar 10) (zVar 3)) (tOp zAdd (zVar 3) (zVar 10))) tNil)))
def R_law_names_8 (K : PySem.W.Frag) (g : Ads) (E : XK) : TS :=
  (tSeq (tAsg (tOp zAdd (tOp (zIx K) (zVar 2) (tOp zFdiv (zVar 9) (tC (.int 26)))) (tOp (zIx K) (zVar 2) (tOp zMod (zVar 9) (tC (.int 26))))) (gName 10))
  (R_law_names_9 K g E))
def R_law_names_7 (K : PySem.W.Frag) (g : Ads) (E : XK) : TS :=
  (tSeq (tAsg (tOp zMod (tOp zAdd (zVar 4) (tOp zMul (tC (.int 7)) (zVar 8))) (tC (.int 676))) (gName 9))
  (R_law_names_8 K g E))
def R_law_names_6 (K : PySem.W.Frag) (g : Ads) (E : XK) : TS :=
  (tSeq (zFor (iRng1 (tCons (zVar 1) tNil)) (gName 8)
  (R_law_names_7 K g E))
  (tRet (zVar 7)))
def R_law_names_5 (K : PySem.W.Frag) (g : Ads) (E : XK) : TS :=
  (tSeq (tAsg (tLst tNil) (gName 7))
  (R_law_names_6 K g E))
def R_law_names_3 (K : PySem.W.Frag) (g : Ads) (E : XK) : TS :=
  (tSeq (zFor (iRng1 (tCons (zCall (sp_law_draw K g) [] (WE (fun cls d _ H => E cls d H)) (tCons (zVar 0) (tCons (tC (.int 7)) tNil))) tNil)) (gName 6)
  (R_law_names_4 K g E))
  (R_law_names_5 K g E))
def R_law_names_2 (K : PySem.W.Frag) (g : Ads) (E : XK) : TS :=
  (tSeq (tPar3 3 4 5 (tCons (tC (.str "")) (tCons (zCall (sp_law_draw K g) [] (WE (fun cls d _ H => E cls d H)) (tCons (zVar 0) (tCons (tC (.int 676)) tNil))) (tCons (tOp (zEq K) (zCall (sp_law_draw K g) [] (WE (fun cls d _ H => E cls d H)) (tCons (zVar 0) (tCons (tC (.int 2)) tNil))) (tC (.int 0))) tNil))))
  (R_law_names_3 K g E))
def R_law_names (K : PySem.W.Frag) (g : Ads) (E : XK) : TS :=
  (tSeq (tAsg (tC (.str "abcdefghijklmnopqrstuvwxyz")) (gName 2))
  (R_law_names_2 K g E))
def rw_law_names (K : PySem.W.Frag) (g : Ads) : Sp := fun vs H Q E => vs.length = 2 ∧ R_law_names K g E { nx := fun _ H' => Q .non H', rt := Q } (start ["deck", "many", "letters", "stem", "first", "is_ahead", "turn", "found", "k", "at", "two"] vs) H
theorem raw_law_names {P : Program} {w : World} {K : PySem.W.Frag} {mg : Str → Option Value} {base : Heap} {g : Ads} (T : Txt K mg g) : FnG true P w K mg base 3 g.f_law_names g.d_law_names ["deck", "many"] (rw_law_names K g) := by
  refine okZ T.f_law_names sc_law_names (fun vs H Q E h => h.1) (fun cdv A outer s H vs Q E hr hgu h => ⟨R_law_names K g E, ?_, h.2⟩)
  exact (pss_cons (ps_set (i := 2) sc_law_names.nd rfl (Or.inl rfl) pe_str)
  (pss_cons (ps_par3 (i := 3) (j := 4) (l := 5) (by rfl) sc_law_names.nd rfl rfl rfl (by decide) (by decide) (by decide) rfl rfl rfl (pa_cons pe_str (pa_cons (pe_callZ (ok_law_draw T) (hr.mono (by decide)) hgu rfl T.g_law_draw T.k_law_draw T.e_law_draw .nil (fun σ => passAt (takes_of rfl rfl rfl rfl) σ) (pa_cons (zv 0) (pa_cons pe_int pa_nil))) (pa_cons (pe_cmpR (op_zEq hr.units) (pe_callZ (ok_law_draw T) (hr.mono (by decide)) hgu rfl T.g_law_draw T.k_law_draw T.e_law_draw .nil (fun σ => passAt (takes_of rfl rfl rfl rfl) σ) (pa_cons (zv 0) (pa_cons pe_int pa_nil))) pe_int (nomark _)) pa_nil))) (by rfl))
  (pss_cons (psz_for PassesOwn.leaving rfl (pi_range1 rfl T.b_range (pa_cons (pe_callZ (ok_law_draw T) (hr.mono (by decide)) hgu rfl T.g_law_draw T.k_law_draw T.e_law_draw .nil (fun σ => passAt (takes_of rfl rfl rfl rfl) σ) (pa_cons (zv 0) (pa_cons pe_int pa_nil))) pa_nil)) (pg_name (i := 6) sc_law_names.nd rfl (Or.inl rfl))
  (pss_one (ps_set (i := 3) sc_law_names.nd rfl (Or.inl rfl) (pe_op op_zAdd (zv 3) (pe_callZ (ok_law_of T) (hr.mono (by decide)) hgu rfl T.g_law_of T.k_law_of T.e_law_of .nil (fun σ => passAt (takes_of rfl rfl rfl rfl) σ) (pa_cons (zv 0) (pa_cons (pe_lst (pa_cons pe_str (pa_cons pe_str (pa_cons pe_str (pa_cons pe_str pa_nil))))) pa_nil)))))))
  (pss_cons (ps_set (i := 7) sc_law_names.nd rfl (Or.inl rfl) (pe_lst pa_nil))
  (pss_cons (psz_for PassesOwn.leaving rfl (pi_range1 rfl T.b_range (pa_cons (zv 1) pa_nil)) (pg_name (i := 8) sc_law_names.nd rfl (Or.inl rfl))
  (pss_cons (ps_set (i := 9) sc_law_names.nd rfl (Or.inl rfl) (pe_op op_zMod (pe_op op_zAdd (zv 4) (pe_op op_zMul pe_int (zv 8))) pe_int))
  (pss_cons (ps_set (i := 10) sc_law_names.nd rfl (Or.inl rfl) (pe_op op_zAdd (pe_ix ix_z (zv 2) (pe_op op_zFdiv (zv 9) pe_int) (fun _ _ => rfl)) (pe_ix ix_z (zv 2) (pe_op op_zMod (zv 9) pe_int) (fun _ _ => rfl))))
  (pss_one (ps_expr (pe_bm PySem.F.plainAttrs_list PySem.F.slot_list_append PySem.F.type_list_append mt_append (zv 7) (pa_cons (pe_ifExp (ptz_truth (zv 5) (by intro _; rfl)) (pe_op op_zAdd (zv 10) (zv 3)) (pe_op op_zAdd (zv 3) (zv 10))) pa_nil)))))))
  (pss_one (ps_ret (zv 7))))))))
/-! ### texts of letters -/
abbrev abc : Str := "abcdefghijklmnopqrstuvwxyz"
theorem abc_at : ∀ i : Nat, i < 26 → abc.cps.toList[i]? = some (97 + i) := by decide +kernel
theorem abc_len : abc.length = 26 := by decide +kernel
theorem abc_ix {i : Int} (h0 : 0 ≤ i) (h1 : i < 26) : atI abc.cps.toList i = some (97 + i.toNat) := by
  obtain ⟨k, rfl⟩ : ∃ k : Nat, i = k := ⟨i.toNat, by omega⟩
  exact atI_nat (abc_at k (by omega))
/-- signs below 128 -/
def Asc (z : Str) : Prop := ∀ c ∈ z.cps.toList, c < 128
theorem Asc.app {x y : Str} (a : Asc x) (b : Asc y) : Asc (x ++ y) := fun c hc => by
  have e : (x ++ y).cps.toList = x.cps.toList ++ y.cps.toList := by
    show (x.cps ++ y.cps).toList = _
    simp
  rw [e] at hc
  exact (List.mem_append.mp hc).elim (a c) (b c)
theorem Asc.cut {x : Str} (a : Asc x) (lo hi : Option Int) : Asc (cutS x lo hi) := fun c hc => by
  have hc' : c ∈ (x.cps.toList.drop (HT.sIx x.length 0 lo)).take (HT.sIx x.length x.length hi - HT.sIx x.length 0 lo) := by simpa [cutS] using hc
  exact a c (List.mem_of_mem_drop (List.mem_of_mem_take hc'))
theorem asc_one {c : Nat} (h : c < 128) : Asc ⟨#[c]⟩ := fun d hd => by
  have e : d = c := by simpa using hd
  omega
theorem len_app (x y : Str) : (x ++ y).length = x.length + y.length := by
  show (x.cps ++ y.cps).size = x.cps.size + y.cps.size
  simp
theorem len_one (c : Nat) : (⟨#[c]⟩ : Str).length = 1 := rfl
/-- a word of the names that are drawn: two letters ahead of a stem, or behind it -/
def twoOf (first : Int) (k : Nat) : Str := ⟨#[97 + ((first + 7 * (k : Int)) % 676 / 26).toNat]⟩ ++ ⟨#[97 + ((first + 7 * (k : Int)) % 676 % 26).toNat]⟩
def nmOf (ahead : Bool) (stem : Str) (first : Int) (k : Nat) : Str := if ahead = true then twoOf first k ++ stem else stem ++ twoOf first k
def Stem (z : Str) : Prop := z.length ≤ 6 ∧ ∀ c ∈ z.cps.toList, c = 97 ∨ c = 122 ∨ c = 113 ∨ c = 109
def sp_law_names (K : PySem.W.Frag) (g : Ads) : Sp := fun vs H Q E => ∃ (p wa : Addr) (n : Int), vs = [.ref p, .int n] ∧ DeckAt H p wa ∧ 0 ≤ n ∧ n ≤ 1000 ∧
  ∀ (ah : Bool) (stem : Str) (first : Int) (D : Addr) (H' : Hp), Stem stem → 0 ≤ first → first < 676 → DeckAt H' p wa → But p H H' → H D = none →
    H' D = some (.lst ((List.range n.toNat).map fun k => V.str (nmOf ah stem first k))) → Q (.ref D) H'
theorem four_of {x a b c d : V} {j : Nat} (h : [a, b, c, d][j]? = some x) : x = a ∨ x = b ∨ x = c ∨ x = d := by
  match j, h with
  | 0, h => exact .inl (Option.some.inj h).symm
  | 1, h => exact .inr (.inl (Option.some.inj h).symm)
  | 2, h => exact .inr (.inr (.inl (Option.some.inj h).symm))
  | 3, h => exact .inr (.inr (.inr (Option.some.inj h).symm))
  | j + 4, h => simp at h
theorem pf_law_names {K : PySem.W.Frag} {g : Ads} (vs : List V) (H : Hp) (Q : VK) (E : XK) (h : sp_law_names K g vs H Q E) : rw_law_names K g vs H Q E := by
  obtain ⟨p, wa, n, rfl, hd, n0, n1, q⟩ := h
  refine ⟨rfl, p, wa, _, rfl, hd, by decide, by decide, fun first H1 r0 r1 d1 b1 => ⟨p, wa, _, rfl, d1, by decide, by decide, fun ra H2 r2 r3 d2 b2 => .inl ⟨rfl, _, _, _, rfl, ?_⟩⟩⟩
  refine ⟨p, wa, _, rfl, d2, by decide, by decide, fun r4 H3 r5 r6 d3 b3 => ⟨r4, rfl, by omega, by omega, for_z (walk_range (lo := 0) (n := r4.toNat)) (fun i σ H4 => ∃ (stem : Str) (v : Option V),
    σ = [some (.ref p), some (.int n), some (.str abc), some (.str stem), some (.int first), some (.bl (decide (V.int ra = V.int 0))), v, none, none, none, none] ∧ stem.length ≤ i ∧ (∀ c ∈ stem.cps.toList, c = 97 ∨ c = 122 ∨ c = 113 ∨ c = 109) ∧ DeckAt H4 p wa ∧ But p H H4)
    ⟨"", none, rfl, Nat.le_refl _, (fun c hc => absurd hc (by simp [show ("" : Str).cps = #[] from rfl])), d3, (b1.trans b2).trans b3⟩ (fun _ _ _ _ _ => trivial) ?_ ?_⟩⟩
  · rintro i x σ H4 H5 hi ⟨stem, v, rfl, f0, f1, d4, b4⟩ ⟨rfl, rfl⟩
    refine ⟨by decide, fun l hl => ⟨p, wa, l, _, rfl, d4.same (Same.put hl), .inl (SqL.of upd_same), d4.ne hl, by simp, by decide, fun j x H6 hx d6 b6 => ?_⟩⟩
    have b7 : But p H H6 := (b4.trans (But.same (Same.put hl))).trans b6
    have hi6 : i < 6 := by omega
    have key : ∀ c : Nat, (c = 97 ∨ c = 122 ∨ c = 113 ∨ c = 109) → x = .str ⟨#[c]⟩ → zAdd (.str stem) x H6 fun z H7 => ∃ (stem' : Str) (v' : Option V),
        [some (V.ref p), some (.int n), some (.str abc), some z, some (.int first), some (.bl (decide (V.int ra = V.int 0))), some (.int (0 + (i : Int))), none, none, none, none] =
          [some (V.ref p), some (.int n), some (.str abc), some (.str stem'), some (.int first), some (.bl (decide (V.int ra = V.int 0))), v', none, none, none, none] ∧
          stem'.length ≤ i + 1 ∧ (∀ c ∈ stem'.cps.toList, c = 97 ∨ c = 122 ∨ c = 113 ∨ c = 109) ∧ DeckAt H7 p wa ∧ But p H H7 := by
      rintro c hc rfl
      refine ⟨?_, _, _, rfl, ?_, ?_, d6, b7⟩
      · rw [len_one]
        exact Nat.le_trans (show stem.length + 1 ≤ 7 by omega) (by decide)
      · rw [len_app, len_one]
        omega
      · intro d hd
        have e : (stem ++ (⟨#[c]⟩ : Str)).cps.toList = stem.cps.toList ++ [c] := by
          show (stem.cps ++ #[c]).toList = _
          simp
        rw [e] at hd
        rcases List.mem_append.mp hd with z | z
        · exact f1 d z
        · have e2 : d = c := by simpa using z
          rw [e2]
          exact hc
    rcases four_of hx with e | e | e | e
    · exact key 97 (by simp) e
    · exact key 122 (by simp) e
    · exact key 113 (by simp) e
    · exact key 109 (by simp) e
  · rintro σ H4 ⟨stem, v, rfl, f0, f1, d4, b4⟩
    have hst : Stem stem := ⟨by omega, f1⟩
    refine ⟨by decide, fun D hD => ?_⟩
    have hDH : H D = none := by
      cases e : H D with
      | none => rfl
      | some o =>
        by_cases z : D = p
        · exact absurd z (d4.ne hD)
        · have := b4 D o e z
          rw [hD] at this
          cases this
    have hDp : D ≠ p := d4.ne hD
    refine ⟨n, rfl, by omega, by omega, for_z (walk_range (lo := 0) (n := n.toNat)) (fun i σ H5 => ∃ (v6 v8 v9 v10 : Option V),
      σ = [some (.ref p), some (.int n), some (.str abc), some (.str stem), some (.int first), some (.bl (decide (V.int ra = V.int 0))), v6, some (.ref D), v8, v9, v10] ∧
        H5 D = some (.lst ((List.range i).map fun k => V.str (nmOf (decide (V.int ra = V.int 0)) stem first k))) ∧ DeckAt H5 p wa ∧ But p H H5)
      ⟨v, none, none, none, rfl, upd_same, d4.same (Same.put hD), b4.trans (But.same (Same.put hD))⟩ (fun _ _ _ _ _ => trivial) ?_ ?_⟩
    · rintro i x σ H5 H6 hi ⟨v6, v8, v9, v10, rfl, g1, g2, g3⟩ ⟨rfl, rfl⟩
      have q0 := Int.emod_nonneg (first + 7 * (0 + (i : Int))) (show (676 : Int) ≠ 0 by decide)
      have q1 := Int.emod_lt_of_pos (first + 7 * (0 + (i : Int))) (show (0 : Int) < 676 by decide)
      refine ⟨.inl (by decide), by decide, ⟨by decide, by decide⟩, by decide, _, abc_ix (by omega) (by omega), by decide, by decide, _, abc_ix (by omega) (by omega), (show 2 ≤ sizeLine by decide), ?_⟩
      have hin : (List.range i).length < sizeLine := by
        rw [List.length_range]
        exact Nat.lt_of_lt_of_le (show i < 1000 by omega) (by decide)
      have hwD : wa ≠ D := by
        obtain ⟨c, m, t, ws, a1, a2, a3, a4⟩ := d4
        exact ne_of_none a2 hD
      have hfin : ∀ z : Str, z = nmOf (decide (V.int ra = V.int 0)) stem first i →
          (upd H6 D (.lst (((List.range i).map fun k => V.str (nmOf (decide (V.int ra = V.int 0)) stem first k)) ++ [.str z]))) D =
            some (.lst ((List.range (i + 1)).map fun k => V.str (nmOf (decide (V.int ra = V.int 0)) stem first k))) ∧
          DeckAt (upd H6 D (.lst (((List.range i).map fun k => V.str (nmOf (decide (V.int ra = V.int 0)) stem first k)) ++ [.str z]))) p wa ∧
          But p H (upd H6 D (.lst (((List.range i).map fun k => V.str (nmOf (decide (V.int ra = V.int 0)) stem first k)) ++ [.str z]))) := by
        rintro z rfl
        refine ⟨?_, ?_, ?_⟩
        · rw [upd_same, List.range_succ, List.map_append]
          rfl
        · obtain ⟨c, m, t, ws, a1, a2, a3, a4⟩ := g2
          exact ⟨c, m, t, ws, by rw [upd_ne hDp.symm]; exact a1, by rw [upd_ne hwD]; exact a2, a3, a4⟩
        · intro b o e nb
          rw [upd_ne (ne_of_none e hDH)]
          exact g3 b o e nb
      have hln : ((List.range i).map fun k => V.str (nmOf (decide (V.int ra = V.int 0)) stem first k)).length < sizeLine := by
        rw [List.length_map]
        exact hin
      have e0 : (0 : Int) + (i : Int) = (i : Int) := Int.zero_add _
      have l2 : ∀ x y : Nat, ((⟨#[x]⟩ : Str) ++ ⟨#[y]⟩).length = 2 := fun x y => rfl
      have l6 : stem.length ≤ 6 := hst.1
      refine ⟨.inl ⟨rfl, _, SqL.of g1⟩, ?_⟩
      refine zite (fun ha => ?_) (fun ha => ?_)
      · have hz : ((⟨#[97 + ((first + 7 * (0 + (i : Int))) % 676 / 26).toNat]⟩ : Str) ++ (⟨#[97 + ((first + 7 * (0 + (i : Int))) % 676 % 26).toNat]⟩ : Str)) ++ stem = nmOf (decide (V.int ra = V.int 0)) stem first i := by
          rw [e0]
          simp only [nmOf, ha, if_true, twoOf]
        refine ⟨?_, D, _, _, rfl, rfl, g1, hln, v6, _, _, _, rfl, hfin _ hz⟩
        rw [l2]
        exact Nat.le_trans (show 2 + stem.length ≤ 8 by omega) (by decide)
      · have hz : stem ++ ((⟨#[97 + ((first + 7 * (0 + (i : Int))) % 676 / 26).toNat]⟩ : Str) ++ (⟨#[97 + ((first + 7 * (0 + (i : Int))) % 676 % 26).toNat]⟩ : Str)) = nmOf (decide (V.int ra = V.int 0)) stem first i := by
          rw [e0]
          simp only [nmOf, ha, twoOf]
          rfl
        refine ⟨?_, D, _, _, rfl, rfl, g1, hln, v6, _, _, _, rfl, hfin _ hz⟩
        rw [l2]
        exact Nat.le_trans (show stem.length + 2 ≤ 8 by omega) (by decide)
    · rintro σ H5 ⟨v6, v8, v9, v10, rfl, g1, g2, g3⟩
      exact q _ stem first D H5 hst r0 r1 g2 g3 hDH g1
end Z
namespace Z
open PySem PySem.Spec PyProof.Rows L2
theorem ok_law_names {P : Program} {w : World} {K : PySem.W.Frag} {mg : Str → Option Value} {base : Heap} {g : Ads} (T : Txt K mg g) : FnZ P w K mg base 3 g.f_law_names g.d_law_names ["deck", "many"] (sp_law_names K g) := (raw_law_names T).imp pf_law_names
def sp_BadTest_init (K : PySem.W.Frag) (g : Ads) : Sp := sp_x1 g.c_BadTest "test"
theorem sc_BadTest_init : FnScope ["self", "test"] ["self", "test"] (defScope s_BadTest_init) := ⟨rfl, rfl, rfl, by decide +kernel, rfl, by decide +kernel, by decide +kernel⟩
def R_BadTest_init (K : PySem.W.Frag) (g : Ads) (E : XK) : TS :=
  (tOstB K "test" (zVar 0) (zVar 1))
def rw_BadTest_init (K : PySem.W.Frag) (g : Ads) : Sp := fun vs H Q E => vs.length = 2 ∧ R_BadTest_init K g E { nx := fun _ H' => Q .non H', rt := Q } (start ["self", "test"] vs) H
theorem raw_BadTest_init {P : Program} {w : World} {K : PySem.W.Frag} {mg : Str → Option Value} {base : Heap} {g : Ads} (T : Txt K mg g) : FnG true P w K mg base 1 g.f_BadTest_init g.d_BadTest_init ["self", "test"] (rw_BadTest_init K g) := by
  refine okZ T.f_BadTest_init sc_BadTest_init (fun vs H Q E h => h.1) (fun cdv A outer s H vs Q E hr hgu h => ⟨R_BadTest_init K g E, ?_, h.2⟩)
  exact (pss_one (ps_ostB (zv 0) (zv 1)))
theorem ok_BadTest_init {P : Program} {w : World} {K : PySem.W.Frag} {mg : Str → Option Value} {base : Heap} {g : Ads} (T : Txt K mg g) : FnZ P w K mg base 1 g.f_BadTest_init g.d_BadTest_init ["self", "test"] (sp_BadTest_init K g) :=
  (raw_BadTest_init T).imp fun vs H Q E ⟨a, v, e, ha, k⟩ => by
    subst e
    exact ⟨rfl, a, g.c_BadTest, rfl, T.o_BadTest, T.a_BadTest_test, .inl ⟨ha, k⟩⟩
def sp_BadStep_init (K : PySem.W.Frag) (g : Ads) : Sp := sp_x1 g.c_BadStep "index"
theorem sc_BadStep_init : FnScope ["self", "index"] ["self", "index"] (defScope s_BadStep_init) := ⟨rfl, rfl, rfl, by decide +kernel, rfl, by decide +kernel, by decide +kernel⟩
def R_BadStep_init (K : PySem.W.Frag) (g : Ads) (E : XK) : TS :=
  (tOstB K "index" (zVar 0) (zVar 1))
def rw_BadStep_init (K : PySem.W.Frag) (g : Ads) : Sp := fun vs H Q E => vs.length = 2 ∧ R_BadStep_init K g E { nx := fun _ H' => Q .non H', rt := Q } (start ["self", "index"] vs) H
theorem raw_BadStep_init {P : Program} {w : World} {K : PySem.W.Frag} {mg : Str → Option Value} {base : Heap} {g : Ads} (T : Txt K mg g) : FnG true P w K mg base 1 g.f_BadStep_init g.d_BadStep_init ["self", "index"] (rw_BadStep_init K g) := by
  refine okZ T.f_BadStep_init sc_BadStep_init (fun vs H Q E h => h.1) (fun cdv A outer s H vs Q E hr hgu h => ⟨R_BadStep_init K g E, ?_, h.2⟩)
  exact (pss_one (ps_ostB (zv 0) (zv 1)))
theorem ok_BadStep_init {P : Program} {w : World} {K : PySem.W.Frag} {mg : Str → Option Value} {base : Heap} {g : Ads} (T : Txt K mg g) : FnZ P w K mg base 1 g.f_BadStep_init g.d_BadStep_init ["self", "index"] (sp_BadStep_init K g) :=
  (raw_BadStep_init T).imp fun vs H Q E ⟨a, v, e, ha, k⟩ => by
    subst e
    exact ⟨rfl, a, g.c_BadStep, rfl, T.o_BadStep, T.a_BadStep_index, .inl ⟨ha, k⟩⟩
def sp_BadFail_init (K : PySem.W.Frag) (g : Ads) : Sp := sp_x1 g.c_BadFail "index"
theorem sc_BadFail_init : FnScope ["self", "index"] ["self", "index"] (defScope s_BadFail_init) := ⟨rfl, rfl, rfl, by decide +kernel, rfl, by decide +kernel, by decide +kernel⟩
def R_BadFail_init (K : PySem.W.Frag) (g : Ads) (E : XK) : TS :=
  (tOstB K "index" (zVar 0) (zVar 1))
def rw_BadFail_init (K : PySem.W.Frag) (g : Ads) : Sp := fun vs H Q E => vs.length = 2 ∧ R_BadFail_init K g E { nx := fun _ H' => Q .non H', rt := Q } (start ["self", "index"] vs) H
theorem raw_BadFail_init {P : Program} {w : World} {K : PySem.W.Frag} {mg : Str → Option Value} {base : Heap} {g : Ads} (T : Txt K mg g) : FnG true P w K mg base 1 g.f_BadFail_init g.d_BadFail_init ["self", "index"] (rw_BadFail_init K g) := by
  refine okZ T.f_BadFail_init sc_BadFail_init (fun vs H Q E h => h.1) (fun cdv A outer s H vs Q E hr hgu h => ⟨R_BadFail_init K g E, ?_, h.2⟩)
  exact (pss_one (ps_ostB (zv 0) (zv 1)))
theorem ok_BadFail_init {P : Program} {w : World} {K : PySem.W.Frag} {mg : Str → Option Value} {base : Heap} {g : Ads} (T : Txt K mg g) : FnZ P w K mg base 1 g.f_BadFail_init g.d_BadFail_init ["self", "index"] (sp_BadFail_init K g) :=
  (raw_BadFail_init T).imp fun vs H Q E ⟨a, v, e, ha, k⟩ => by
    subst e
    exact ⟨rfl, a, g.c_BadFail, rfl, T.o_BadFail, T.a_BadFail_index, .inl ⟨ha, k⟩⟩
def sp_BadPair_init (K : PySem.W.Frag) (g : Ads) : Sp := sp_x1 g.c_BadPair "index"
theorem sc_BadPair_init : FnScope ["self", "index"] ["self", "index"] (defScope s_BadPair_init) := ⟨rfl, rfl, rfl, by decide +kernel, rfl, by decide +kernel, by decide +kernel⟩
def R_BadPair_init (K : PySem.W.Frag) (g : Ads) (E : XK) : TS :=
  (tOstB K "index" (zVar 0) (zVar 1))
def rw_BadPair_init (K : PySem.W.Frag) (g : Ads) : Sp := fun vs H Q E => vs.length = 2 ∧ R_BadPair_init K g E { nx := fun _ H' => Q .non H', rt := Q } (start ["self", "index"] vs) H
theorem raw_BadPair_init {P : Program} {w : World} {K : PySem.W.Frag} {mg : Str → Option Value} {base : Heap} {g : Ads} (T : Txt K mg g) : FnG true P w K mg base 1 g.f_BadPair_init g.d_BadPair_init ["self", "index"] (rw_BadPair_init K g) := by
  refine okZ T.f_BadPair_init sc_BadPair_init (fun vs H Q E h => h.1) (fun cdv A outer s H vs Q E hr hgu h => ⟨R_BadPair_init K g E, ?_, h.2⟩)
  exact (pss_one (ps_ostB (zv 0) (zv 1)))
theorem ok_BadPair_init {P : Program} {w : World} {K : PySem.W.Frag} {mg : Str → Option Value} {base : Heap} {g : Ads} (T : Txt K mg g) : FnZ P w K mg base 1 g.f_BadPair_init g.d_BadPair_init ["self", "index"] (sp_BadPair_init K g) :=
  (raw_BadPair_init T).imp fun vs H Q E ⟨a, v, e, ha, k⟩ => by
    subst e
    exact ⟨rfl, a, g.c_BadPair, rfl, T.o_BadPair, T.a_BadPair_index, .inl ⟨ha, k⟩⟩
def sp_BadKind_init (K : PySem.W.Frag) (g : Ads) : Sp := sp_x1 g.c_BadKind "kind"
theorem sc_BadKind_init : FnScope ["self", "kind"] ["self", "kind"] (defScope s_BadKind_init) := ⟨rfl, rfl, rfl, by decide +kernel, rfl, by decide +kernel, by decide +kernel⟩
def R_BadKind_init (K : PySem.W.Frag) (g : Ads) (E : XK) : TS :=
  (tOstB K "kind" (zVar 0) (zVar 1))
def rw_BadKind_init (K : PySem.W.Frag) (g : Ads) : Sp := fun vs H Q E => vs.length = 2 ∧ R_BadKind_init K g E { nx := fun _ H' => Q .non H', rt := Q } (start ["self", "kind"] vs) H
theorem raw_BadKind_init {P : Program} {w : World} {K : PySem.W.Frag} {mg : Str → Option Value} {base : Heap} {g : Ads} (T : Txt K mg g) : FnG true P w K mg base 1 g.f_BadKind_init g.d_BadKind_init ["self", "kind"] (rw_BadKind_init K g) := by
  refine okZ T.f_BadKind_init sc_BadKind_init (fun vs H Q E h => h.1) (fun cdv A outer s H vs Q E hr hgu h => ⟨R_BadKind_init K g E, ?_, h.2⟩)
  exact (pss_one (ps_ostB (zv 0) (zv 1)))
theorem ok_BadKind_init {P : Program} {w : World} {K : PySem.W.Frag} {mg : Str → Option Value} {base : Heap} {g : Ads} (T : Txt K mg g) : FnZ P w K mg base 1 g.f_BadKind_init g.d_BadKind_init ["self", "kind"] (sp_BadKind_init K g) :=
  (raw_BadKind_init T).imp fun vs H Q E ⟨a, v, e, ha, k⟩ => by
    subst e
    exact ⟨rfl, a, g.c_BadKind, rfl, T.o_BadKind, T.a_BadKind_kind, .inl ⟨ha, k⟩⟩
def sp_BadMend_init (K : PySem.W.Frag) (g : Ads) : Sp := sp_x1 g.c_BadMend "index"
theorem sc_BadMend_init : FnScope ["self", "index"] ["self", "index"] (defScope s_BadMend_init) := ⟨rfl, rfl, rfl, by decide +kernel, rfl, by decide +kernel, by decide +kernel⟩
def R_BadMend_init (K : PySem.W.Frag) (g : Ads) (E : XK) : TS :=
  (tOstB K "index" (zVar 0) (zVar 1))
def rw_BadMend_init (K : PySem.W.Frag) (g : Ads) : Sp := fun vs H Q E => vs.length = 2 ∧ R_BadMend_init K g E { nx := fun _ H' => Q .non H', rt := Q } (start ["self", "index"] vs) H
theorem raw_BadMend_init {P : Program} {w : World} {K : PySem.W.Frag} {mg : Str → Option Value} {base : Heap} {g : Ads} (T : Txt K mg g) : FnG true P w K mg base 1 g.f_BadMend_init g.d_BadMend_init ["self", "index"] (rw_BadMend_init K g) := by
  refine okZ T.f_BadMend_init sc_BadMend_init (fun vs H Q E h => h.1) (fun cdv A outer s H vs Q E hr hgu h => ⟨R_BadMend_init K g E, ?_, h.2⟩)
  exact (pss_one (ps_ostB (zv 0) (zv 1)))
theorem ok_BadMend_init {P : Program} {w : World} {K : PySem.W.Frag} {mg : Str → Option Value} {base : Heap} {g : Ads} (T : Txt K mg g) : FnZ P w K mg base 1 g.f_BadMend_init g.d_BadMend_init ["self", "index"] (sp_BadMend_init K g) :=
  (raw_BadMend_init T).imp fun vs H Q E ⟨a, v, e, ha, k⟩ => by
    subst e
    exact ⟨rfl, a, g.c_BadMend, rfl, T.o_BadMend, T.a_BadMend_index, .inl ⟨ha, k⟩⟩
def sp_BadText_init (K : PySem.W.Frag) (g : Ads) : Sp := sp_x1 g.c_BadText "line"
theorem sc_BadText_init : FnScope ["self", "line"] ["self", "line"] (defScope s_BadText_init) := ⟨rfl, rfl, rfl, by decide +kernel, rfl, by decide +kernel, by decide +kernel⟩
def R_BadText_init (K : PySem.W.Frag) (g : Ads) (E : XK) : TS :=
  (tOstB K "line" (zVar 0) (zVar 1))
def rw_BadText_init (K : PySem.W.Frag) (g : Ads) : Sp := fun vs H Q E => vs.length = 2 ∧ R_BadText_init K g E { nx := fun _ H' => Q .non H', rt := Q } (start ["self", "line"] vs) H
theorem raw_BadText_init {P : Program} {w : World} {K : PySem.W.Frag} {mg : Str → Option Value} {base : Heap} {g : Ads} (T : Txt K mg g) : FnG true P w K mg base 1 g.f_BadText_init g.d_BadText_init ["self", "line"] (rw_BadText_init K g) := by
  refine okZ T.f_BadText_init sc_BadText_init (fun vs H Q E h => h.1) (fun cdv A outer s H vs Q E hr hgu h => ⟨R_BadText_init K g E, ?_, h.2⟩)
  exact (pss_one (ps_ostB (zv 0) (zv 1)))
theorem ok_BadText_init {P : Program} {w : World} {K : PySem.W.Frag} {mg : Str → Option Value} {base : Heap} {g : Ads} (T : Txt K mg g) : FnZ P w K mg base 1 g.f_BadText_init g.d_BadText_init ["self", "line"] (sp_BadText_init K g) :=
  (raw_BadText_init T).imp fun vs H Q E ⟨a, v, e, ha, k⟩ => by
    subst e
    exact ⟨rfl, a, g.c_BadText, rfl, T.o_BadText, T.a_BadText_line, .inl ⟨ha, k⟩⟩
def sp_BadCommand_init (K : PySem.W.Frag) (g : Ads) : Sp := sp_x1 g.c_BadCommand "command"
theorem sc_BadCommand_init : FnScope ["self", "command"] ["self", "command"] (defScope s_BadCommand_init) := ⟨rfl, rfl, rfl, by decide +kernel, rfl, by decide +kernel, by decide +kernel⟩
def R_BadCommand_init (K : PySem.W.Frag) (g : Ads) (E : XK) : TS :=
  (tOstB K "command" (zVar 0) (zVar 1))
def rw_BadCommand_init (K : PySem.W.Frag) (g : Ads) : Sp := fun vs H Q E => vs.length = 2 ∧ R_BadCommand_init K g E { nx := fun _ H' => Q .non H', rt := Q } (start ["self", "command"] vs) H
theorem raw_BadCommand_init {P : Program} {w : World} {K : PySem.W.Frag} {mg : Str → Option Value} {base : Heap} {g : Ads} (T : Txt K mg g) : FnG true P w K mg base 1 g.f_BadCommand_init g.d_BadCommand_init ["self", "command"] (rw_BadCommand_init K g) := by
  refine okZ T.f_BadCommand_init sc_BadCommand_init (fun vs H Q E h => h.1) (fun cdv A outer s H vs Q E hr hgu h => ⟨R_BadCommand_init K g E, ?_, h.2⟩)
  exact (pss_one (ps_ostB (zv 0) (zv 1)))
theorem ok_BadCommand_init {P : Program} {w : World} {K : PySem.W.Frag} {mg : Str → Option Value} {base : Heap} {g : Ads} (T : Txt K mg g) : FnZ P w K mg base 1 g.f_BadCommand_init g.d_BadCommand_init ["self", "command"] (sp_BadCommand_init K g) :=
  (raw_BadCommand_init T).imp fun vs H Q E ⟨a, v, e, ha, k⟩ => by
    subst e
    exact ⟨rfl, a, g.c_BadCommand, rfl, T.o_BadCommand, T.a_BadCommand_command, .inl ⟨ha, k⟩⟩
def sp_Twice_init (K : PySem.W.Frag) (g : Ads) : Sp := sp_x1 g.c_Twice "name"
theorem sc_Twice_init : FnScope ["self", "name"] ["self", "name"] (defScope s_Twice_init) := ⟨rfl, rfl, rfl, by decide +kernel, rfl, by decide +kernel, by decide +kernel⟩
def R_Twice_init (K : PySem.W.Frag) (g : Ads) (E : XK) : TS :=
  (tOstB K "name" (zVar 0) (zVar 1))
def rw_Twice_init (K : PySem.W.Frag) (g : Ads) : Sp := fun vs H Q E => vs.length = 2 ∧ R_Twice_init K g E { nx := fun _ H' => Q .non H', rt := Q } (start ["self", "name"] vs) H
theorem raw_Twice_init {P : Program} {w : World} {K : PySem.W.Frag} {mg : Str → Option Value} {base : Heap} {g : Ads} (T : Txt K mg g) : FnG true P w K mg base 1 g.f_Twice_init g.d_Twice_init ["self", "name"] (rw_Twice_init K g) := by
  refine okZ T.f_Twice_init sc_Twice_init (fun vs H Q E h => h.1) (fun cdv A outer s H vs Q E hr hgu h => ⟨R_Twice_init K g E, ?_, h.2⟩)
  exact (pss_one (ps_ostB (zv 0) (zv 1)))
theorem ok_Twice_init {P : Program} {w : World} {K : PySem.W.Frag} {mg : Str → Option Value} {base : Heap} {g : Ads} (T : Txt K mg g) : FnZ P w K mg base 1 g.f_Twice_init g.d_Twice_init ["self", "name"] (sp_Twice_init K g) :=
  (raw_Twice_init T).imp fun vs H Q E ⟨a, v, e, ha, k⟩ => by
    subst e
    exact ⟨rfl, a, g.c_Twice, rfl, T.o_Twice, T.a_Twice_name, .inl ⟨ha, k⟩⟩
def sp_Taken_init (K : PySem.W.Frag) (g : Ads) : Sp := sp_x1 g.c_Taken "name"
theorem sc_Taken_init : FnScope ["self", "name"] ["self", "name"] (defScope s_Taken_init) := ⟨rfl, rfl, rfl, by decide +kernel, rfl, by decide +kernel, by decide +kernel⟩
def R_Taken_init (K : PySem.W.Frag) (g : Ads) (E : XK) : TS :=
  (tOstB K "name" (zVar 0) (zVar 1))
def rw_Taken_init (K : PySem.W.Frag) (g : Ads) : Sp := fun vs H Q E => vs.length = 2 ∧ R_Taken_init K g E { nx := fun _ H' => Q .non H', rt := Q } (start ["self", "name"] vs) H
theorem raw_Taken_init {P : Program} {w : World} {K : PySem.W.Frag} {mg : Str → Option Value} {base : Heap} {g : Ads} (T : Txt K mg g) : FnG true P w K mg base 1 g.f_Taken_init g.d_Taken_init ["self", "name"] (rw_Taken_init K g) := by
  refine okZ T.f_Taken_init sc_Taken_init (fun vs H Q E h => h.1) (fun cdv A outer s H vs Q E hr hgu h => ⟨R_Taken_init K g E, ?_, h.2⟩)
  exact (pss_one (ps_ostB (zv 0) (zv 1)))
theorem ok_Taken_init {P : Program} {w : World} {K : PySem.W.Frag} {mg : Str → Option Value} {base : Heap} {g : Ads} (T : Txt K mg g) : FnZ P w K mg base 1 g.f_Taken_init g.d_Taken_init ["self", "name"] (sp_Taken_init K g) :=
  (raw_Taken_init T).imp fun vs H Q E ⟨a, v, e, ha, k⟩ => by
    subst e
    exact ⟨rfl, a, g.c_Taken, rfl, T.o_Taken, T.a_Taken_name, .inl ⟨ha, k⟩⟩
def sp_Unlike_init (K : PySem.W.Frag) (g : Ads) : Sp := sp_x1 g.c_Unlike "name"
theorem sc_Unlike_init : FnScope ["self", "name"] ["self", "name"] (defScope s_Unlike_init) := ⟨rfl, rfl, rfl, by decide +kernel, rfl, by decide +kernel, by decide +kernel⟩
def R_Unlike_init (K : PySem.W.Frag) (g : Ads) (E : XK) : TS :=
  (tOstB K "name" (zVar 0) (zVar 1))
def rw_Unlike_init (K : PySem.W.Frag) (g : Ads) : Sp := fun vs H Q E => vs.length = 2 ∧ R_Unlike_init K g E { nx := fun _ H' => Q .non H', rt := Q } (start ["self", "name"] vs) H
theorem raw_Unlike_init {P : Program} {w : World} {K : PySem.W.Frag} {mg : Str → Option Value} {base : Heap} {g : Ads} (T : Txt K mg g) : FnG true P w K mg base 1 g.f_Unlike_init g.d_Unlike_init ["self", "name"] (rw_Unlike_init K g) := by
  refine okZ T.f_Unlike_init sc_Unlike_init (fun vs H Q E h => h.1) (fun cdv A outer s H vs Q E hr hgu h => ⟨R_Unlike_init K g E, ?_, h.2⟩)
  exact (pss_one (ps_ostB (zv 0) (zv 1)))
theorem ok_Unlike_init {P : Program} {w : World} {K : PySem.W.Frag} {mg : Str → Option Value} {base : Heap} {g : Ads} (T : Txt K mg g) : FnZ P w K mg base 1 g.f_Unlike_init g.d_Unlike_init ["self", "name"] (sp_Unlike_init K g) :=
  (raw_Unlike_init T).imp fun vs H Q E ⟨a, v, e, ha, k⟩ => by
    subst e
    exact ⟨rfl, a, g.c_Unlike, rfl, T.o_Unlike, T.a_Unlike_name, .inl ⟨ha, k⟩⟩
def sp_NoHandler_init (K : PySem.W.Frag) (g : Ads) : Sp := sp_x1 g.c_NoHandler "name"
theorem sc_NoHandler_init : FnScope ["self", "name"] ["self", "name"] (defScope s_NoHandler_init) := ⟨rfl, rfl, rfl, by decide +kernel, rfl, by decide +kernel, by decide +kernel⟩
def R_NoHandler_init (K : PySem.W.Frag) (g : Ads) (E : XK) : TS :=
  (tOstB K "name" (zVar 0) (zVar 1))
def rw_NoHandler_init (K : PySem.W.Frag) (g : Ads) : Sp := fun vs H Q E => vs.length = 2 ∧ R_NoHandler_init K g E { nx := fun _ H' => Q .non H', rt := Q } (start ["self", "name"] vs) H
theorem raw_NoHandler_init {P : Program} {w : World} {K : PySem.W.Frag} {mg : Str → Option Value} {base : Heap} {g : Ads} (T : Txt K mg g) : FnG true P w K mg base 1 g.f_NoHandler_init g.d_NoHandler_init ["self", "name"] (rw_NoHandler_init K g) := by
  refine okZ T.f_NoHandler_init sc_NoHandler_init (fun vs H Q E h => h.1) (fun cdv A outer s H vs Q E hr hgu h => ⟨R_NoHandler_init K g E, ?_, h.2⟩)
  exact (pss_one (ps_ostB (zv 0) (zv 1)))
theorem ok_NoHandler_init {P : Program} {w : World} {K : PySem.W.Frag} {mg : Str → Option Value} {base : Heap} {g : Ads} (T : Txt K mg g) : FnZ P w K mg base 1 g.f_NoHandler_init g.d_NoHandler_init ["self", "name"] (sp_NoHandler_init K g) :=
  (raw_NoHandler_init T).imp fun vs H Q E ⟨a, v, e, ha, k⟩ => by
    subst e
    exact ⟨rfl, a, g.c_NoHandler, rfl, T.o_NoHandler, T.a_NoHandler_name, .inl ⟨ha, k⟩⟩
def sp_NoPlace_init (K : PySem.W.Frag) (g : Ads) : Sp := sp_x1 g.c_NoPlace "name"
theorem sc_NoPlace_init : FnScope ["self", "name"] ["self", "name"] (defScope s_NoPlace_init) := ⟨rfl, rfl, rfl, by decide +kernel, rfl, by decide +kernel, by decide +kernel⟩
def R_NoPlace_init (K : PySem.W.Frag) (g : Ads) (E : XK) : TS :=
  (tOstB K "name" (zVar 0) (zVar 1))
def rw_NoPlace_init (K : PySem.W.Frag) (g : Ads) : Sp := fun vs H Q E => vs.length = 2 ∧ R_NoPlace_init K g E { nx := fun _ H' => Q .non H', rt := Q } (start ["self", "name"] vs) H
theorem raw_NoPlace_init {P : Program} {w : World} {K : PySem.W.Frag} {mg : Str → Option Value} {base : Heap} {g : Ads} (T : Txt K mg g) : FnG true P w K mg base 1 g.f_NoPlace_init g.d_NoPlace_init ["self", "name"] (rw_NoPlace_init K g) := by
  refine okZ T.f_NoPlace_init sc_NoPlace_init (fun vs H Q E h => h.1) (fun cdv A outer s H vs Q E hr hgu h => ⟨R_NoPlace_init K g E, ?_, h.2⟩)
  exact (pss_one (ps_ostB (zv 0) (zv 1)))
theorem ok_NoPlace_init {P : Program} {w : World} {K : PySem.W.Frag} {mg : Str → Option Value} {base : Heap} {g : Ads} (T : Txt K mg g) : FnZ P w K mg base 1 g.f_NoPlace_init g.d_NoPlace_init ["self", "name"] (sp_NoPlace_init K g) :=
  (raw_NoPlace_init T).imp fun vs H Q E ⟨a, v, e, ha, k⟩ => by
    subst e
    exact ⟨rfl, a, g.c_NoPlace, rfl, T.o_NoPlace, T.a_NoPlace_name, .inl ⟨ha, k⟩⟩
def sp_NotTyped_init (K : PySem.W.Frag) (g : Ads) : Sp := sp_x1 g.c_NotTyped "name"
theorem sc_NotTyped_init : FnScope ["self", "name"] ["self", "name"] (defScope s_NotTyped_init) := ⟨rfl, rfl, rfl, by decide +kernel, rfl, by decide +kernel, by decide +kernel⟩
def R_NotTyped_init (K : PySem.W.Frag) (g : Ads) (E : XK) : TS :=
  (tOstB K "name" (zVar 0) (zVar 1))
def rw_NotTyped_init (K : PySem.W.Frag) (g : Ads) : Sp := fun vs H Q E => vs.length = 2 ∧ R_NotTyped_init K g E { nx := fun _ H' => Q .non H', rt := Q } (start ["self", "name"] vs) H
theorem raw_NotTyped_init {P : Program} {w : World} {K : PySem.W.Frag} {mg : Str → Option Value} {base : Heap} {g : Ads} (T : Txt K mg g) : FnG true P w K mg base 1 g.f_NotTyped_init g.d_NotTyped_init ["self", "name"] (rw_NotTyped_init K g) := by
  refine okZ T.f_NotTyped_init sc_NotTyped_init (fun vs H Q E h => h.1) (fun cdv A outer s H vs Q E hr hgu h => ⟨R_NotTyped_init K g E, ?_, h.2⟩)
  exact (pss_one (ps_ostB (zv 0) (zv 1)))
theorem ok_NotTyped_init {P : Program} {w : World} {K : PySem.W.Frag} {mg : Str → Option Value} {base : Heap} {g : Ads} (T : Txt K mg g) : FnZ P w K mg base 1 g.f_NotTyped_init g.d_NotTyped_init ["self", "name"] (sp_NotTyped_init K g) :=
  (raw_NotTyped_init T).imp fun vs H Q E ⟨a, v, e, ha, k⟩ => by
    subst e
    exact ⟨rfl, a, g.c_NotTyped, rfl, T.o_NotTyped, T.a_NotTyped_name, .inl ⟨ha, k⟩⟩
def sp_Shut_init (K : PySem.W.Frag) (g : Ads) : Sp := sp_x1 g.c_Shut "name"
theorem sc_Shut_init : FnScope ["self", "name"] ["self", "name"] (defScope s_Shut_init) := ⟨rfl, rfl, rfl, by decide +kernel, rfl, by decide +kernel, by decide +kernel⟩
def R_Shut_init (K : PySem.W.Frag) (g : Ads) (E : XK) : TS :=
  (tOstB K "name" (zVar 0) (zVar 1))
def rw_Shut_init (K : PySem.W.Frag) (g : Ads) : Sp := fun vs H Q E => vs.length = 2 ∧ R_Shut_init K g E { nx := fun _ H' => Q .non H', rt := Q } (start ["self", "name"] vs) H
theorem raw_Shut_init {P : Program} {w : World} {K : PySem.W.Frag} {mg : Str → Option Value} {base : Heap} {g : Ads} (T : Txt K mg g) : FnG true P w K mg base 1 g.f_Shut_init g.d_Shut_init ["self", "name"] (rw_Shut_init K g) := by
  refine okZ T.f_Shut_init sc_Shut_init (fun vs H Q E h => h.1) (fun cdv A outer s H vs Q E hr hgu h => ⟨R_Shut_init K g E, ?_, h.2⟩)
  exact (pss_one (ps_ostB (zv 0) (zv 1)))
theorem ok_Shut_init {P : Program} {w : World} {K : PySem.W.Frag} {mg : Str → Option Value} {base : Heap} {g : Ads} (T : Txt K mg g) : FnZ P w K mg base 1 g.f_Shut_init g.d_Shut_init ["self", "name"] (sp_Shut_init K g) :=
  (raw_Shut_init T).imp fun vs H Q E ⟨a, v, e, ha, k⟩ => by
    subst e
    exact ⟨rfl, a, g.c_Shut, rfl, T.o_Shut, T.a_Shut_name, .inl ⟨ha, k⟩⟩
def sp_TooMany_init (K : PySem.W.Frag) (g : Ads) : Sp := sp_x1 g.c_TooMany "limit"
theorem sc_TooMany_init : FnScope ["self", "limit"] ["self", "limit"] (defScope s_TooMany_init) := ⟨rfl, rfl, rfl, by decide +kernel, rfl, by decide +kernel, by decide +kernel⟩
def R_TooMany_init (K : PySem.W.Frag) (g : Ads) (E : XK) : TS :=
  (tOstB K "limit" (zVar 0) (zVar 1))
def rw_TooMany_init (K : PySem.W.Frag) (g : Ads) : Sp := fun vs H Q E => vs.length = 2 ∧ R_TooMany_init K g E { nx := fun _ H' => Q .non H', rt := Q } (start ["self", "limit"] vs) H
theorem raw_TooMany_init {P : Program} {w : World} {K : PySem.W.Frag} {mg : Str → Option Value} {base : Heap} {g : Ads} (T : Txt K mg g) : FnG true P w K mg base 1 g.f_TooMany_init g.d_TooMany_init ["self", "limit"] (rw_TooMany_init K g) := by
  refine okZ T.f_TooMany_init sc_TooMany_init (fun vs H Q E h => h.1) (fun cdv A outer s H vs Q E hr hgu h => ⟨R_TooMany_init K g E, ?_, h.2⟩)
  exact (pss_one (ps_ostB (zv 0) (zv 1)))
theorem ok_TooMany_init {P : Program} {w : World} {K : PySem.W.Frag} {mg : Str → Option Value} {base : Heap} {g : Ads} (T : Txt K mg g) : FnZ P w K mg base 1 g.f_TooMany_init g.d_TooMany_init ["self", "limit"] (sp_TooMany_init K g) :=
  (raw_TooMany_init T).imp fun vs H Q E ⟨a, v, e, ha, k⟩ => by
    subst e
    exact ⟨rfl, a, g.c_TooMany, rfl, T.o_TooMany, T.a_TooMany_limit, .inl ⟨ha, k⟩⟩
/-! ### errors with more fields -/
def sp_xn (C : Addr) (n : Nat) (fs : List V → List (Str × V)) : Sp := fun vs H Q E => ∃ a ws, vs = .ref a :: ws ∧ ws.length = n ∧ H a = some (exo a C none) ∧
  ∀ dx H', H dx = none → dx ≠ a → H' a = some (exo a C (some dx)) → H' dx = some (exd dx (fs ws)) → (∀ b, b ≠ a → b ≠ dx → H' b = H b) → Q .non H'
def sp_Misplaced_init (K : PySem.W.Frag) (g : Ads) : Sp := sp_xn g.c_Misplaced 3 fun ws => [("name", ws.getD 2 .non), ("number", ws.getD 1 .non), ("handler", ws.getD 0 .non)]
def sp_Refused_init (K : PySem.W.Frag) (g : Ads) : Sp := sp_xn g.c_Refused 2 fun ws => [("number", ws.getD 1 .non), ("target", ws.getD 0 .non)]
theorem sc_Misplaced_init : FnScope ["self", "handler", "number", "name"] ["self", "handler", "number", "name"] (defScope s_Misplaced_init) := ⟨rfl, rfl, rfl, by decide +kernel, rfl, by decide +kernel, by decide +kernel⟩
def R_Misplaced_init_2 (K : PySem.W.Frag) (g : Ads) (E : XK) : TS :=
  (tSeq (tOstB K "number" (zVar 0) (zVar 2))
  (tOstB K "name" (zVar 0) (zVar 3)))
def R_Misplaced_init (K : PySem.W.Frag) (g : Ads) (E : XK) : TS :=
  (tSeq (tOstB K "handler" (zVar 0) (zVar 1))
  (R_Misplaced_init_2 K g E))
def rw_Misplaced_init (K : PySem.W.Frag) (g : Ads) : Sp := fun vs H Q E => vs.length = 4 ∧ R_Misplaced_init K g E { nx := fun _ H' => Q .non H', rt := Q } (start ["self", "handler", "number", "name"] vs) H
theorem raw_Misplaced_init {P : Program} {w : World} {K : PySem.W.Frag} {mg : Str → Option Value} {base : Heap} {g : Ads} (T : Txt K mg g) : FnG true P w K mg base 1 g.f_Misplaced_init g.d_Misplaced_init ["self", "handler", "number", "name"] (rw_Misplaced_init K g) := by
  refine okZ T.f_Misplaced_init sc_Misplaced_init (fun vs H Q E h => h.1) (fun cdv A outer s H vs Q E hr hgu h => ⟨R_Misplaced_init K g E, ?_, h.2⟩)
  exact (pss_cons (ps_ostB (zv 0) (zv 1))
  (pss_cons (ps_ostB (zv 0) (zv 2))
  (pss_one (ps_ostB (zv 0) (zv 3)))))
theorem sc_Refused_init : FnScope ["self", "target", "number"] ["self", "target", "number"] (defScope s_Refused_init) := ⟨rfl, rfl, rfl, by decide +kernel, rfl, by decide +kernel, by decide +kernel⟩
def R_Refused_init (K : PySem.W.Frag) (g : Ads) (E : XK) : TS :=
  (tSeq (tOstB K "target" (zVar 0) (zVar 1))
  (tOstB K "number" (zVar 0) (zVar 2)))
def rw_Refused_init (K : PySem.W.Frag) (g : Ads) : Sp := fun vs H Q E => vs.length = 3 ∧ R_Refused_init K g E { nx := fun _ H' => Q .non H', rt := Q } (start ["self", "target", "number"] vs) H
theorem raw_Refused_init {P : Program} {w : World} {K : PySem.W.Frag} {mg : Str → Option Value} {base : Heap} {g : Ads} (T : Txt K mg g) : FnG true P w K mg base 1 g.f_Refused_init g.d_Refused_init ["self", "target", "number"] (rw_Refused_init K g) := by
  refine okZ T.f_Refused_init sc_Refused_init (fun vs H Q E h => h.1) (fun cdv A outer s H vs Q E hr hgu h => ⟨R_Refused_init K g E, ?_, h.2⟩)
  exact (pss_cons (ps_ostB (zv 0) (zv 1))
  (pss_one (ps_ostB (zv 0) (zv 2))))
theorem ok_Refused_init {P : Program} {w : World} {K : PySem.W.Frag} {mg : Str → Option Value} {base : Heap} {g : Ads} (T : Txt K mg g) : FnZ P w K mg base 1 g.f_Refused_init g.d_Refused_init ["self", "target", "number"] (sp_Refused_init K g) :=
  (raw_Refused_init T).imp fun vs H Q E ⟨a, ws, e, hl, ha, k⟩ => by
    match ws, hl with
    | [v1, v2], _ =>
      subst e
      refine ⟨rfl, a, g.c_Refused, rfl, T.o_Refused, T.a_Refused_target, .inl ⟨ha, fun dx hdx ne => ?_⟩⟩
      refine ⟨a, g.c_Refused, rfl, T.o_Refused, T.a_Refused_number, .inr ⟨dx, [("target", v1)], upd_same, by rw [upd_ne ne, upd_same], (show 1 ≤ 900 by decide), ?_⟩⟩
      refine k dx _ hdx ne ?_ upd_same fun b n1 n2 => ?_
      · rw [upd_ne ne.symm, upd_same]
      · rw [upd_ne n2, upd_ne n1, upd_ne n2]
theorem ok_Misplaced_init {P : Program} {w : World} {K : PySem.W.Frag} {mg : Str → Option Value} {base : Heap} {g : Ads} (T : Txt K mg g) : FnZ P w K mg base 1 g.f_Misplaced_init g.d_Misplaced_init ["self", "handler", "number", "name"] (sp_Misplaced_init K g) :=
  (raw_Misplaced_init T).imp fun vs H Q E ⟨a, ws, e, hl, ha, k⟩ => by
    match ws, hl with
    | [v1, v2, v3], _ =>
      subst e
      refine ⟨rfl, a, g.c_Misplaced, rfl, T.o_Misplaced, T.a_Misplaced_handler, .inl ⟨ha, fun dx hdx ne => ?_⟩⟩
      refine ⟨a, g.c_Misplaced, rfl, T.o_Misplaced, T.a_Misplaced_number, .inr ⟨dx, [("handler", v1)], upd_same, by rw [upd_ne ne, upd_same], (show 1 ≤ 900 by decide), ?_⟩⟩
      refine ⟨a, g.c_Misplaced, rfl, T.o_Misplaced, T.a_Misplaced_name, .inr ⟨dx, _, by rw [upd_ne ne.symm, upd_same], upd_same, (show 2 ≤ 900 by decide), ?_⟩⟩
      refine k dx _ hdx ne ?_ upd_same fun b n1 n2 => ?_
      · rw [upd_ne ne.symm, upd_ne ne.symm, upd_same]
      · rw [upd_ne n2, upd_ne n2, upd_ne n1, upd_ne n2]
/-! ### made as values -/
theorem made_same {H : Hp} {a dx : Addr} {o1 o2 o3 : HO} (ha : H a = none) (hd : H dx = none) : Same H (upd (upd (upd H a o1) dx o2) a o3) := by
  intro b o e
  have n1 := ne_of_none e ha
  have n2 := ne_of_none e hd
  rw [upd_ne n1, upd_ne n2, upd_ne n1]
  exact e
theorem made1 {C : Addr} {f : Str} {v : V} {H : Hp} {Q : VK} (k : ∀ a H', H a = none → Same H H' → ExO H' a C [(f, v)] → Q (.ref a) H') :
    [v].length ≤ 1000 ∧ ∀ a, H a = none → sp_x1 C f (.ref a :: [v]) (upd H a (exo a C none))
      (fun v' H2 => v' = .non ∧ ∃ (d : Addr) (fs : List (Str × V)), H2 a = some (exo a C (some d)) ∧ H2 d = some (exd d fs) ∧ H d = none ∧ Q (.ref a) H2) E0 := by
  refine ⟨by simp, fun a ha => ⟨a, v, rfl, upd_same, fun dx hdx ne => ?_⟩⟩
  rw [upd_ne ne] at hdx
  refine ⟨rfl, dx, [(f, v)], upd_same, by rw [upd_ne ne, upd_same], hdx, k a _ ha (made_same ha hdx) ⟨dx, upd_same, by rw [upd_ne ne, upd_same]⟩⟩
theorem maden {C : Addr} {n : Nat} {fs : List V → List (Str × V)} {ws : List V} {H : Hp} {Q : VK} (hl : ws.length = n) (hn : n ≤ 1000) (k : ∀ a H', H a = none → Same H H' → ExO H' a C (fs ws) → Q (.ref a) H') :
    ws.length ≤ 1000 ∧ ∀ a, H a = none → sp_xn C n fs (.ref a :: ws) (upd H a (exo a C none))
      (fun v' H2 => v' = .non ∧ ∃ (d : Addr) (fs : List (Str × V)), H2 a = some (exo a C (some d)) ∧ H2 d = some (exd d fs) ∧ H d = none ∧ Q (.ref a) H2) E0 := by
  refine ⟨by omega, fun a ha => ⟨a, ws, rfl, hl, upd_same, fun dx H' hdx ne e1 e2 hb => ?_⟩⟩
  rw [upd_ne ne] at hdx
  refine ⟨rfl, dx, _, e1, e2, hdx, k a _ ha ?_ ⟨dx, e1, e2⟩⟩
  intro b o e
  have n1 := ne_of_none e ha
  have n2 := ne_of_none e hdx
  rw [hb b n1 n2, upd_ne n1]
  exact e
def madeL (i : Nat) : List (Addr × Str) → TA
  | [] => tNil
  | c :: r => tCons (tXmk c.1 (sp_x1 c.1 c.2) (tCons (zVar i) tNil)) (madeL i r)
def madeKL (i : Nat) : List (Addr × Str) → TA
  | [] => tNil
  | c :: r => tCons (tXmkK c.1 (sp_x1 c.1 c.2) 1 (fun us ws => us ++ ws) (tCons (zVar i) tNil)) (madeKL i r)
theorem madeL_ok {i : Nat} {v : V} {σ : St} (hv : ∀ H (R : VK), R v H → zVar i σ H R) : ∀ {cs : List (Addr × Str)} {H : Hp} {Q : List V → Hp → Prop},
    (∀ as H', Same H H' → Paired (fun (a : Addr) (c : Addr × Str) => ExO H' a c.1 [(c.2, v)]) as cs → Q (as.map V.ref) H') → madeL i cs σ H Q
  | [], H, Q, k => k [] H (Same.refl H) .nil
  | c :: cs, H, Q, k => hv _ _ (made1 (Q := fun x H1 => madeL i cs σ H1 fun xs H2 => Q (x :: xs) H2) fun a H1 ha s1 x1 => madeL_ok hv fun as H' s2 p => k (a :: as) H' (s1.trans s2) (.cons (x1.same s2) p))
theorem madeKL_ok {i : Nat} {v : V} {σ : St} (hv : ∀ H (R : VK), R v H → zVar i σ H R) : ∀ {cs : List (Addr × Str)} {H : Hp} {Q : List V → Hp → Prop},
    (∀ as H', Same H H' → Paired (fun (a : Addr) (c : Addr × Str) => ExO H' a c.1 [(c.2, v)]) as cs → Q (as.map V.ref) H') → madeKL i cs σ H Q
  | [], H, Q, k => k [] H (Same.refl H) .nil
  | c :: cs, H, Q, k => hv _ _ ⟨rfl, (made1 (Q := fun x H1 => madeKL i cs σ H1 fun xs H2 => Q (x :: xs) H2) fun a H1 ha s1 x1 => madeKL_ok hv fun as H' s2 p => k (a :: as) H' (s1.trans s2) (.cons (x1.same s2) p)).2⟩
end Z
namespace Z
open PySem PySem.Spec PyProof.Rows L2
theorem sc_law_thing : FnScope ["deck", "odd"] ["deck"] (defScope s_law_thing) := ⟨rfl, rfl, rfl, by decide +kernel, rfl, by decide +kernel, by decide +kernel⟩
def R_law_thing_2 (K : PySem.W.Frag) (g : Ads) (E : XK) : TS :=
  (tRet (zCall (sp_law_of K g) [] (WE (fun cls d _ H => E cls d H)) (tCons (zVar 0) (tCons (tOp zAdd (tOp zAdd (zVar 1) (tLst (tCons (zCall (sp_law_number K g) [] (WE (fun cls d _ H => E cls d H)) (tCons (zVar 0) tNil)) tNil))) (zCall (sp_law_names K g) [] (WE (fun cls d _ H => E cls d H)) (tCons (zVar 0) (tCons (tC (.int 1)) tNil)))) tNil))))
def R_law_thing (K : PySem.W.Frag) (g : Ads) (E : XK) : TS :=
  (tSeq (tAsg (tLst (tCons (tC .non) (tCons (tC (.int 0)) (tCons (tC (.bl true)) (tCons (tC (.str "a")) (tCons (tC (.str "")) (tCons (tLst tNil) (tCons (tLst (tCons (tC (.int 1)) tNil)) (tCons (tTup tNil) (tCons (tTup (tCons (tC (.str "a")) (tCons (tC (.int 1)) tNil))) (tCons tDNewK (tCons (tDisp [((tC (.str "a")), (tC .non))]) (tCons (zNeg (tC (.int 1))) (tCons (tOp zPow (tC (.int 10)) (tC (.int 20))) tNil)))))))))))))) (gName 1))
  (R_law_thing_2 K g E))
def rw_law_thing (K : PySem.W.Frag) (g : Ads) : Sp := fun vs H Q E => vs.length = 1 ∧ R_law_thing K g E { nx := fun _ H' => Q .non H', rt := Q } (start ["deck", "odd"] vs) H
theorem raw_law_thing {P : Program} {w : World} {K : PySem.W.Frag} {mg : Str → Option Value} {base : Heap} {g : Ads} (T : Txt K mg g) : FnG true P w K mg base 4 g.f_law_thing g.d_law_thing ["deck"] (rw_law_thing K g) := by
  refine okZ T.f_law_thing sc_law_thing (fun vs H Q E h => h.1) (fun cdv A outer s H vs Q E hr hgu h => ⟨R_law_thing K g E, ?_, h.2⟩)
  exact (pss_cons (ps_set (i := 1) sc_law_thing.nd rfl (Or.inl rfl) (pe_lst (pa_cons pe_non (pa_cons pe_int (pa_cons pe_bl (pa_cons pe_str (pa_cons pe_str (pa_cons (pe_lst pa_nil) (pa_cons (pe_lst (pa_cons pe_int pa_nil)) (pa_cons (pe_tup pa_nil) (pa_cons (pe_tup (pa_cons pe_str (pa_cons pe_int pa_nil))) (pa_cons pe_dnewK (pa_cons (pe_disp (pps_cons pe_str pe_non pps_nil) (by rfl) (by rfl) (fun z => by cases z) (by decide)) (pa_cons (pez_neg pe_int) (pa_cons (pe_op op_zPow pe_int pe_int) pa_nil)))))))))))))))
  (pss_one (ps_ret (pe_callZ (ok_law_of T) (hr.mono (by decide)) hgu rfl T.g_law_of T.k_law_of T.e_law_of .nil (fun σ => passAt (takes_of rfl rfl rfl rfl) σ) (pa_cons (zv 0) (pa_cons (pe_op op_zAdd (pe_op op_zAdd (zv 1) (pe_lst (pa_cons (pe_callZ (ok_law_number T) (hr.mono (by decide)) hgu rfl T.g_law_number T.k_law_number T.e_law_number .nil (fun σ => passAt (takes_of rfl rfl rfl rfl) σ) (pa_cons (zv 0) pa_nil)) pa_nil))) (pe_callZ (ok_law_names T) (hr.mono (by decide)) hgu rfl T.g_law_names T.k_law_names T.e_law_names .nil (fun σ => passAt (takes_of rfl rfl rfl rfl) σ) (pa_cons (zv 0) (pa_cons pe_int pa_nil)))) pa_nil))))))
theorem sc_law_made : FnScope ["k", "one"] ["k", "one"] (defScope s_law_made) := ⟨rfl, rfl, rfl, by decide +kernel, rfl, by decide +kernel, by decide +kernel⟩
def R_law_made_2 (K : PySem.W.Frag) (g : Ads) (E : XK) : TS :=
  (tRet (tOp (zIx K) (tLst (tCons (tXmk g.c_BadName (sp_BadName_init K g) (tCons (zVar 1) tNil)) (tCons (tXmk g.c_BadValue (sp_BadValue_init K g) (tCons (zVar 1) tNil)) (tCons (tXmk g.c_BadTest (sp_BadTest_init K g) (tCons (zVar 1) tNil)) (tCons (tXmk g.c_BadStep (sp_BadStep_init K g) (tCons (zVar 1) tNil)) (tCons (tXmk g.c_BadFail (sp_BadFail_init K g) (tCons (zVar 1) tNil)) (tCons (tXmk g.c_BadPair (sp_BadPair_init K g) (tCons (zVar 1) tNil)) (tCons (tXmk g.c_BadKind (sp_BadKind_init K g) (tCons (zVar 1) tNil)) tNil)))))))) (zVar 0)))
def R_law_made_4 (K : PySem.W.Frag) (g : Ads) (E : XK) : TS :=
  (tRet (tOp (zIx K) (tLst (tCons (tXmk g.c_BadMend (sp_BadMend_init K g) (tCons (zVar 1) tNil)) (tCons (tXmk g.c_BadText (sp_BadText_init K g) (tCons (zVar 1) tNil)) (tCons (tXmk g.c_BadCommand (sp_BadCommand_init K g) (tCons (zVar 1) tNil)) (tCons (tXmk g.c_Twice (sp_Twice_init K g) (tCons (zVar 1) tNil)) (tCons (tXmk g.c_Taken (sp_Taken_init K g) (tCons (zVar 1) tNil)) (tCons (tXmk g.c_Unlike (sp_Unlike_init K g) (tCons (zVar 1) tNil)) tNil))))))) (tOp zSub (zVar 0) (tC (.int 7)))))
def R_law_made_5 (K : PySem.W.Frag) (g : Ads) (E : XK) : TS :=
  (tRet (tOp (zIx K) (tLst (tCons (tXmk g.c_NoHandler (sp_NoHandler_init K g) (tCons (zVar 1) tNil)) (tCons (tXmk g.c_NoPlace (sp_NoPlace_init K g) (tCons (zVar 1) tNil)) (tCons (tXmk g.c_NotTyped (sp_NotTyped_init K g) (tCons (zVar 1) tNil)) (tCons (tXmk g.c_Shut (sp_Shut_init K g) (tCons (zVar 1) tNil)) (tCons (tXmk g.c_TooMany (sp_TooMany_init K g) (tCons (zVar 1) tNil)) tNil)))))) (tOp zSub (zVar 0) (tC (.int 13)))))
def R_law_made_3 (K : PySem.W.Frag) (g : Ads) (E : XK) : TS :=
  (tSeq (tIfS (zTest (tOp zLt (zVar 0) (tC (.int 13))))
  (R_law_made_4 K g E)
  tNext)
  (R_law_made_5 K g E))
def R_law_made (K : PySem.W.Frag) (g : Ads) (E : XK) : TS :=
  (tSeq (tIfS (zTest (tOp zLt (zVar 0) (tC (.int 7))))
  (R_law_made_2 K g E)
  tNext)
  (R_law_made_3 K g E))
def rw_law_made (K : PySem.W.Frag) (g : Ads) : Sp := fun vs H Q E => vs.length = 2 ∧ R_law_made K g E { nx := fun _ H' => Q .non H', rt := Q } (start ["k", "one"] vs) H
theorem raw_law_made {P : Program} {w : World} {K : PySem.W.Frag} {mg : Str → Option Value} {base : Heap} {g : Ads} (T : Txt K mg g) : FnG true P w K mg base 3 g.f_law_made g.d_law_made ["k", "one"] (rw_law_made K g) := by
  refine okZ T.f_law_made sc_law_made (fun vs H Q E h => h.1) (fun cdv A outer s H vs Q E hr hgu h => ⟨R_law_made K g E, ?_, h.2⟩)
  exact (pss_cons (ps_if (ptz_cmp op_zLt (zv 0) pe_int (nomark _))
  (pss_one (ps_ret (pe_ix ix_z (pe_lst (pa_cons (pe_xmk T.o_BadName T.i_BadName T.t_BadName (ok_BadName_init T) (hr.mono (by decide)) hgu T.e_BadName_init rfl T.g_BadName (pa_cons (zv 1) pa_nil)) (pa_cons (pe_xmk T.o_BadValue T.i_BadValue T.t_BadValue (ok_BadValue_init T) (hr.mono (by decide)) hgu T.e_BadValue_init rfl T.g_BadValue (pa_cons (zv 1) pa_nil)) (pa_cons (pe_xmk T.o_BadTest T.i_BadTest T.t_BadTest (ok_BadTest_init T) (hr.mono (by decide)) hgu T.e_BadTest_init rfl T.g_BadTest (pa_cons (zv 1) pa_nil)) (pa_cons (pe_xmk T.o_BadStep T.i_BadStep T.t_BadStep (ok_BadStep_init T) (hr.mono (by decide)) hgu T.e_BadStep_init rfl T.g_BadStep (pa_cons (zv 1) pa_nil)) (pa_cons (pe_xmk T.o_BadFail T.i_BadFail T.t_BadFail (ok_BadFail_init T) (hr.mono (by decide)) hgu T.e_BadFail_init rfl T.g_BadFail (pa_cons (zv 1) pa_nil)) (pa_cons (pe_xmk T.o_BadPair T.i_BadPair T.t_BadPair (ok_BadPair_init T) (hr.mono (by decide)) hgu T.e_BadPair_init rfl T.g_BadPair (pa_cons (zv 1) pa_nil)) (pa_cons (pe_xmk T.o_BadKind T.i_BadKind T.t_BadKind (ok_BadKind_init T) (hr.mono (by decide)) hgu T.e_BadKind_init rfl T.g_BadKind (pa_cons (zv 1) pa_nil)) pa_nil)))))))) (zv 0) (fun _ _ => rfl))))
  pss_nil)
  (pss_cons (ps_if (ptz_cmp op_zLt (zv 0) pe_int (nomark _))
  (pss_one (ps_ret (pe_ix ix_z (pe_lst (pa_cons (pe_xmk T.o_BadMend T.i_BadMend T.t_BadMend (ok_BadMend_init T) (hr.mono (by decide)) hgu T.e_BadMend_init rfl T.g_BadMend (pa_cons (zv 1) pa_nil)) (pa_cons (pe_xmk T.o_BadText T.i_BadText T.t_BadText (ok_BadText_init T) (hr.mono (by decide)) hgu T.e_BadText_init rfl T.g_BadText (pa_cons (zv 1) pa_nil)) (pa_cons (pe_xmk T.o_BadCommand T.i_BadCommand T.t_BadCommand (ok_BadCommand_init T) (hr.mono (by decide)) hgu T.e_BadCommand_init rfl T.g_BadCommand (pa_cons (zv 1) pa_nil)) (pa_cons (pe_xmk T.o_Twice T.i_Twice T.t_Twice (ok_Twice_init T) (hr.mono (by decide)) hgu T.e_Twice_init rfl T.g_Twice (pa_cons (zv 1) pa_nil)) (pa_cons (pe_xmk T.o_Taken T.i_Taken T.t_Taken (ok_Taken_init T) (hr.mono (by decide)) hgu T.e_Taken_init rfl T.g_Taken (pa_cons (zv 1) pa_nil)) (pa_cons (pe_xmk T.o_Unlike T.i_Unlike T.t_Unlike (ok_Unlike_init T) (hr.mono (by decide)) hgu T.e_Unlike_init rfl T.g_Unlike (pa_cons (zv 1) pa_nil)) pa_nil))))))) (pe_op op_zSub (zv 0) pe_int) (fun _ _ => rfl))))
  pss_nil)
  (pss_one (ps_ret (pe_ix ix_z (pe_lst (pa_cons (pe_xmk T.o_NoHandler T.i_NoHandler T.t_NoHandler (ok_NoHandler_init T) (hr.mono (by decide)) hgu T.e_NoHandler_init rfl T.g_NoHandler (pa_cons (zv 1) pa_nil)) (pa_cons (pe_xmk T.o_NoPlace T.i_NoPlace T.t_NoPlace (ok_NoPlace_init T) (hr.mono (by decide)) hgu T.e_NoPlace_init rfl T.g_NoPlace (pa_cons (zv 1) pa_nil)) (pa_cons (pe_xmk T.o_NotTyped T.i_NotTyped T.t_NotTyped (ok_NotTyped_init T) (hr.mono (by decide)) hgu T.e_NotTyped_init rfl T.g_NotTyped (pa_cons (zv 1) pa_nil)) (pa_cons (pe_xmk T.o_Shut T.i_Shut T.t_Shut (ok_Shut_init T) (hr.mono (by decide)) hgu T.e_Shut_init rfl T.g_Shut (pa_cons (zv 1) pa_nil)) (pa_cons (pe_xmk T.o_TooMany T.i_TooMany T.t_TooMany (ok_TooMany_init T) (hr.mono (by decide)) hgu T.e_TooMany_init rfl T.g_TooMany (pa_cons (zv 1) pa_nil)) pa_nil)))))) (pe_op op_zSub (zv 0) pe_int) (fun _ _ => rfl))))))
theorem sc_law_made_by_name : FnScope ["k", "one"] ["k", "one"] (defScope s_law_made_by_name) := ⟨rfl, rfl, rfl, by decide +kernel, rfl, by decide +kernel, by decide +kernel⟩
def R_law_made_by_name_2 (K : PySem.W.Frag) (g : Ads) (E : XK) : TS :=
  (tRet (tOp (zIx K) (tLst (tCons (tXmkK g.c_BadName (sp_BadName_init K g) 1 (fun us ws => us ++ (fun zs => zs) ws) (tCons (zVar 1) tNil)) (tCons (tXmkK g.c_BadValue (sp_BadValue_init K g) 1 (fun us ws => us ++ (fun zs => zs) ws) (tCons (zVar 1) tNil)) (tCons (tXmkK g.c_BadTest (sp_BadTest_init K g) 1 (fun us ws => us ++ (fun zs => zs) ws) (tCons (zVar 1) tNil)) (tCons (tXmkK g.c_BadStep (sp_BadStep_init K g) 1 (fun us ws => us ++ (fun zs => zs) ws) (tCons (zVar 1) tNil)) tNil))))) (zVar 0)))
def R_law_made_by_name_4 (K : PySem.W.Frag) (g : Ads) (E : XK) : TS :=
  (tRet (tOp (zIx K) (tLst (tCons (tXmkK g.c_BadFail (sp_BadFail_init K g) 1 (fun us ws => us ++ (fun zs => zs) ws) (tCons (zVar 1) tNil)) (tCons (tXmkK g.c_BadPair (sp_BadPair_init K g) 1 (fun us ws => us ++ (fun zs => zs) ws) (tCons (zVar 1) tNil)) (tCons (tXmkK g.c_BadKind (sp_BadKind_init K g) 1 (fun us ws => us ++ (fun zs => zs) ws) (tCons (zVar 1) tNil)) (tCons (tXmkK g.c_BadMend (sp_BadMend_init K g) 1 (fun us ws => us ++ (fun zs => zs) ws) (tCons (zVar 1) tNil)) tNil))))) (tOp zSub (zVar 0) (tC (.int 4)))))
def R_law_made_by_name_6 (K : PySem.W.Frag) (g : Ads) (E : XK) : TS :=
  (tRet (tOp (zIx K) (tLst (tCons (tXmkK g.c_BadText (sp_BadText_init K g) 1 (fun us ws => us ++ (fun zs => zs) ws) (tCons (zVar 1) tNil)) (tCons (tXmkK g.c_BadCommand (sp_BadCommand_init K g) 1 (fun us ws => us ++ (fun zs => zs) ws) (tCons (zVar 1) tNil)) (tCons (tXmkK g.c_Twice (sp_Twice_init K g) 1 (fun us ws => us ++ (fun zs => zs) ws) (tCons (zVar 1) tNil)) (tCons (tXmkK g.c_Taken (sp_Taken_init K g) 1 (fun us ws => us ++ (fun zs => zs) ws) (tCons (zVar 1) tNil)) (tCons (tXmkK g.c_Unlike (sp_Unlike_init K g) 1 (fun us ws => us ++ (fun zs => zs) ws) (tCons (zVar 1) tNil)) tNil)))))) (tOp zSub (zVar 0) (tC (.int 8)))))
def R_law_made_by_name_7 (K : PySem.W.Frag) (g : Ads) (E : XK) : TS :=
  (tRet (tOp (zIx K) (tLst (tCons (tXmkK g.c_NoHandler (sp_NoHandler_init K g) 1 (fun us ws => us ++ (fun zs => zs) ws) (tCons (zVar 1) tNil)) (tCons (tXmkK g.c_NoPlace (sp_NoPlace_init K g) 1 (fun us ws => us ++ (fun zs => zs) ws) (tCons (zVar 1) tNil)) (tCons (tXmkK g.c_NotTyped (sp_NotTyped_init K g) 1 (fun us ws => us ++ (fun zs => zs) ws) (tCons (zVar 1) tNil)) (tCons (tXmkK g.c_Shut (sp_Shut_init K g) 1 (fun us ws => us ++ (fun zs => zs) ws) (tCons (zVar 1) tNil)) (tCons (tXmkK g.c_TooMany (sp_TooMany_init K g) 1 (fun us ws => us ++ (fun zs => zs) ws) (tCons (zVar 1) tNil)) tNil)))))) (tOp zSub (zVar 0) (tC (.int 13)))))
def R_law_made_by_name_5 (K : PySem.W.Frag) (g : Ads) (E : XK) : TS :=
  (tSeq (tIfS (zTest (tOp zLt (zVar 0) (tC (.int 13))))
  (R_law_made_by_name_6 K g E)
  tNext)
  (R_law_made_by_name_7 K g E))
def R_law_made_by_name_3 (K : PySem.W.Frag) (g : Ads) (E : XK) : TS :=
  (tSeq (tIfS (zTest (tOp zLt (zVar 0) (tC (.int 8))))
  (R_law_made_by_name_4 K g E)
  tNext)
  (R_law_made_by_name_5 K g E))
def R_law_made_by_name (K : PySem.W.Frag) (g : Ads) (E : XK) : TS :=
  (tSeq (tIfS (zTest (tOp zLt (zVar 0) (tC (.int 4))))
  (R_law_made_by_name_2 K g E)
  tNext)
  (R_law_made_by_name_3 K g E))
def rw_law_made_by_name (K : PySem.W.Frag) (g : Ads) : Sp := fun vs H Q E => vs.length = 2 ∧ R_law_made_by_name K g E { nx := fun _ H' => Q .non H', rt := Q } (start ["k", "one"] vs) H
theorem raw_law_made_by_name {P : Program} {w : World} {K : PySem.W.Frag} {mg : Str → Option Value} {base : Heap} {g : Ads} (T : Txt K mg g) : FnG true P w K mg base 3 g.f_law_made_by_name g.d_law_made_by_name ["k", "one"] (rw_law_made_by_name K g) := by
  refine okZ T.f_law_made_by_name sc_law_made_by_name (fun vs H Q E h => h.1) (fun cdv A outer s H vs Q E hr hgu h => ⟨R_law_made_by_name K g E, ?_, h.2⟩)
  exact (pss_cons (ps_if (ptz_cmp op_zLt (zv 0) pe_int (nomark _))
  (pss_one (ps_ret (pe_ix ix_z (pe_lst (pa_cons (pe_xmkK (ks := ["name"]) (g := (fun ws => ws)) (gV := (fun zs => zs)) T.o_BadName T.i_BadName T.t_BadName (ok_BadName_init T) (hr.mono (by decide)) hgu T.kb_BadName_5 (fun r => r) rfl T.g_BadName (pk_cons (zv 1) pk_nil)) (pa_cons (pe_xmkK (ks := ["value"]) (g := (fun ws => ws)) (gV := (fun zs => zs)) T.o_BadValue T.i_BadValue T.t_BadValue (ok_BadValue_init T) (hr.mono (by decide)) hgu T.kb_BadValue_6 (fun r => r) rfl T.g_BadValue (pk_cons (zv 1) pk_nil)) (pa_cons (pe_xmkK (ks := ["test"]) (g := (fun ws => ws)) (gV := (fun zs => zs)) T.o_BadTest T.i_BadTest T.t_BadTest (ok_BadTest_init T) (hr.mono (by decide)) hgu T.kb_BadTest_7 (fun r => r) rfl T.g_BadTest (pk_cons (zv 1) pk_nil)) (pa_cons (pe_xmkK (ks := ["index"]) (g := (fun ws => ws)) (gV := (fun zs => zs)) T.o_BadStep T.i_BadStep T.t_BadStep (ok_BadStep_init T) (hr.mono (by decide)) hgu T.kb_BadStep_8 (fun r => r) rfl T.g_BadStep (pk_cons (zv 1) pk_nil)) pa_nil))))) (zv 0) (fun _ _ => rfl))))
  pss_nil)
  (pss_cons (ps_if (ptz_cmp op_zLt (zv 0) pe_int (nomark _))
  (pss_one (ps_ret (pe_ix ix_z (pe_lst (pa_cons (pe_xmkK (ks := ["index"]) (g := (fun ws => ws)) (gV := (fun zs => zs)) T.o_BadFail T.i_BadFail T.t_BadFail (ok_BadFail_init T) (hr.mono (by decide)) hgu T.kb_BadFail_9 (fun r => r) rfl T.g_BadFail (pk_cons (zv 1) pk_nil)) (pa_cons (pe_xmkK (ks := ["index"]) (g := (fun ws => ws)) (gV := (fun zs => zs)) T.o_BadPair T.i_BadPair T.t_BadPair (ok_BadPair_init T) (hr.mono (by decide)) hgu T.kb_BadPair_10 (fun r => r) rfl T.g_BadPair (pk_cons (zv 1) pk_nil)) (pa_cons (pe_xmkK (ks := ["kind"]) (g := (fun ws => ws)) (gV := (fun zs => zs)) T.o_BadKind T.i_BadKind T.t_BadKind (ok_BadKind_init T) (hr.mono (by decide)) hgu T.kb_BadKind_11 (fun r => r) rfl T.g_BadKind (pk_cons (zv 1) pk_nil)) (pa_cons (pe_xmkK (ks := ["index"]) (g := (fun ws => ws)) (gV := (fun zs => zs)) T.o_BadMend T.i_BadMend T.t_BadMend (ok_BadMend_init T) (hr.mono (by decide)) hgu T.kb_BadMend_12 (fun r => r) rfl T.g_BadMend (pk_cons (zv 1) pk_nil)) pa_nil))))) (pe_op op_zSub (zv 0) pe_int) (fun _ _ => rfl))))
  pss_nil)
  (pss_cons (ps_if (ptz_cmp op_zLt (zv 0) pe_int (nomark _))
  (pss_one (ps_ret (pe_ix ix_z (pe_lst (pa_cons (pe_xmkK (ks := ["line"]) (g := (fun ws => ws)) (gV := (fun zs => zs)) T.o_BadText T.i_BadText T.t_BadText (ok_BadText_init T) (hr.mono (by decide)) hgu T.kb_BadText_13 (fun r => r) rfl T.g_BadText (pk_cons (zv 1) pk_nil)) (pa_cons (pe_xmkK (ks := ["command"]) (g := (fun ws => ws)) (gV := (fun zs => zs)) T.o_BadCommand T.i_BadCommand T.t_BadCommand (ok_BadCommand_init T) (hr.mono (by decide)) hgu T.kb_BadCommand_14 (fun r => r) rfl T.g_BadCommand (pk_cons (zv 1) pk_nil)) (pa_cons (pe_xmkK (ks := ["name"]) (g := (fun ws => ws)) (gV := (fun zs => zs)) T.o_Twice T.i_Twice T.t_Twice (ok_Twice_init T) (hr.mono (by decide)) hgu T.kb_Twice_15 (fun r => r) rfl T.g_Twice (pk_cons (zv 1) pk_nil)) (pa_cons (pe_xmkK (ks := ["name"]) (g := (fun ws => ws)) (gV := (fun zs => zs)) T.o_Taken T.i_Taken T.t_Taken (ok_Taken_init T) (hr.mono (by decide)) hgu T.kb_Taken_16 (fun r => r) rfl T.g_Taken (pk_cons (zv 1) pk_nil)) (pa_cons (pe_xmkK (ks := ["name"]) (g := (fun ws => ws)) (gV := (fun zs => zs)) T.o_Unlike T.i_Unlike T.t_Unlike (ok_Unlike_init T) (hr.mono (by decide)) hgu T.kb_Unlike_17 (fun r => r) rfl T.g_Unlike (pk_cons (zv 1) pk_nil)) pa_nil)))))) (pe_op op_zSub (zv 0) pe_int) (fun _ _ => rfl))))
  pss_nil)
  (pss_one (ps_ret (pe_ix ix_z (pe_lst (pa_cons (pe_xmkK (ks := ["name"]) (g := (fun ws => ws)) (gV := (fun zs => zs)) T.o_NoHandler T.i_NoHandler T.t_NoHandler (ok_NoHandler_init T) (hr.mono (by decide)) hgu T.kb_NoHandler_0 (fun r => r) rfl T.g_NoHandler (pk_cons (zv 1) pk_nil)) (pa_cons (pe_xmkK (ks := ["name"]) (g := (fun ws => ws)) (gV := (fun zs => zs)) T.o_NoPlace T.i_NoPlace T.t_NoPlace (ok_NoPlace_init T) (hr.mono (by decide)) hgu T.kb_NoPlace_1 (fun r => r) rfl T.g_NoPlace (pk_cons (zv 1) pk_nil)) (pa_cons (pe_xmkK (ks := ["name"]) (g := (fun ws => ws)) (gV := (fun zs => zs)) T.o_NotTyped T.i_NotTyped T.t_NotTyped (ok_NotTyped_init T) (hr.mono (by decide)) hgu T.kb_NotTyped_2 (fun r => r) rfl T.g_NotTyped (pk_cons (zv 1) pk_nil)) (pa_cons (pe_xmkK (ks := ["name"]) (g := (fun ws => ws)) (gV := (fun zs => zs)) T.o_Shut T.i_Shut T.t_Shut (ok_Shut_init T) (hr.mono (by decide)) hgu T.kb_Shut_3 (fun r => r) rfl T.g_Shut (pk_cons (zv 1) pk_nil)) (pa_cons (pe_xmkK (ks := ["limit"]) (g := (fun ws => ws)) (gV := (fun zs => zs)) T.o_TooMany T.i_TooMany T.t_TooMany (ok_TooMany_init T) (hr.mono (by decide)) hgu T.kb_TooMany_4 (fun r => r) rfl T.g_TooMany (pk_cons (zv 1) pk_nil)) pa_nil)))))) (pe_op op_zSub (zv 0) pe_int) (fun _ _ => rfl)))))))
/-! ### the things -/
def hid (S : List Addr) (H : Hp) : Hp := fun b => if b ∈ S then none else H b
theorem hid_of {S : List Addr} {H : Hp} {b : Addr} {o : HO} (e : hid S H b = some o) : b ∉ S ∧ H b = some o := by
  unfold hid at e
  by_cases h : b ∈ S
  · rw [if_pos h] at e
    cases e
  · rw [if_neg h] at e
    exact ⟨h, e⟩
theorem hid_at {S : List Addr} {H : Hp} {b : Addr} {o : HO} (h : b ∉ S) (e : H b = some o) : hid S H b = some o := by
  unfold hid
  rw [if_neg h]
  exact e
theorem hid_same {S : List Addr} {H H' : Hp} (k : ∀ b o, H b = some o → b ∉ S → H' b = some o) : Same (hid S H) (hid S H') := fun b o e => hid_at (hid_of e).1 (k _ _ (hid_of e).2 (hid_of e).1)
theorem hid_sub {S : List Addr} {H : Hp} : Same (hid S H) H := fun b o e => (hid_of e).2
theorem hid_but {p : Addr} {H H' : Hp} (b : But p H H') : Same (hid [p] H) (hid [p] H') := hid_same fun c o e n => b c o e fun z => n (by rw [z]; simp)
/-- what is new since H -/
def nwr (H H' : Hp) : Hp := fun b => match H b with | none => H' b | some _ => none
theorem nwr_at {H H' : Hp} {a : Addr} {o : HO} (n : H a = none) (e : H' a = some o) : nwr H H' a = some o := by
  unfold nwr
  rw [n]
  exact e
theorem nwr_of {H H' : Hp} {a : Addr} {o : HO} (e : nwr H H' a = some o) : H a = none ∧ H' a = some o := by
  unfold nwr at e
  cases h : H a with
  | none =>
    rw [h] at e
    exact ⟨rfl, e⟩
  | some u =>
    rw [h] at e
    cases e
theorem nwr_hid {S : List Addr} {H H' : Hp} (h : ∀ s ∈ S, H s ≠ none) : Same (nwr H H') (hid S H') := fun b o e => hid_at (fun z => h _ z (nwr_of e).1) (nwr_of e).2
theorem Same.tup {K : PySem.W.Frag} {H H' : Hp} {a : Addr} {xs : List V} (s : Same H H') (h : SqT K H a xs) : SqT K H' a xs := by
  rcases h with (h | ⟨o, h⟩) | h
  · exact .inl (.inl (s _ _ h))
  · exact .inl (.inr ⟨o, s _ _ h⟩)
  · exact .inr h
mutual
theorem Dp_same {K : PySem.W.Frag} {H H' : Hp} (s : Same H H') : ∀ (d : PyData) (v : V), Dp K H v d → Dp K H' v d
  | .none, _, h => by cases h; exact .non
  | .bool b, _, h => by cases h; exact .bl _
  | .int i, _, h => by cases h; exact .int _
  | .str x, _, h => by cases h; exact .str _
  | .list ds, _, h => by
    cases h with
    | lst a b => exact .lst (s.seq a) (Dp_sames s ds _ b)
  | .tuple ds, _, h => by
    cases h with
    | tup a b => exact .tup (Z.Same.tup s a) (Dp_sames s ds _ b)
  | .dict _, _, h => by cases h
theorem Dp_sames {K : PySem.W.Frag} {H H' : Hp} (s : Same H H') : ∀ (ds : List PyData) (vs : List V), DpAll K H vs ds → DpAll K H' vs ds
  | [], _, h => by cases h; exact .nil
  | d :: ds, _, h => by
    cases h with
    | cons a b => exact .cons (Dp_same s d _ a) (Dp_sames s ds _ b)
end
theorem DpR.same {K : PySem.W.Frag} {H H' : Hp} {v : V} {d : PyData} (h : DpR K H v d) (s : Same H H') : DpR K H' v d := by
  rcases h with ⟨h, e⟩ | ⟨a, kvs, kds, e1, e2, e3, e4⟩
  · exact .inl ⟨Dp_same s _ _ h, e⟩
  · exact .inr ⟨a, kvs, kds, e1, s _ _ e2, e3, e4⟩
structure FitX (d : PyData) : Prop where
  sh : d.showable = true
  lv : d.leavesShort 22 = true
  wt : d.weight ≤ 400
  dp : d.depth ≤ 4
theorem FitX.le {d : PyData} (f : FitX d) : d.shown.length ≤ sizeLine := by
  have := PyData.shown_le 22 (by decide) d f.lv
  have : (22 + 2) * d.weight ≤ 24 * 400 := Nat.mul_le_mul (Nat.le_refl _) f.wt
  rw [sizeLine_eq]
  omega
/-- a thing that is drawn: its kind, what repr tells of it; a text is a name or empty -/
structure Thing (K : PySem.W.Frag) (H : Hp) (v : V) (d : PyData) : Prop where
  kn : Knd K H v
  dp : DpR K H v d
  fx : FitX d
  nm : ∀ z, v = .str z → nameB z = !decide (z = "")
theorem Thing.same {K : PySem.W.Frag} {H H' : Hp} {v : V} {d : PyData} (t : Thing K H v d) (s : Same H H') : Thing K H' v d := ⟨t.kn.same s, t.dp.same s, t.fx, t.nm⟩
/-- .. while what is in S changes -/
def ThS (K : PySem.W.Frag) (S : List Addr) (H : Hp) (v : V) (d : PyData) : Prop := Thing K (hid S H) v d
theorem ThS.to {K : PySem.W.Frag} {S : List Addr} {H H' : Hp} {v : V} {d : PyData} (t : ThS K S H v d) (k : ∀ b o, H b = some o → b ∉ S → H' b = some o) : ThS K S H' v d := Thing.same t (hid_same k)
theorem ThS.but {K : PySem.W.Frag} {p : Addr} {H H' : Hp} {v : V} {d : PyData} (t : ThS K [p] H v d) (b : But p H H') : ThS K [p] H' v d := Thing.same t (hid_but b)
theorem ThS.th {K : PySem.W.Frag} {S : List Addr} {H : Hp} {v : V} {d : PyData} (t : ThS K S H v d) : Thing K H v d := Thing.same t hid_sub
theorem Thing.hid {K : PySem.W.Frag} {S : List Addr} {H H' : Hp} {v : V} {d : PyData} (t : Thing K (nwr H H') v d) (h : ∀ s ∈ S, H s ≠ none) : ThS K S H' v d := Thing.same t (nwr_hid h)
theorem fit_int {i : Int} (h1 : -1000000000000000000000 < i) (h2 : i < 1000000000000000000000) : FitX (.int i) := by
  have la : i.natAbs < 10 ^ 21 := by omega
  have lg : i.natAbs.log2 < 70 := by
    by_cases h0 : i.natAbs = 0
    · rw [h0]
      decide
    · exact (Nat.log2_lt h0).mpr (show i.natAbs < 2 ^ 70 by omega)
  refine ⟨?_, ?_, ?_, by simp [PyData.depth]⟩
  · exact decide_eq_true (Nat.lt_trans lg (by decide))
  · refine decide_eq_true ?_
    have := int_text_length_le10 (a := i) (k := 21) (by decide) la
    show (Str.ofString (toString i)).length ≤ 22
    rw [PySem.ofString_length]
    omega
  · simp only [PyData.weight]
    split <;> omega
theorem th_int {K : PySem.W.Frag} {H : Hp} {i : Int} (h1 : -1000000000000000000000 < i) (h2 : i < 1000000000000000000000) : Thing K H (.int i) (.int i) :=
  ⟨trivial, .inl ⟨.int i, rfl⟩, fit_int h1 h2, fun z e => nomatch e⟩
theorem fit_str {z : Str} (h : z.length ≤ 60) (a : Asc z) : FitX (.str z) := by
  refine ⟨rfl, ?_, ?_, by simp [PyData.depth]⟩
  · simp only [PyData.leavesShort, List.all_eq_true, decide_eq_true_eq]
    exact fun c hc => Nat.lt_trans (a c hc) (by decide)
  · simp only [PyData.weight]
    exact Nat.le_trans (show _ ≤ 61 by have : z.cps.size = z.length := rfl; omega) (by decide)
theorem mem_abc {c : Nat} (h0 : 97 ≤ c) (h1 : c ≤ 122) : c ∈ ("abcdefghijklmnopqrstuvwxyz" : Str).cps.toList := by
  have e : ("abcdefghijklmnopqrstuvwxyz" : Str).cps.toList = List.range' 97 26 := by decide +kernel
  rw [e]
  simp only [List.mem_range'_1]
  omega
theorem lett_of {z : Str} (h : ∀ c ∈ z.cps.toList, 97 ≤ c ∧ c ≤ 122) : lettB z = true := by
  unfold lettB
  rw [List.all_eq_true]
  intro b hb
  obtain ⟨i, hi, rfl⟩ := List.mem_map.mp hb
  have hi2 : i < z.cps.size := by simpa using hi
  have hm : z.cps.getD i 0 ∈ z.cps.toList := by
    rw [Array.getD_eq_getD_getElem?, Array.getElem?_eq_getElem hi2]
    simp
  obtain ⟨a, b⟩ := h _ hm
  exact decide_eq_true (mem_abc a b)
/-- the names that are drawn -/
theorem nm_ok {ah : Bool} {stem : Str} {first : Int} (h : Stem stem) (h0 : 0 ≤ first) (h1 : first < 676) : nameB (nmOf ah stem first 0) = true ∧ (nmOf ah stem first 0).length ≤ 8 ∧ Asc (nmOf ah stem first 0) ∧ nmOf ah stem first 0 ≠ "" := by
  obtain ⟨l1, st⟩ := h
  obtain ⟨x, hx⟩ : ∃ x : Nat, 97 + ((first + 7 * ((0 : Nat) : Int)) % 676 / 26).toNat = x := ⟨_, rfl⟩
  obtain ⟨y, hy⟩ : ∃ y : Nat, 97 + ((first + 7 * ((0 : Nat) : Int)) % 676 % 26).toNat = y := ⟨_, rfl⟩
  have x1 : 97 ≤ x ∧ x ≤ 122 := by omega
  have y1 : 97 ≤ y ∧ y ≤ 122 := by omega
  have tw : (twoOf first 0).cps.toList = [x, y] := by
    unfold twoOf
    rw [hx, hy]
    rfl
  have ls : (nmOf ah stem first 0).cps.toList = if ah = true then [x, y] ++ stem.cps.toList else stem.cps.toList ++ [x, y] := by
    unfold nmOf
    split
    · rw [← tw]
      show ((twoOf first 0).cps ++ stem.cps).toList = _
      simp
    · rw [← tw]
      show (stem.cps ++ (twoOf first 0).cps).toList = _
      simp
  have l2 : stem.cps.toList.length = stem.length := rfl
  have st : ∀ c ∈ stem.cps.toList, c = 97 ∨ c = 122 ∨ c = 113 ∨ c = 109 := st
  generalize stem.cps.toList = L at ls l2 st
  have lt : ∀ c ∈ (nmOf ah stem first 0).cps.toList, 97 ≤ c ∧ c ≤ 122 := by
    intro c hc
    rw [ls] at hc
    have : c = x ∨ c = y ∨ c ∈ L := by
      by_cases e : ah = true
      · rw [if_pos e] at hc
        simpa using hc
      · rw [if_neg e] at hc
        have : c ∈ L ∨ c = x ∨ c = y := by simpa using hc
        rcases this with a | a | a
        · exact .inr (.inr a)
        · exact .inl a
        · exact .inr (.inl a)
    rcases this with e | e | e
    · omega
    · omega
    · have := st c e
      omega
  have ll : (nmOf ah stem first 0).length = 2 + stem.length := by
    have : (nmOf ah stem first 0).length = (nmOf ah stem first 0).cps.toList.length := rfl
    rw [this, ls, ← l2]
    split <;> simp <;> omega
  have nn : nmOf ah stem first 0 ≠ "none" := by
    intro e
    have e2 : ("none" : Str).cps.toList = [110, 111, 110, 101] := by decide +kernel
    rw [e, e2] at ls
    by_cases ea : ah = true
    · rw [if_pos ea] at ls
      have : L = [110, 101] := by
        simp at ls
        exact ls.2.2.symm
      have := st 110 (by rw [this]; simp)
      omega
    · rw [if_neg ea] at ls
      cases L with
      | nil => simp at ls
      | cons a r =>
        have : a = 110 := by
          simp at ls
          exact ls.1.symm
        have := st a (by simp)
        omega
  refine ⟨?_, by omega, fun c hc => by have := lt c hc; omega, fun e => ?_⟩
  · unfold nameB
    rw [lett_of lt, decide_eq_true (show (1 : Int) ≤ (nmOf ah stem first 0).length by omega), decide_eq_true (show ((nmOf ah stem first 0).length : Int) ≤ 8 by omega), decide_eq_false nn]
    rfl
  · have : (nmOf ah stem first 0).length = 0 := by
      rw [e]
      rfl
    omega
end Z
namespace Z
open PySem PySem.Spec PyProof.Rows L2
def sp_law_thing (K : PySem.W.Frag) (g : Ads) : Sp := fun vs H Q E => ∃ (p wa : Addr), vs = [.ref p] ∧ DeckAt H p wa ∧
  ∀ v d H', Thing K (nwr H H') v d → DeckAt H' p wa → But p H H' → Q v H'
theorem empty_name : nameB "" = false := by decide +kernel
theorem a_name : nameB "a" = true := by decide +kernel
theorem fit_dk : FitX (.dict []) ∧ FitX (.dict [(.str "a", .none)]) ∧ FitX (.list []) ∧ FitX (.list [.int 1]) ∧ FitX (.tuple []) ∧ FitX (.tuple [.str "a", .int 1]) ∧ FitX .none ∧ FitX (.bool true) ∧ FitX (.str "a") ∧ FitX (.str "") := by
  refine ⟨⟨?_, ?_, ?_, ?_⟩, ⟨?_, ?_, ?_, ?_⟩, ⟨?_, ?_, ?_, ?_⟩, ⟨?_, ?_, ?_, ?_⟩, ⟨?_, ?_, ?_, ?_⟩, ⟨?_, ?_, ?_, ?_⟩, ⟨?_, ?_, ?_, ?_⟩, ⟨?_, ?_, ?_, ?_⟩, ⟨?_, ?_, ?_, ?_⟩, ⟨?_, ?_, ?_, ?_⟩⟩ <;> decide +kernel
def oddL (l1 l2 t1 t2 d1 d2 : Addr) : List V := [.non, .int 0, .bl true, .str "a", .str "", .ref l1, .ref l2, .ref t1, .ref t2, .ref d1, .ref d2, .int (-1), .int (10 ^ (20 : Int).toNat)]
/-- the odd things, as they lie -/
structure OddAt (H0 H : Hp) (l1 l2 t1 t2 d1 d2 : Addr) : Prop where
  a1 : H l1 = some (.lst [])
  a2 : H l2 = some (.lst [.int 1])
  a3 : H t1 = some (.tup [])
  a4 : H t2 = some (.tup [.str "a", .int 1])
  a5 : H d1 = some (.dK [])
  a6 : H d2 = some (.dK [(.inr "a", .non)])
  n1 : H0 l1 = none
  n2 : H0 l2 = none
  n3 : H0 t1 = none
  n4 : H0 t2 = none
  n5 : H0 d1 = none
  n6 : H0 d2 = none
theorem OddAt.but {H0 H H' : Hp} {p l1 l2 t1 t2 d1 d2 : Addr} (o : OddAt H0 H l1 l2 t1 t2 d1 d2) (hp : H0 p ≠ none) (b : But p H H') : OddAt H0 H' l1 l2 t1 t2 d1 d2 := by
  have ne : ∀ {x : Addr}, H0 x = none → x ≠ p := fun h z => hp (z ▸ h)
  exact ⟨b _ _ o.a1 (ne o.n1), b _ _ o.a2 (ne o.n2), b _ _ o.a3 (ne o.n3), b _ _ o.a4 (ne o.n4), b _ _ o.a5 (ne o.n5), b _ _ o.a6 (ne o.n6), o.n1, o.n2, o.n3, o.n4, o.n5, o.n6⟩
theorem OddAt.things {K : PySem.W.Frag} {H0 H : Hp} {l1 l2 t1 t2 d1 d2 : Addr} (o : OddAt H0 H l1 l2 t1 t2 d1 d2) : ∀ v ∈ oddL l1 l2 t1 t2 d1 d2, ∃ d, Thing K (nwr H0 H) v d := by
  obtain ⟨w1, w2, w3, w4, w5, w6, w7, w8, w9, w10⟩ := fit_dk
  have b1 := nwr_at o.n1 o.a1
  have b2 := nwr_at o.n2 o.a2
  have b3 := nwr_at o.n3 o.a3
  have b4 := nwr_at o.n4 o.a4
  have b5 := nwr_at o.n5 o.a5
  have b6 := nwr_at o.n6 o.a6
  have ten : (10 : Int) ^ (20 : Int).toNat = 100000000000000000000 := by decide
  intro v hv
  simp only [oddL, List.mem_cons, List.not_mem_nil, or_false] at hv
  rcases hv with rfl | rfl | rfl | rfl | rfl | rfl | rfl | rfl | rfl | rfl | rfl | rfl | rfl
  · exact ⟨.none, trivial, .inl ⟨.non, rfl⟩, w7, fun z e => nomatch e⟩
  · exact ⟨_, th_int (by decide) (by decide)⟩
  · exact ⟨.bool true, trivial, .inl ⟨.bl _, rfl⟩, w8, fun z e => nomatch e⟩
  · exact ⟨.str "a", show _ ≤ _ by decide +kernel, .inl ⟨.str _, rfl⟩, w9, fun z e => by cases e; decide +kernel⟩
  · exact ⟨.str "", show _ ≤ _ by decide +kernel, .inl ⟨.str _, rfl⟩, w10, fun z e => by cases e; decide +kernel⟩
  · exact ⟨.list [], ⟨.list, _, SqL.of b1⟩, .inl ⟨.lst (SqL.of b1) .nil, rfl⟩, w3, fun z e => nomatch e⟩
  · exact ⟨.list [.int 1], ⟨.list, _, SqL.of b2⟩, .inl ⟨.lst (SqL.of b2) (.cons (.int _) .nil), rfl⟩, w4, fun z e => nomatch e⟩
  · exact ⟨.tuple [], ⟨.tuple, _, SqT.of b3⟩, .inl ⟨.tup (SqT.of b3) .nil, rfl⟩, w5, fun z e => nomatch e⟩
  · exact ⟨.tuple [.str "a", .int 1], ⟨.tuple, _, SqT.of b4⟩, .inl ⟨.tup (SqT.of b4) (.cons (.str _) (.cons (.int _) .nil)), rfl⟩, w6, fun z e => nomatch e⟩
  · exact ⟨.dict [], ⟨.dict, .inl ⟨_, b5⟩⟩, .inr ⟨_, _, _, rfl, b5, rfl, .nil⟩, w1, fun z e => nomatch e⟩
  · exact ⟨.dict [(.str "a", .none)], ⟨.dict, .inl ⟨_, b6⟩⟩, .inr ⟨_, _, _, rfl, b6, rfl, .cons ⟨rfl, rfl⟩ .nil⟩, w2, fun z e => nomatch e⟩
  · exact ⟨_, th_int (by decide) (by decide)⟩
  · rw [ten]
    exact ⟨_, th_int (by decide) (by decide)⟩
theorem DeckAt.some {H : Hp} {p wa : Addr} (d : DeckAt H p wa) : ∃ o, H p = Option.some o := by
  obtain ⟨c, m, t, ws, h1, h2, h3, h4⟩ := d
  exact ⟨_, h1⟩
theorem pf_law_thing {K : PySem.W.Frag} {g : Ads} (vs : List V) (H : Hp) (Q : VK) (E : XK) (h : sp_law_thing K g vs H Q E) : rw_law_thing K g vs H Q E := by
  obtain ⟨p, wa, rfl, hd, q⟩ := h
  refine ⟨rfl, show 0 ≤ sizeLine by decide, fun l1 h1 => ⟨show 1 ≤ sizeLine by decide, fun l2 h2 => ⟨show 0 ≤ sizeLine by decide, fun t1 h3 => ⟨show 2 ≤ sizeLine by decide, fun t2 h4 => fun d1 h5 => fun d2 h6 =>
    ⟨upd_same, [(.inr "a", .non)], rfl, by decide, ⟨⟨by decide, by decide, by decide⟩, ⟨show 13 ≤ sizeLine by decide, fun o h7 => ?_⟩⟩⟩⟩⟩⟩⟩
  obtain ⟨op, hop⟩ := hd.some
  have u1 := Same.put (o := .lst []) h1
  have u2 := Same.put (o := .lst [.int 1]) h2
  have u3 := Same.put (o := .tup []) h3
  have u4 := Same.put (o := .tup [.str "a", .int 1]) h4
  have u5 := Same.put (o := .dK []) h5
  have u6 := Same.put (o := .dK [(.inr "a", .non)]) h6
  rw [upd_upd] at h7
  have u7 := Same.put (o := .lst (oddL l1 l2 t1 t2 d1 d2)) h7
  rw [upd_upd]
  have od : OddAt H (upd (upd (upd (upd (upd (upd (upd H l1 (.lst [])) l2 (.lst [.int 1])) t1 (.tup [])) t2 (.tup [.str "a", .int 1])) d1 (.dK [])) d2 (.dK [(.inr "a", .non)])) o (.lst (oddL l1 l2 t1 t2 d1 d2))) l1 l2 t1 t2 d1 d2 :=
    ⟨u7 _ _ (u6 _ _ (u5 _ _ (u4 _ _ (u3 _ _ (u2 _ _ upd_same))))), u7 _ _ (u6 _ _ (u5 _ _ (u4 _ _ (u3 _ _ upd_same)))), u7 _ _ (u6 _ _ (u5 _ _ (u4 _ _ upd_same))), u7 _ _ (u6 _ _ (u5 _ _ upd_same)), u7 _ _ (u6 _ _ upd_same), u7 _ _ upd_same,
      h1, u1.free h2, (u1.trans u2).free h3, ((u1.trans u2).trans u3).free h4, (((u1.trans u2).trans u3).trans u4).free h5, ((((u1.trans u2).trans u3).trans u4).trans u5).free h6⟩
  have sa : Same H (upd (upd (upd (upd (upd (upd (upd H l1 (.lst [])) l2 (.lst [.int 1])) t1 (.tup [])) t2 (.tup [.str "a", .int 1])) d1 (.dK [])) d2 (.dK [(.inr "a", .non)])) o (.lst (oddL l1 l2 t1 t2 d1 d2))) := (((((u1.trans u2).trans u3).trans u4).trans u5).trans u6).trans u7
  have no : o ≠ p := (ne_of_none ((((((u1.trans u2).trans u3).trans u4).trans u5).trans u6) _ _ hop) h7).symm
  have eo : (upd (upd (upd (upd (upd (upd (upd H l1 (.lst [])) l2 (.lst [.int 1])) t1 (.tup [])) t2 (.tup [.str "a", .int 1])) d1 (.dK [])) d2 (.dK [(.inr "a", .non)])) o (.lst (oddL l1 l2 t1 t2 d1 d2))) o = some (.lst (oddL l1 l2 t1 t2 d1 d2)) := upd_same
  show R_law_thing_2 K g E { nx := fun _ H' => Q .non H', rt := Q } [some (.ref p), some (.ref o)] (upd (upd (upd (upd (upd (upd (upd H l1 (.lst [])) l2 (.lst [.int 1])) t1 (.tup [])) t2 (.tup [.str "a", .int 1])) d1 (.dK [])) d2 (.dK [(.inr "a", .non)])) o (.lst (oddL l1 l2 t1 t2 d1 d2)))
  clear u1 u2 u3 u4 u5 u6 u7
  revert od sa eo
  generalize (upd (upd (upd (upd (upd (upd (upd H l1 (.lst [])) l2 (.lst [.int 1])) t1 (.tup [])) t2 (.tup [.str "a", .int 1])) d1 (.dK [])) d2 (.dK [(.inr "a", .non)])) o (.lst (oddL l1 l2 t1 t2 d1 d2))) = H1
  intro od sa eo
  refine ⟨p, wa, rfl, hd.same sa, fun i H2 i0 i1 dk2 b2 => ⟨show 1 ≤ sizeLine by decide, fun m hm => ?_⟩⟩
  have s3 := Same.put (o := .lst [V.int i]) hm
  have eo3 := s3 _ _ (b2 _ _ eo no)
  refine ⟨oddL l1 l2 t1 t2 d1 d2, [.int i], eo3, upd_same, (show 14 ≤ sizeLine by decide), fun c1 hc1 => ?_⟩
  have s4 := Same.put (o := .lst (oddL l1 l2 t1 t2 d1 d2 ++ [V.int i])) hc1
  refine ⟨p, wa, 1, rfl, dk2.same (s3.trans s4), by decide, by decide, fun ah stem first N H5 st f0 f1 dk5 b5 hN hNl => ?_⟩
  have nc1 : c1 ≠ p := (dk2.same s3).ne hc1
  have ec1 := b5 _ _ (upd_same (H := upd H2 m (.lst [V.int i])) (a := c1) (o := .lst (oddL l1 l2 t1 t2 d1 d2 ++ [V.int i]))) nc1
  refine ⟨oddL l1 l2 t1 t2 d1 d2 ++ [V.int i], (List.range (1 : Int).toNat).map fun k => V.str (nmOf ah stem first k), ec1, hNl, (show 13 + 1 + 1 ≤ sizeLine by decide), fun c2 hc2 => ?_⟩
  have s6 := Same.put (o := .lst (oddL l1 l2 t1 t2 d1 d2 ++ [V.int i] ++ (List.range (1 : Int).toNat).map fun k => V.str (nmOf ah stem first k))) hc2
  refine ⟨p, wa, c2, _, rfl, dk5.same s6, .inl (SqL.of upd_same), dk5.ne hc2, by simp, by simp [oddL], fun j x H7 hx dk7 b7 => ?_⟩
  have bb : But p H1 H7 := ((b2.trans (But.same (s3.trans s4))).trans (b5.trans (But.same s6))).trans b7
  have od7 := od.but (p := p) (by rw [hop]; simp) bb
  have key : ∃ d, Thing K (nwr H H7) x d := by
    have hm := List.mem_of_getElem? hx
    rcases List.mem_append.mp hm with hm | hm
    · rcases List.mem_append.mp hm with hm | hm
      · exact od7.things x hm
      · obtain rfl : x = .int i := by simpa using hm
        exact ⟨_, th_int (by omega) (by omega)⟩
    · obtain rfl : x = .str (nmOf ah stem first 0) := by simpa using hm
      obtain ⟨z1, z2, z3, z4⟩ := nm_ok (ah := ah) st f0 f1
      exact ⟨.str (nmOf ah stem first 0), (show (nmOf ah stem first 0).length ≤ 1000 by omega), .inl ⟨.str _, rfl⟩, fit_str (by omega) z3, fun z e => by cases e; rw [z1, decide_eq_false z4]; rfl⟩
  obtain ⟨d, hd⟩ := key
  exact q x d H7 hd dk7 ((But.same sa).trans bb)
theorem ok_law_thing {P : Program} {w : World} {K : PySem.W.Frag} {mg : Str → Option Value} {base : Heap} {g : Ads} (T : Txt K mg g) : FnZ P w K mg base 4 g.f_law_thing g.d_law_thing ["deck"] (sp_law_thing K g) := (raw_law_thing T).imp pf_law_thing
/-! ### the errors of a class by its number -/
def clsA (g : Ads) : List (Addr × Str) := [(g.c_BadName, "name"), (g.c_BadValue, "value"), (g.c_BadTest, "test"), (g.c_BadStep, "index"), (g.c_BadFail, "index"), (g.c_BadPair, "index"), (g.c_BadKind, "kind")]
def clsB (g : Ads) : List (Addr × Str) := [(g.c_BadMend, "index"), (g.c_BadText, "line"), (g.c_BadCommand, "command"), (g.c_Twice, "name"), (g.c_Taken, "name"), (g.c_Unlike, "name")]
def clsC (g : Ads) : List (Addr × Str) := [(g.c_NoHandler, "name"), (g.c_NoPlace, "name"), (g.c_NotTyped, "name"), (g.c_Shut, "name"), (g.c_TooMany, "limit")]
def clsL (g : Ads) : List (Addr × Str) := clsA g ++ (clsB g ++ clsC g)
theorem paired_get {α β : Type} {R : α → β → Prop} : ∀ {xs : List α} {ys : List β}, Paired R xs ys → ∀ {j : Nat} {y : β}, ys[j]? = some y → ∃ x, xs[j]? = some x ∧ R x y
  | _, _, .nil, j, y, h => by simp at h
  | _, _, .cons r t, 0, y, h => by
    cases h
    exact ⟨_, rfl, r⟩
  | _, _, .cons r t, j + 1, y, h => paired_get t (j := j) (by simpa using h)
theorem pick_made {K : PySem.W.Frag} {i j : Nat} {v : V} {σ : St} {cs : List (Addr × Str)} {te : TE} {C : Addr} {f : Str} {D : Ends} {H : Hp} (hv : ∀ H (R : VK), R v H → zVar i σ H R) (hl : cs.length ≤ 100) (hj : cs[j]? = some (C, f))
    (hte : ∀ H (R : VK), R (.int (j : Nat)) H → te σ H R) (k : ∀ e H', Same H H' → ExO H' e C [(f, v)] → D.rt (.ref e) H') : tRet (tOp (zIx K) (tLst (madeL i cs)) te) D σ H := by
  refine madeL_ok hv fun as H' s p => ⟨?_, fun l hl' => hte _ _ ?_⟩
  · rw [List.length_map, p.length]
    exact Nat.le_trans hl (by decide)
  · obtain ⟨a, ha, hx⟩ := paired_get p hj
    have s2 := Same.put (o := .lst (as.map V.ref)) hl'
    exact ⟨as.map V.ref, .ref a, .inl (SqL.of upd_same), atI_nat (by rw [List.getElem?_map, ha]; rfl), k a _ (s.trans s2) (hx.same s2)⟩
theorem pick_madeK {K : PySem.W.Frag} {i j : Nat} {v : V} {σ : St} {cs : List (Addr × Str)} {te : TE} {C : Addr} {f : Str} {D : Ends} {H : Hp} (hv : ∀ H (R : VK), R v H → zVar i σ H R) (hl : cs.length ≤ 100) (hj : cs[j]? = some (C, f))
    (hte : ∀ H (R : VK), R (.int (j : Nat)) H → te σ H R) (k : ∀ e H', Same H H' → ExO H' e C [(f, v)] → D.rt (.ref e) H') : tRet (tOp (zIx K) (tLst (madeKL i cs)) te) D σ H := by
  refine madeKL_ok hv fun as H' s p => ⟨?_, fun l hl' => hte _ _ ?_⟩
  · rw [List.length_map, p.length]
    exact Nat.le_trans hl (by decide)
  · obtain ⟨a, ha, hx⟩ := paired_get p hj
    have s2 := Same.put (o := .lst (as.map V.ref)) hl'
    exact ⟨as.map V.ref, .ref a, .inl (SqL.of upd_same), atI_nat (by rw [List.getElem?_map, ha]; rfl), k a _ (s.trans s2) (hx.same s2)⟩
def sp_made (g : Ads) : Sp := fun vs H Q E => ∃ (k : Nat) (v : V) (C : Addr) (f : Str), vs = [.int k, v] ∧ (clsL g)[k]? = some (C, f) ∧ ∀ e H', Same H H' → ExO H' e C [(f, v)] → Q (.ref e) H'
def sp_law_made (K : PySem.W.Frag) (g : Ads) : Sp := sp_made g
def sp_law_made_by_name (K : PySem.W.Frag) (g : Ads) : Sp := sp_made g
theorem sub_var {k n : Nat} {σ : St} (e : σ[0]? = some (some (.int (k : Nat)))) (h : n ≤ k) : ∀ H (R : VK), R (.int ((k - n : Nat) : Nat)) H → tOp zSub (zVar 0) (tC (.int n)) σ H R := by
  intro H R r
  have r2 : R (.int ((k : Int) - n)) H := by
    have : (k : Int) - n = ((k - n : Nat) : Int) := by omega
    rw [this]
    exact r
  unfold tOp
  show zVar 0 σ H _
  unfold zVar
  rw [e]
  exact r2
theorem pf_law_made {K : PySem.W.Frag} {g : Ads} (vs : List V) (H : Hp) (Q : VK) (E : XK) (h : sp_law_made K g vs H Q E) : rw_law_made K g vs H Q E := by
  obtain ⟨k, v, C, f, rfl, hk, q⟩ := h
  refine ⟨rfl, zite (fun h1 => ?_) (fun h1 => ?_)⟩
  · have h1' : k < 7 := by have := of_decide_eq_true h1; omega
    refine pick_made (σ := [some (.int k), some v]) (i := 1) (v := v) (cs := clsA g) (j := k) (fun H R r => r) (show 7 ≤ 100 by decide) ?_ (fun H R r => r) q
    rw [clsL, List.getElem?_append_left (by show k < 7; exact h1')] at hk
    exact hk
  · have h1' : 7 ≤ k := by have := of_decide_eq_false h1; omega
    refine zite (fun h2 => ?_) (fun h2 => ?_)
    · have h2' : k < 13 := by have := of_decide_eq_true h2; omega
      refine pick_made (σ := [some (.int k), some v]) (i := 1) (v := v) (cs := clsB g) (j := k - 7) (fun H R r => r) (show 6 ≤ 100 by decide) ?_ (sub_var rfl h1') q
      rw [clsL, List.getElem?_append_right (by show 7 ≤ k; exact h1'), List.getElem?_append_left (by show k - 7 < 6; omega)] at hk
      exact hk
    · have h2' : 13 ≤ k := by have := of_decide_eq_false h2; omega
      refine pick_made (σ := [some (.int k), some v]) (i := 1) (v := v) (cs := clsC g) (j := k - 13) (fun H R r => r) (show 5 ≤ 100 by decide) ?_ (sub_var rfl h2') q
      rw [clsL, List.getElem?_append_right (by show 7 ≤ k; exact h1'), List.getElem?_append_right (by show 6 ≤ k - 7; omega)] at hk
      exact hk
theorem pf_law_made_by_name {K : PySem.W.Frag} {g : Ads} (vs : List V) (H : Hp) (Q : VK) (E : XK) (h : sp_law_made_by_name K g vs H Q E) : rw_law_made_by_name K g vs H Q E := by
  obtain ⟨k, v, C, f, rfl, hk, q⟩ := h
  refine ⟨rfl, zite (fun h1 => ?_) (fun h1 => ?_)⟩
  · have h1' : k < 4 := by have := of_decide_eq_true h1; omega
    refine pick_madeK (σ := [some (.int k), some v]) (i := 1) (v := v) (cs := (clsL g).take 4) (j := k) (fun H R r => r) (show 4 ≤ 100 by decide) ?_ (fun H R r => r) q
    rw [List.getElem?_take_of_lt h1']
    exact hk
  · have h1' : 4 ≤ k := by have := of_decide_eq_false h1; omega
    refine zite (fun h2 => ?_) (fun h2 => ?_)
    · have h2' : k < 8 := by have := of_decide_eq_true h2; omega
      refine pick_madeK (σ := [some (.int k), some v]) (i := 1) (v := v) (cs := ((clsL g).drop 4).take 4) (j := k - 4) (fun H R r => r) (show 4 ≤ 100 by decide) ?_ (sub_var rfl h1') q
      rw [List.getElem?_take_of_lt (by omega), List.getElem?_drop, show 4 + (k - 4) = k by omega]
      exact hk
    · have h2' : 8 ≤ k := by have := of_decide_eq_false h2; omega
      refine zite (fun h3 => ?_) (fun h3 => ?_)
      · have h3' : k < 13 := by have := of_decide_eq_true h3; omega
        refine pick_madeK (σ := [some (.int k), some v]) (i := 1) (v := v) (cs := ((clsL g).drop 8).take 5) (j := k - 8) (fun H R r => r) (show 5 ≤ 100 by decide) ?_ (sub_var rfl h2') q
        rw [List.getElem?_take_of_lt (by omega), List.getElem?_drop, show 8 + (k - 8) = k by omega]
        exact hk
      · have h3' : 13 ≤ k := by have := of_decide_eq_false h3; omega
        refine pick_madeK (σ := [some (.int k), some v]) (i := 1) (v := v) (cs := (clsL g).drop 13) (j := k - 13) (fun H R r => r) (show 5 ≤ 100 by decide) ?_ (sub_var rfl h3') q
        rw [List.getElem?_drop, show 13 + (k - 13) = k by omega]
        exact hk
theorem ok_law_made {P : Program} {w : World} {K : PySem.W.Frag} {mg : Str → Option Value} {base : Heap} {g : Ads} (T : Txt K mg g) : FnZ P w K mg base 3 g.f_law_made g.d_law_made ["k", "one"] (sp_law_made K g) := (raw_law_made T).imp pf_law_made
theorem ok_law_made_by_name {P : Program} {w : World} {K : PySem.W.Frag} {mg : Str → Option Value} {base : Heap} {g : Ads} (T : Txt K mg g) : FnZ P w K mg base 3 g.f_law_made_by_name g.d_law_made_by_name ["k", "one"] (sp_law_made_by_name K g) := (raw_law_made_by_name T).imp pf_law_made_by_name
end Z
namespace Z
open PySem PySem.Spec PyProof.Rows L2
theorem sc_law_is_checked : FnScope ["thing", "is_name_v", "is_right", "found", "e", "due", "row"] ["thing"] (defScope s_law_is_checked) := ⟨rfl, rfl, rfl, by decide +kernel, rfl, by decide +kernel, by decide +kernel⟩
def R_law_is_checked_4 (K : PySem.W.Frag) (g : Ads) (E : XK) : TS :=
  (tAsg (zChain zLt zLt (zNeg (tOp zPow (tC (.int 10)) (tC (.int 20)))) (zVar 0) (tOp zPow (tC (.int 10)) (tC (.int 20)))) (gName 2))
def R_law_is_checked_15 (K : PySem.W.Frag) (g : Ads) (E : XK) : TS :=
  (tRet (zAndV (tOp (zEq K) (zLc (iList K (zVar 3)) (gName 6) tYes (tOp (zIx K) (zVar 6) (tC (.int 0))) [6]) (zVar 5)) (tCB (rAll K) (tCons (zLc (iList K (zVar 3)) (gName 6) tYes (tOp (zEq K) (tCB (zRepr K) (tCons (tOp (zIx K) (zVar 6) (tC (.int 1))) tNil)) (tCB (zRepr K) (tCons (zVar 0) tNil))) [6]) tNil))))
def R_law_is_checked_14 (K : PySem.W.Frag) (g : Ads) (E : XK) : TS :=
  (tSeq (tAsg (tLst (tCons (tIf (zTru K (zVar 1)) (tC (.str "ok")) (tC (.str "no"))) (tCons (tIf (zTru K (zVar 2)) (tC (.str "ok")) (tC (.str "no"))) tNil))) (gName 5))
  (R_law_is_checked_15 K g E))
def R_law_is_checked_10 (K : PySem.W.Frag) (g : Ads) (E : XK) : TS :=
  (tSeq (fun D σ H => (fun W => (tDrop (tBM K "list" rAppend (zVar 3) (tCons (tLst (tCons (tC (.str "ok")) (tCons (zCall (sp_check_operand K g) [] (WE W) (tCons (zVar 0) tNil)) tNil))) tNil)))) (wAs K (.ref g.c_BadValue) 4 (fun a cls dd => (tDrop (tBM K "list" rAppend (zVar 3) (tCons (tLst (tCons (tC (.str "no")) (tCons (tXf a cls dd g.c_BadValue "value" (zVar 4)) tNil))) tNil)))) (fun cls d _ H => E cls d H) D) D σ H)
  (R_law_is_checked_14 K g E))
def R_law_is_checked_6 (K : PySem.W.Frag) (g : Ads) (E : XK) : TS :=
  (tSeq (fun D σ H => (fun W => (tDrop (tBM K "list" rAppend (zVar 3) (tCons (tLst (tCons (tC (.str "ok")) (tCons (zCall (sp_check_name K g) [] (WE W) (tCons (zVar 0) tNil)) tNil))) tNil)))) (wAs K (.ref g.c_BadName) 4 (fun a cls dd => (tDrop (tBM K "list" rAppend (zVar 3) (tCons (tLst (tCons (tC (.str "no")) (tCons (tXf a cls dd g.c_BadName "name" (zVar 4)) tNil))) tNil)))) (fun cls d _ H => E cls d H) D) D σ H)
  (R_law_is_checked_10 K g E))
def R_law_is_checked_5 (K : PySem.W.Frag) (g : Ads) (E : XK) : TS :=
  (tSeq (tAsg (tLst tNil) (gName 3))
  (R_law_is_checked_6 K g E))
def R_law_is_checked_3 (K : PySem.W.Frag) (g : Ads) (E : XK) : TS :=
  (tSeq (tIfS (tAnd (zTru K (zIsiT K .int (zVar 0))) (tNot (zTru K (zIsiT K .bool (zVar 0)))))
  (R_law_is_checked_4 K g E)
  tNext)
  (R_law_is_checked_5 K g E))
def R_law_is_checked_2 (K : PySem.W.Frag) (g : Ads) (E : XK) : TS :=
  (tSeq (tAsg (zOrV (zVar 1) (tOp zIs (zVar 0) (tC .non))) (gName 2))
  (R_law_is_checked_3 K g E))
def R_law_is_checked (K : PySem.W.Frag) (g : Ads) (E : XK) : TS :=
  (tSeq (tAsg (zAndV (zIsiT K .str (zVar 0)) (tOp (zNe K) (zVar 0) (tC (.str "")))) (gName 1))
  (R_law_is_checked_2 K g E))
def rw_law_is_checked (K : PySem.W.Frag) (g : Ads) : Sp := fun vs H Q E => vs.length = 1 ∧ R_law_is_checked K g E { nx := fun _ H' => Q .non H', rt := Q } (start ["thing", "is_name_v", "is_right", "found", "e", "due", "row"] vs) H
theorem raw_law_is_checked {P : Program} {w : World} {K : PySem.W.Frag} {mg : Str → Option Value} {base : Heap} {g : Ads} (T : Txt K mg g) : FnG true P w K mg base 4 g.f_law_is_checked g.d_law_is_checked ["thing"] (rw_law_is_checked K g) := by
  refine okZ T.f_law_is_checked sc_law_is_checked (fun vs H Q E h => h.1) (fun cdv A outer s H vs Q E hr hgu h => ⟨R_law_is_checked K g E, ?_, h.2⟩)
  exact (pss_cons (ps_set (i := 1) sc_law_is_checked.nd rfl (Or.inl rfl) (pez_and (pe_isi (kd := .str) (zv 0) (by rfl) T.b_isinstance (by decide +kernel) (by rfl) T.b_str (by decide +kernel)) (pe_one (pe_cmpR (op_zNe hr.units) (zv 0) pe_str (nomark _)))))
  (pss_cons (ps_set (i := 2) sc_law_is_checked.nd rfl (Or.inl rfl) (pez_or (zv 1) (pe_one (pe_cmpR op_zIs (zv 0) pe_non (nomark _)))))
  (pss_cons (ps_if (PW.pt (pw_and (ptz_truth (pe_isi (kd := .int) (zv 0) (by rfl) T.b_isinstance (by decide +kernel) (by rfl) T.b_int (by decide +kernel)) (by intro _; rfl)) (pw_and1 (pt_not (ptz_truth (pe_isi (kd := .bool) (zv 0) (by rfl) T.b_isinstance (by decide +kernel) (by rfl) T.b_bool (by decide +kernel)) (by intro _; rfl))))))
  (pss_one (ps_set (i := 2) sc_law_is_checked.nd rfl (Or.inl rfl) (pez_chain op_zLt op_zLt (pez_neg (pe_op op_zPow pe_int pe_int)) (zv 0) (pe_op op_zPow pe_int pe_int))))
  pss_nil)
  (pss_cons (ps_set (i := 3) sc_law_is_checked.nd rfl (Or.inl rfl) (pe_lst pa_nil))
  (pss_cons (ps_try_as (i := 4) (tb := fun W => (tDrop (tBM K "list" rAppend (zVar 3) (tCons (tLst (tCons (tC (.str "ok")) (tCons (zCall (sp_check_name K g) [] (WE W) (tCons (zVar 0) tNil)) tNil))) tNil)))) (ts := (fun a cls dd => (tDrop (tBM K "list" rAppend (zVar 3) (tCons (tLst (tCons (tC (.str "no")) (tCons (tXf a cls dd g.c_BadName "name" (zVar 4)) tNil))) tNil))))) (Wout := (fun cls d _ H => E cls d H)) rfl rfl sc_law_is_checked.nd rfl rfl ⟨rfl, by decide, Or.inl T.g_BadName⟩ (takes_of rfl rfl rfl rfl)
  (fun W pn xe tk po => (pss_one (ps_expr (pe_bm PySem.F.plainAttrs_list PySem.F.slot_list_append PySem.F.type_list_append mt_append (zv 3) (pa_cons (pe_lst (pa_cons pe_str (pa_cons (pe_callZ (ok_check_name T) (hr.mono (by decide)) hgu rfl T.g_check_name T.k_check_name T.e_check_name .nil (fun σ => passAt tk σ) (pa_cons (zv 0) pa_nil)) pa_nil))) pa_nil)))))
  (fun a oe cls dd pn hz hf => (pss_one (ps_expr (pe_bm PySem.F.plainAttrs_list PySem.F.slot_list_append PySem.F.type_list_append mt_append (zv 3) (pa_cons (pe_lst (pa_cons pe_str (pa_cons (pe_xf T.x_BadName T.a_BadName_name hz hf (zv 4)) pa_nil))) pa_nil))))))
  (pss_cons (ps_try_as (i := 4) (tb := fun W => (tDrop (tBM K "list" rAppend (zVar 3) (tCons (tLst (tCons (tC (.str "ok")) (tCons (zCall (sp_check_operand K g) [] (WE W) (tCons (zVar 0) tNil)) tNil))) tNil)))) (ts := (fun a cls dd => (tDrop (tBM K "list" rAppend (zVar 3) (tCons (tLst (tCons (tC (.str "no")) (tCons (tXf a cls dd g.c_BadValue "value" (zVar 4)) tNil))) tNil))))) (Wout := (fun cls d _ H => E cls d H)) rfl rfl sc_law_is_checked.nd rfl rfl ⟨rfl, by decide, Or.inl T.g_BadValue⟩ (takes_of rfl rfl rfl rfl)
  (fun W pn xe tk po => (pss_one (ps_expr (pe_bm PySem.F.plainAttrs_list PySem.F.slot_list_append PySem.F.type_list_append mt_append (zv 3) (pa_cons (pe_lst (pa_cons pe_str (pa_cons (pe_callZ (ok_check_operand T) (hr.mono (by decide)) hgu rfl T.g_check_operand T.k_check_operand T.e_check_operand .nil (fun σ => passAt tk σ) (pa_cons (zv 0) pa_nil)) pa_nil))) pa_nil)))))
  (fun a oe cls dd pn hz hf => (pss_one (ps_expr (pe_bm PySem.F.plainAttrs_list PySem.F.slot_list_append PySem.F.type_list_append mt_append (zv 3) (pa_cons (pe_lst (pa_cons pe_str (pa_cons (pe_xf T.x_BadValue T.a_BadValue_value hz hf (zv 4)) pa_nil))) pa_nil))))))
  (pss_cons (ps_set (i := 5) sc_law_is_checked.nd rfl (Or.inl rfl) (pe_lst (pa_cons (pe_ifExp (ptz_truth (zv 1) (by intro _; rfl)) pe_str pe_str) (pa_cons (pe_ifExp (ptz_truth (zv 2) (by intro _; rfl)) pe_str pe_str) pa_nil))))
  (pss_one (ps_ret (pez_and (pe_cmpR (op_zEq hr.units) (pez_lc (own := [("row", 6)]) rfl sc_law_is_checked.nd (pi_list (zv 3)) (blkOk_by (own := [("row", 6)]) (N := ["thing", "is_name_v", "is_right", "found", "e", "due", "row"]) (sc := defScope s_law_is_checked) (by decide +kernel)) (fun _ _ _ _ _ => pg_name (i := 6) sc_law_is_checked.nd rfl (Or.inl rfl)) (fun _ _ _ _ _ => pts_nil) (fun _ _ _ _ _ => (pe_ix ix_z (zv 6) pe_int (fun _ _ => rfl)))) (zv 5) (nomark _)) (pe_one (pe_callB (cr_all rfl) (by rfl) T.b_all (by decide +kernel) (pa_cons (pez_lc (own := [("row", 6)]) rfl sc_law_is_checked.nd (pi_list (zv 3)) (blkOk_by (own := [("row", 6)]) (N := ["thing", "is_name_v", "is_right", "found", "e", "due", "row"]) (sc := defScope s_law_is_checked) (by decide +kernel)) (fun _ _ _ _ _ => pg_name (i := 6) sc_law_is_checked.nd rfl (Or.inl rfl)) (fun _ _ _ _ _ => pts_nil) (fun _ _ _ _ _ => (pe_cmpR (op_zEq hr.units) (pe_callB (call_reprZ (hgu rfl) hr.units) (by rfl) T.b_repr (by decide +kernel) (pa_cons (pe_ix ix_z (zv 6) pe_int (fun _ _ => rfl)) pa_nil)) (pe_callB (call_reprZ (hgu rfl) hr.units) (by rfl) T.b_repr (by decide +kernel) (pa_cons (zv 0) pa_nil)) (nomark _)))) pa_nil)))))))))))))
theorem sc_law_has : FnScope ["k", "e"] ["k", "e"] (defScope s_law_has) := ⟨rfl, rfl, rfl, by decide +kernel, rfl, by decide +kernel, by decide +kernel⟩
def R_law_has_13 (K : PySem.W.Frag) (g : Ads) (E : XK) : TS :=
  (tRet (tIf (zTest (tOp (zEq K) (zVar 0) (tC (.int 17)))) (tXo K "limit" (zVar 1)) (tXo K "name" (zVar 1))))
def R_law_has_11 (K : PySem.W.Frag) (g : Ads) (E : XK) : TS :=
  (tSeq (tIfS (zTest (tOp (zEq K) (zVar 0) (tC (.int 9))))
  (tRet (tXo K "command" (zVar 1)))
  tNext)
  (R_law_has_13 K g E))
def R_law_has_9 (K : PySem.W.Frag) (g : Ads) (E : XK) : TS :=
  (tSeq (tIfS (zTest (tOp (zEq K) (zVar 0) (tC (.int 8))))
  (tRet (tXo K "line" (zVar 1)))
  tNext)
  (R_law_has_11 K g E))
def R_law_has_7 (K : PySem.W.Frag) (g : Ads) (E : XK) : TS :=
  (tSeq (tIfS (zTest (tOp (zEq K) (zVar 0) (tC (.int 6))))
  (tRet (tXo K "kind" (zVar 1)))
  tNext)
  (R_law_has_9 K g E))
def R_law_has_5 (K : PySem.W.Frag) (g : Ads) (E : XK) : TS :=
  (tSeq (tIfS (zTest (tOp (zEq K) (zVar 0) (tC (.int 2))))
  (tRet (tXo K "test" (zVar 1)))
  tNext)
  (R_law_has_7 K g E))
def R_law_has_3 (K : PySem.W.Frag) (g : Ads) (E : XK) : TS :=
  (tSeq (tIfS (zTest (tOp (zEq K) (zVar 0) (tC (.int 1))))
  (tRet (tXo K "value" (zVar 1)))
  tNext)
  (R_law_has_5 K g E))
def R_law_has (K : PySem.W.Frag) (g : Ads) (E : XK) : TS :=
  (tSeq (tIfS (zTest (tOp (zIn K) (zVar 0) (tLst (tCons (tC (.int 3)) (tCons (tC (.int 4)) (tCons (tC (.int 5)) (tCons (tC (.int 7)) tNil)))))))
  (tRet (tXo K "index" (zVar 1)))
  tNext)
  (R_law_has_3 K g E))
def rw_law_has (K : PySem.W.Frag) (g : Ads) : Sp := fun vs H Q E => vs.length = 2 ∧ R_law_has K g E { nx := fun _ H' => Q .non H', rt := Q } (start ["k", "e"] vs) H
theorem raw_law_has {P : Program} {w : World} {K : PySem.W.Frag} {mg : Str → Option Value} {base : Heap} {g : Ads} (T : Txt K mg g) : FnG true P w K mg base 1 g.f_law_has g.d_law_has ["k", "e"] (rw_law_has K g) := by
  refine okZ T.f_law_has sc_law_has (fun vs H Q E h => h.1) (fun cdv A outer s H vs Q E hr hgu h => ⟨R_law_has K g E, ?_, h.2⟩)
  exact (pss_cons (ps_if (ptz_cmp op_zIn (zv 0) (pe_lst (pa_cons pe_int (pa_cons pe_int (pa_cons pe_int (pa_cons pe_int pa_nil))))) (by rfl))
  (pss_one (ps_ret (pe_xo (zv 1))))
  pss_nil)
  (pss_cons (ps_if (ptz_cmp (op_zEq hr.units) (zv 0) pe_int (nomark _))
  (pss_one (ps_ret (pe_xo (zv 1))))
  pss_nil)
  (pss_cons (ps_if (ptz_cmp (op_zEq hr.units) (zv 0) pe_int (nomark _))
  (pss_one (ps_ret (pe_xo (zv 1))))
  pss_nil)
  (pss_cons (ps_if (ptz_cmp (op_zEq hr.units) (zv 0) pe_int (nomark _))
  (pss_one (ps_ret (pe_xo (zv 1))))
  pss_nil)
  (pss_cons (ps_if (ptz_cmp (op_zEq hr.units) (zv 0) pe_int (nomark _))
  (pss_one (ps_ret (pe_xo (zv 1))))
  pss_nil)
  (pss_cons (ps_if (ptz_cmp (op_zEq hr.units) (zv 0) pe_int (nomark _))
  (pss_one (ps_ret (pe_xo (zv 1))))
  pss_nil)
  (pss_one (ps_ret (pe_ifExp (ptz_cmp (op_zEq hr.units) (zv 0) pe_int (nomark _)) (pe_xo (zv 1)) (pe_xo (zv 1)))))))))))
theorem sc_law_kinds : FnScope ["e", "found", "k", "one"] ["e"] (defScope s_law_kinds) := ⟨rfl, rfl, rfl, by decide +kernel, rfl, by decide +kernel, by decide +kernel⟩
def R_law_kinds_7 (K : PySem.W.Frag) (g : Ads) (E : XK) : TS :=
  (tRet (zLc (zEnum K (tCons (tOp zAdd (zVar 1) (tLst (tCons (tCB (rIsO K) (tCons (zVar 0) (tCons (tC (.ref g.c_Refused)) tNil))) tNil))) tNil)) (gTup K 2 (gCons (gName 2) (gCons (gName 3) gNil))) (zTru K (zVar 3)) (zVar 2) [2, 3]))
def R_law_kinds_6 (K : PySem.W.Frag) (g : Ads) (E : XK) : TS :=
  (tSeq (tAsg (tOp zAdd (zVar 1) (tLst (tCons (tCB (rIsO K) (tCons (zVar 0) (tCons (tC (.ref g.c_Shut)) tNil))) (tCons (tCB (rIsO K) (tCons (zVar 0) (tCons (tC (.ref g.c_TooMany)) tNil))) (tCons (tCB (rIsO K) (tCons (zVar 0) (tCons (tC (.ref g.c_Misplaced)) tNil))) tNil))))) (gName 1))
  (R_law_kinds_7 K g E))
def R_law_kinds_5 (K : PySem.W.Frag) (g : Ads) (E : XK) : TS :=
  (tSeq (tAsg (tOp zAdd (zVar 1) (tLst (tCons (tCB (rIsO K) (tCons (zVar 0) (tCons (tC (.ref g.c_NoHandler)) tNil))) (tCons (tCB (rIsO K) (tCons (zVar 0) (tCons (tC (.ref g.c_NoPlace)) tNil))) (tCons (tCB (rIsO K) (tCons (zVar 0) (tCons (tC (.ref g.c_NotTyped)) tNil))) tNil))))) (gName 1))
  (R_law_kinds_6 K g E))
def R_law_kinds_4 (K : PySem.W.Frag) (g : Ads) (E : XK) : TS :=
  (tSeq (tAsg (tOp zAdd (zVar 1) (tLst (tCons (tCB (rIsO K) (tCons (zVar 0) (tCons (tC (.ref g.c_Twice)) tNil))) (tCons (tCB (rIsO K) (tCons (zVar 0) (tCons (tC (.ref g.c_Taken)) tNil))) (tCons (tCB (rIsO K) (tCons (zVar 0) (tCons (tC (.ref g.c_Unlike)) tNil))) tNil))))) (gName 1))
  (R_law_kinds_5 K g E))
def R_law_kinds_3 (K : PySem.W.Frag) (g : Ads) (E : XK) : TS :=
  (tSeq (tAsg (tOp zAdd (zVar 1) (tLst (tCons (tCB (rIsO K) (tCons (zVar 0) (tCons (tC (.ref g.c_BadMend)) tNil))) (tCons (tCB (rIsO K) (tCons (zVar 0) (tCons (tC (.ref g.c_BadText)) tNil))) (tCons (tCB (rIsO K) (tCons (zVar 0) (tCons (tC (.ref g.c_BadCommand)) tNil))) tNil))))) (gName 1))
  (R_law_kinds_4 K g E))
def R_law_kinds_2 (K : PySem.W.Frag) (g : Ads) (E : XK) : TS :=
  (tSeq (tAsg (tOp zAdd (zVar 1) (tLst (tCons (tCB (rIsO K) (tCons (zVar 0) (tCons (tC (.ref g.c_BadFail)) tNil))) (tCons (tCB (rIsO K) (tCons (zVar 0) (tCons (tC (.ref g.c_BadPair)) tNil))) (tCons (tCB (rIsO K) (tCons (zVar 0) (tCons (tC (.ref g.c_BadKind)) tNil))) tNil))))) (gName 1))
  (R_law_kinds_3 K g E))
def R_law_kinds (K : PySem.W.Frag) (g : Ads) (E : XK) : TS :=
  (tSeq (tAsg (tLst (tCons (tCB (rIsO K) (tCons (zVar 0) (tCons (tC (.ref g.c_BadName)) tNil))) (tCons (tCB (rIsO K) (tCons (zVar 0) (tCons (tC (.ref g.c_BadValue)) tNil))) (tCons (tCB (rIsO K) (tCons (zVar 0) (tCons (tC (.ref g.c_BadTest)) tNil))) (tCons (tCB (rIsO K) (tCons (zVar 0) (tCons (tC (.ref g.c_BadStep)) tNil))) tNil))))) (gName 1))
  (R_law_kinds_2 K g E))
def rw_law_kinds (K : PySem.W.Frag) (g : Ads) : Sp := fun vs H Q E => vs.length = 1 ∧ R_law_kinds K g E { nx := fun _ H' => Q .non H', rt := Q } (start ["e", "found", "k", "one"] vs) H
theorem raw_law_kinds {P : Program} {w : World} {K : PySem.W.Frag} {mg : Str → Option Value} {base : Heap} {g : Ads} (T : Txt K mg g) : FnG true P w K mg base 1 g.f_law_kinds g.d_law_kinds ["e"] (rw_law_kinds K g) := by
  refine okZ T.f_law_kinds sc_law_kinds (fun vs H Q E h => h.1) (fun cdv A outer s H vs Q E hr hgu h => ⟨R_law_kinds K g E, ?_, h.2⟩)
  exact (pss_cons (ps_set (i := 1) sc_law_kinds.nd rfl (Or.inl rfl) (pe_lst (pa_cons (pe_callB call_isO (by rfl) T.b_isinstance (by decide +kernel) (pa_cons (zv 0) (pa_cons (pe_glob rfl T.g_BadName rfl) pa_nil))) (pa_cons (pe_callB call_isO (by rfl) T.b_isinstance (by decide +kernel) (pa_cons (zv 0) (pa_cons (pe_glob rfl T.g_BadValue rfl) pa_nil))) (pa_cons (pe_callB call_isO (by rfl) T.b_isinstance (by decide +kernel) (pa_cons (zv 0) (pa_cons (pe_glob rfl T.g_BadTest rfl) pa_nil))) (pa_cons (pe_callB call_isO (by rfl) T.b_isinstance (by decide +kernel) (pa_cons (zv 0) (pa_cons (pe_glob rfl T.g_BadStep rfl) pa_nil))) pa_nil))))))
  (pss_cons (ps_set (i := 1) sc_law_kinds.nd rfl (Or.inl rfl) (pe_op op_zAdd (zv 1) (pe_lst (pa_cons (pe_callB call_isO (by rfl) T.b_isinstance (by decide +kernel) (pa_cons (zv 0) (pa_cons (pe_glob rfl T.g_BadFail rfl) pa_nil))) (pa_cons (pe_callB call_isO (by rfl) T.b_isinstance (by decide +kernel) (pa_cons (zv 0) (pa_cons (pe_glob rfl T.g_BadPair rfl) pa_nil))) (pa_cons (pe_callB call_isO (by rfl) T.b_isinstance (by decide +kernel) (pa_cons (zv 0) (pa_cons (pe_glob rfl T.g_BadKind rfl) pa_nil))) pa_nil))))))
  (pss_cons (ps_set (i := 1) sc_law_kinds.nd rfl (Or.inl rfl) (pe_op op_zAdd (zv 1) (pe_lst (pa_cons (pe_callB call_isO (by rfl) T.b_isinstance (by decide +kernel) (pa_cons (zv 0) (pa_cons (pe_glob rfl T.g_BadMend rfl) pa_nil))) (pa_cons (pe_callB call_isO (by rfl) T.b_isinstance (by decide +kernel) (pa_cons (zv 0) (pa_cons (pe_glob rfl T.g_BadText rfl) pa_nil))) (pa_cons (pe_callB call_isO (by rfl) T.b_isinstance (by decide +kernel) (pa_cons (zv 0) (pa_cons (pe_glob rfl T.g_BadCommand rfl) pa_nil))) pa_nil))))))
  (pss_cons (ps_set (i := 1) sc_law_kinds.nd rfl (Or.inl rfl) (pe_op op_zAdd (zv 1) (pe_lst (pa_cons (pe_callB call_isO (by rfl) T.b_isinstance (by decide +kernel) (pa_cons (zv 0) (pa_cons (pe_glob rfl T.g_Twice rfl) pa_nil))) (pa_cons (pe_callB call_isO (by rfl) T.b_isinstance (by decide +kernel) (pa_cons (zv 0) (pa_cons (pe_glob rfl T.g_Taken rfl) pa_nil))) (pa_cons (pe_callB call_isO (by rfl) T.b_isinstance (by decide +kernel) (pa_cons (zv 0) (pa_cons (pe_glob rfl T.g_Unlike rfl) pa_nil))) pa_nil))))))
  (pss_cons (ps_set (i := 1) sc_law_kinds.nd rfl (Or.inl rfl) (pe_op op_zAdd (zv 1) (pe_lst (pa_cons (pe_callB call_isO (by rfl) T.b_isinstance (by decide +kernel) (pa_cons (zv 0) (pa_cons (pe_glob rfl T.g_NoHandler rfl) pa_nil))) (pa_cons (pe_callB call_isO (by rfl) T.b_isinstance (by decide +kernel) (pa_cons (zv 0) (pa_cons (pe_glob rfl T.g_NoPlace rfl) pa_nil))) (pa_cons (pe_callB call_isO (by rfl) T.b_isinstance (by decide +kernel) (pa_cons (zv 0) (pa_cons (pe_glob rfl T.g_NotTyped rfl) pa_nil))) pa_nil))))))
  (pss_cons (ps_set (i := 1) sc_law_kinds.nd rfl (Or.inl rfl) (pe_op op_zAdd (zv 1) (pe_lst (pa_cons (pe_callB call_isO (by rfl) T.b_isinstance (by decide +kernel) (pa_cons (zv 0) (pa_cons (pe_glob rfl T.g_Shut rfl) pa_nil))) (pa_cons (pe_callB call_isO (by rfl) T.b_isinstance (by decide +kernel) (pa_cons (zv 0) (pa_cons (pe_glob rfl T.g_TooMany rfl) pa_nil))) (pa_cons (pe_callB call_isO (by rfl) T.b_isinstance (by decide +kernel) (pa_cons (zv 0) (pa_cons (pe_glob rfl T.g_Misplaced rfl) pa_nil))) pa_nil))))))
  (pss_one (ps_ret (pez_lc (own := [("k", 2), ("one", 3)]) rfl sc_law_kinds.nd (pi_zEnum (by rfl) T.b_enumerate (pa_cons (pe_op op_zAdd (zv 1) (pe_lst (pa_cons (pe_callB call_isO (by rfl) T.b_isinstance (by decide +kernel) (pa_cons (zv 0) (pa_cons (pe_glob rfl T.g_Refused rfl) pa_nil))) pa_nil))) pa_nil)) (blkOk_by (own := [("k", 2), ("one", 3)]) (N := ["e", "found", "k", "one"]) (sc := defScope s_law_kinds) (by decide +kernel)) (fun _ _ _ _ _ => pg_tup rfl (pgs_cons (pg_name (i := 2) sc_law_kinds.nd rfl (Or.inl rfl)) (pgs_cons (pg_name (i := 3) sc_law_kinds.nd rfl (Or.inl rfl)) pgs_nil))) (fun _ _ _ _ _ => pts_one (ptz_truth (zv 3) (by intro _; rfl))) (fun _ _ _ _ _ => (zv 2)))))))))))
theorem sc_law_above : FnScope ["e", "found"] ["e"] (defScope s_law_above) := ⟨rfl, rfl, rfl, by decide +kernel, rfl, by decide +kernel, by decide +kernel⟩
def R_law_above_2 (K : PySem.W.Frag) (g : Ads) (E : XK) : TS :=
  (tRet (tOp zAdd (zVar 1) (tLst (tCons (tCB (rIsO K) (tCons (zVar 0) (tCons (tC (.ty "OverflowError")) tNil))) (tCons (tCB (rIsO K) (tCons (zVar 0) (tCons (tC (.ty "TypeError")) tNil))) tNil)))))
def R_law_above (K : PySem.W.Frag) (g : Ads) (E : XK) : TS :=
  (tSeq (tAsg (tLst (tCons (tCB (rIsO K) (tCons (zVar 0) (tCons (tC (.ty "ValueError")) tNil))) (tCons (tCB (rIsO K) (tCons (zVar 0) (tCons (tC (.ty "LookupError")) tNil))) (tCons (tCB (rIsO K) (tCons (zVar 0) (tCons (tC (.ty "RuntimeError")) tNil))) tNil)))) (gName 1))
  (R_law_above_2 K g E))
def rw_law_above (K : PySem.W.Frag) (g : Ads) : Sp := fun vs H Q E => vs.length = 1 ∧ R_law_above K g E { nx := fun _ H' => Q .non H', rt := Q } (start ["e", "found"] vs) H
theorem raw_law_above {P : Program} {w : World} {K : PySem.W.Frag} {mg : Str → Option Value} {base : Heap} {g : Ads} (T : Txt K mg g) : FnG true P w K mg base 1 g.f_law_above g.d_law_above ["e"] (rw_law_above K g) := by
  refine okZ T.f_law_above sc_law_above (fun vs H Q E h => h.1) (fun cdv A outer s H vs Q E hr hgu h => ⟨R_law_above K g E, ?_, h.2⟩)
  exact (pss_cons (ps_set (i := 1) sc_law_above.nd rfl (Or.inl rfl) (pe_lst (pa_cons (pe_callB call_isO (by rfl) T.b_isinstance (by decide +kernel) (pa_cons (zv 0) (pa_cons (pe_bltn (by rfl) T.b_ValueError (by decide +kernel) rfl) pa_nil))) (pa_cons (pe_callB call_isO (by rfl) T.b_isinstance (by decide +kernel) (pa_cons (zv 0) (pa_cons (pe_bltn (by rfl) T.b_LookupError (by decide +kernel) rfl) pa_nil))) (pa_cons (pe_callB call_isO (by rfl) T.b_isinstance (by decide +kernel) (pa_cons (zv 0) (pa_cons (pe_bltn (by rfl) T.b_RuntimeError (by decide +kernel) rfl) pa_nil))) pa_nil)))))
  (pss_one (ps_ret (pe_op op_zAdd (zv 1) (pe_lst (pa_cons (pe_callB call_isO (by rfl) T.b_isinstance (by decide +kernel) (pa_cons (zv 0) (pa_cons (pe_bltn (by rfl) T.b_OverflowError (by decide +kernel) rfl) pa_nil))) (pa_cons (pe_callB call_isO (by rfl) T.b_isinstance (by decide +kernel) (pa_cons (zv 0) (pa_cons (pe_bltn (by rfl) T.b_TypeError (by decide +kernel) rfl) pa_nil))) pa_nil)))))))
end Z
namespace Z
open PySem PySem.Spec PyProof.Rows L2
def okS (b : Bool) : Str := if b = true then "ok" else "no"
theorem ok_eqv (b c : Bool) : PyData.eqv (.list [.str (okS b), .str (okS c)]) (.list [.str (okS b), .str (okS c)]) = true ∧ SeqAt.shaped (.list [.str (okS b), .str (okS c)]) = true := by
  cases b <;> cases c <;> decide +kernel
def sp_law_is_checked (K : PySem.W.Frag) (g : Ads) : Sp := fun vs H Q E => ∃ v d, vs = [v] ∧ Thing K H v d ∧ ∀ H', Same H H' → Q (.bl true) H'
theorem pf_law_is_checked {K : PySem.W.Frag} {mg : Str → Option Value} {g : Ads} (T : Txt K mg g) (vs : List V) (H : Hp) (Q : VK) (E : XK) (h : sp_law_is_checked K g vs H Q E) : rw_law_is_checked K g vs H Q E := by
  obtain ⟨v, d, rfl, th, q⟩ := h
  -- the end
  have fin : ∀ (D r1 r2 : Addr) (w1 w2 : Str) (H3 : Hp), w1 = okS (isNameV v) → w2 = okS (isOperV v) → Same H H3 → H3 D = some (.lst [.ref r1, .ref r2]) →
      H3 r1 = some (.lst [.str (okS (isNameV v)), v]) → H3 r2 = some (.lst [.str (okS (isOperV v)), v]) →
      2 ≤ sizeLine ∧ ∀ l, H3 l = none → R_law_is_checked_15 K g E { nx := fun _ H' => Q .non H', rt := Q } [some v, some (.bl (isNameV v)), some (.bl (isOperV v)), some (.ref D), none, some (.ref l), none] (upd H3 l (.lst [.str w1, .str w2])) := by
    rintro D r1 r2 w1 w2 H3 rfl rfl s3 hD h1 h2
    refine ⟨by decide, fun l hl => ?_⟩
    have t4 : Same H3 (upd H3 l (.lst [.str (okS (isNameV v)), .str (okS (isOperV v))])) := Same.put hl
    have hl4 : (upd H3 l (.lst [.str (okS (isNameV v)), .str (okS (isOperV v))])) l = some (.lst [.str (okS (isNameV v)), .str (okS (isOperV v))]) := upd_same
    generalize (upd H3 l (.lst [V.str (okS (isNameV v)), .str (okS (isOperV v))])) = H4 at t4 hl4 ⊢
    refine ⟨D, rfl, ⟨_, SqL.of (t4 _ _ hD)⟩, lc_map (walk_list (xs := [.ref r1, .ref r2])) (fun i => if i = 0 then .str (okS (isNameV v)) else .str (okS (isOperV v))) (show 2 ≤ sizeLine by decide) (fun H' s => SqL.of (s _ _ (t4 _ _ hD))) (fun i x H5 H' hi s y => ?_) (fun D2 hD2 => ?_)⟩
    · obtain ⟨rfl, hx⟩ := y
      match i, hx with
      | 0, hx =>
        cases hx
        exact ⟨rfl, _, fun R r => r, rfl, fun R r => r, fun R r => ⟨_, _, .inl (SqL.of (s _ _ (t4 _ _ h1))), rfl, r⟩⟩
      | 1, hx =>
        cases hx
        exact ⟨rfl, _, fun R r => r, rfl, fun R r => r, fun R r => ⟨_, _, .inl (SqL.of (s _ _ (t4 _ _ h2))), rfl, r⟩⟩
      | i + 2, hx => simp at hx
    · obtain ⟨e1, e2⟩ := ok_eqv (isNameV v) (isOperV v)
      have t5 : Same H4 (upd H4 D2 (.lst [.str (okS (isNameV v)), .str (okS (isOperV v))])) := Same.put hD2
      refine .inr ⟨.list [.str (okS (isNameV v)), .str (okS (isOperV v))], .list [.str (okS (isNameV v)), .str (okS (isOperV v))], .lst (SqL.of (xs := [.str (okS (isNameV v)), .str (okS (isOperV v))]) upd_same) (.cons (.str _) (.cons (.str _) .nil)),
        .lst (SqL.of (t5 _ _ hl4)) (.cons (.str _) (.cons (.str _) .nil)), e2, e2, ?_⟩
      rw [e1]
      have hD5 := t5 _ _ (t4 _ _ hD)
      have h15 := t5 _ _ (t4 _ _ h1)
      have h25 := t5 _ _ (t4 _ _ h2)
      have s5 := (s3.trans t4).trans t5
      refine ⟨D, rfl, ⟨_, SqL.of hD5⟩, lc_map (walk_list (xs := [.ref r1, .ref r2])) (fun i => .bl true) (show 2 ≤ sizeLine by decide) (fun H' s => SqL.of (s _ _ hD5)) (fun i x H6 H' hi s y => ?_) (fun D3 hD3 => ?_)⟩
      · obtain ⟨rfl, hx⟩ := y
        have t6 := (th.same s5).same s
        have row : ∀ (r : Addr) (w : Str), H' r = some (.lst [.str w, v]) → x = .ref r → H' = H' ∧ ∃ σ2 : St, (∀ R : St → Hp → Prop, R σ2 H' → gName 6 x (wipe [some v, some (.bl (isNameV v)), some (.bl (isOperV v)), some (.ref D), none, some (.ref l), none] [6]) H' R) ∧
            wipe σ2 [6] = wipe [some v, some (.bl (isNameV v)), some (.bl (isOperV v)), some (.ref D), none, some (.ref l), none] [6] ∧ (∀ R : Bool → Hp → Prop, R true H' → tYes σ2 H' R) ∧
            (∀ R : VK, R (.bl true) H' → (tOp (zEq K) (tCB (zRepr K) (tCons (tOp (zIx K) (zVar 6) (tC (.int 1))) tNil)) (tCB (zRepr K) (tCons (zVar 0) tNil))) σ2 H' R) := by
          rintro r w hr rfl
          refine ⟨rfl, _, fun R r => r, rfl, fun R r => r, fun R rr => ⟨_, _, .inl (SqL.of hr), rfl, ?_⟩⟩
          refine ⟨v, d, rfl, t6.dp, t6.fx.sh, Nat.le_trans t6.fx.dp (by decide), t6.fx.le, ⟨v, d, rfl, t6.dp, t6.fx.sh, Nat.le_trans t6.fx.dp (by decide), t6.fx.le, .inl ⟨rfl, ?_⟩⟩⟩
          rw [show decide (V.str d.shown = V.str d.shown) = true from decide_eq_true rfl]
          exact rr
        match i, hx with
        | 0, hx =>
          cases hx
          exact row r1 _ (s _ _ h15) rfl
        | 1, hx =>
          cases hx
          exact row r2 _ (s _ _ h25) rfl
        | i + 2, hx => simp at hx
      · exact ⟨D3, [true, true], rfl, SqL.of upd_same, q _ (s5.trans (Same.put hD3))⟩
  -- what is due
  have go10 : ∀ (D r1 r2 : Addr) (H3 : Hp), Same H H3 → H3 D = some (.lst [.ref r1, .ref r2]) → H3 r1 = some (.lst [.str (okS (isNameV v)), v]) → H3 r2 = some (.lst [.str (okS (isOperV v)), v]) →
      R_law_is_checked_14 K g E { nx := fun _ H' => Q .non H', rt := Q } [some v, some (.bl (isNameV v)), some (.bl (isOperV v)), some (.ref D), none, none, none] H3 := by
    intro D r1 r2 H3 s3 hD h1 h2
    refine zite (fun b1 => ?_) (fun b1 => ?_)
    · refine zite (fun b2 => ?_) (fun b2 => ?_)
      · exact fin D r1 r2 "ok" "ok" H3 (by rw [b1]; rfl) (by rw [b2]; rfl) s3 hD h1 h2
      · exact fin D r1 r2 "ok" "no" H3 (by rw [b1]; rfl) (by rw [b2]; rfl) s3 hD h1 h2
    · refine zite (fun b2 => ?_) (fun b2 => ?_)
      · exact fin D r1 r2 "no" "ok" H3 (by rw [b1]; rfl) (by rw [b2]; rfl) s3 hD h1 h2
      · exact fin D r1 r2 "no" "no" H3 (by rw [b1]; rfl) (by rw [b2]; rfl) s3 hD h1 h2
  let go10K : Addr → VK := fun D _ H1 => R_law_is_checked_14 K g E { nx := fun _ H' => Q .non H', rt := Q } [some v, some (.bl (isNameV v)), some (.bl (isOperV v)), some (.ref D), none, none, none] H1
  let go6K : Addr → VK := fun D _ H1 => R_law_is_checked_10 K g E { nx := fun _ H' => Q .non H', rt := Q } [some v, some (.bl (isNameV v)), some (.bl (isOperV v)), some (.ref D), none, none, none] H1
  -- a row that is laid and appended to what is found at D
  have lay : ∀ (D : Addr) (acc : List V) (w : Str) (H4 : Hp) (k : VK), H D = none → Same H H4 → H4 D = some (.lst acc) → acc.length ≤ 2 →
      (∀ l H5, H4 l = none → Same H H5 → But D H4 H5 → H5 D = some (.lst (acc ++ [.ref l])) → H5 l = some (.lst [.str w, v]) → k .non H5) →
      2 ≤ sizeLine ∧ ∀ l, H4 l = none → rAppend (.ref D) [.ref l] (upd H4 l (.lst [.str w, v])) k := by
    intro D acc w H4 k hDn s4 hD hl kk
    refine ⟨by decide, fun l hl4 => ?_⟩
    have nD : D ≠ l := ne_of_none hD hl4
    refine ⟨D, acc, _, rfl, rfl, by rw [upd_ne nD]; exact hD, Nat.lt_of_le_of_lt hl (by decide), ?_⟩
    refine kk l _ hl4 ?_ ((But.same (Same.put hl4)).trans But.put) upd_same (by rw [upd_ne nD.symm, upd_same])
    intro b o e
    rw [upd_ne (ne_of_none e hDn)]
    exact Same.put hl4 _ _ (s4 _ _ e)
  have go6 : ∀ (D r1 : Addr) (H3 : Hp), H D = none → Same H H3 → H3 D = some (.lst [.ref r1]) → H3 r1 = some (.lst [.str (okS (isNameV v)), v]) →
      R_law_is_checked_10 K g E { nx := fun _ H' => Q .non H', rt := Q } [some v, some (.bl (isNameV v)), some (.bl (isOperV v)), some (.ref D), none, none, none] H3 := by
    intro D r1 H3 hDn s3 hD h1
    have n1 : r1 ≠ D := fun z => by
      rw [z, hD] at h1
      cases h1
    refine ⟨.inl ⟨rfl, _, SqL.of hD⟩, v, rfl, (th.same s3).kn, fun hb H4 s4 => ?_, fun hb H4 dd s4 hdn hdd => ⟨true, T.h_BadValue, fun _ a ha => ?_, fun z => absurd z (by decide)⟩⟩
    · refine lay D _ "ok" H4 (go10K D) hDn (s3.trans s4) (s4 _ _ hD) (by simp) ?_
      exact fun l H5 hl s5 b5 e5 f5 => go10 D r1 l H5 s5 e5 (b5 _ _ (s4 _ _ h1) n1) (by rw [hb]; exact f5)
    · refine ⟨.inl ⟨rfl, _, SqL.of (s4 _ _ hD)⟩, rfl, rfl, dd, _, v, rfl, hdd, by simp [List.lookup], ?_⟩
      refine lay D _ "no" H4 (go10K D) hDn (s3.trans s4) (s4 _ _ hD) (by simp) ?_
      exact fun l H5 hl s5 b5 e5 f5 => go10 D r1 l H5 s5 e5 (b5 _ _ (s4 _ _ h1) n1) (by rw [hb]; exact f5)
  have go2 : ∀ (D : Addr) (H3 : Hp), H D = none → Same H H3 → H3 D = some (.lst []) →
      R_law_is_checked_6 K g E { nx := fun _ H' => Q .non H', rt := Q } [some v, some (.bl (isNameV v)), some (.bl (isOperV v)), some (.ref D), none, none, none] H3 := by
    intro D H3 hDn s3 hD
    refine ⟨.inl ⟨rfl, _, SqL.of hD⟩, v, rfl, (th.same s3).kn, fun hb H4 s4 => ?_, fun hb H4 dd s4 hdn hdd => ⟨true, T.h_BadName, fun _ a ha => ?_, fun z => absurd z (by decide)⟩⟩
    · refine lay D _ "ok" H4 (go6K D) hDn (s3.trans s4) (s4 _ _ hD) (by simp) ?_
      exact fun l H5 hl s5 b5 e5 f5 => go6 D l H5 hDn s5 e5 (by rw [hb]; exact f5)
    · refine ⟨.inl ⟨rfl, _, SqL.of (s4 _ _ hD)⟩, rfl, rfl, dd, _, v, rfl, hdd, by simp [List.lookup], ?_⟩
      refine lay D _ "no" H4 (go6K D) hDn (s3.trans s4) (s4 _ _ hD) (by simp) ?_
      exact fun l H5 hl s5 b5 e5 f5 => go6 D l H5 hDn s5 e5 (by rw [hb]; exact f5)
  have main : ∀ b1 b2 : Bool, b1 = isNameV v → b2 = isOperV v → R_law_is_checked_5 K g E { nx := fun _ H' => Q .non H', rt := Q } [some v, some (.bl b1), some (.bl b2), none, none, none, none] H := by
    rintro b1 b2 rfl rfl
    exact ⟨by decide, fun D hD => go2 D _ hD (Same.put hD) upd_same⟩
  have hk := th.kn
  refine ⟨rfl, ?_⟩
  cases v with
  | non => exact ⟨rfl, main false true rfl rfl⟩
  | bl b => exact ⟨rfl, main false false rfl rfl⟩
  | int i =>
    refine ⟨rfl, ⟨by decide, by decide, by decide⟩, zite (fun h1 => ⟨⟨by decide, by decide, by decide⟩, ?_⟩) (fun h1 => ?_)⟩
    · have a1 : -100000000000000000000 < i := by simpa using h1
      refine main false _ rfl ?_
      simp [isOperV, isIntV, isNameV, a1]
    · have a1 : ¬ -100000000000000000000 < i := by simpa using h1
      refine main false false rfl ?_
      simp [isOperV, isIntV, isNameV, a1]
  | ref a =>
    obtain ⟨t, ht⟩ := id hk
    cases t <;> first | exact ht.elim | exact ⟨_, ht, rfl, _, ht, main false false rfl rfl⟩
  | str z =>
    have e := th.nm z rfl
    have e1 : isNameV (.str z) = !decide (z = "") := e
    have e2 : isOperV (.str z) = !decide (z = "") := by simp [isOperV, isIntV, e1]
    refine .inl ⟨rfl, ?_⟩
    show R_law_is_checked_2 K g E { nx := fun _ H' => Q .non H', rt := Q } [some (.str z), some (.bl (!decide (V.str z = V.str ""))), none, none, none, none, none] H
    have e3 : decide (V.str z = V.str "") = decide (z = "") := by
      by_cases h : z = ""
      · rw [h]; simp
      · simp [h]
    rw [e3]
    by_cases hz : z = ""
    · have e4 : decide (z = "") = true := decide_eq_true hz
      rw [e4] at e1 e2 ⊢
      exact ⟨rfl, main false false e1.symm e2.symm⟩
    · have e4 : decide (z = "") = false := decide_eq_false hz
      rw [e4] at e1 e2 ⊢
      exact main true true e1.symm e2.symm
  | _ => exact hk.elim
theorem ok_law_is_checked {P : Program} {w : World} {K : PySem.W.Frag} {mg : Str → Option Value} {base : Heap} {g : Ads} (T : Txt K mg g) : FnZ P w K mg base 4 g.f_law_is_checked g.d_law_is_checked ["thing"] (sp_law_is_checked K g) := (raw_law_is_checked T).imp (pf_law_is_checked T)
end Z
namespace Z
open PySem PySem.Spec PyProof.Rows L2
theorem cls_ok {K : PySem.W.Frag} {mg : Str → Option Value} {g : Ads} (T : Txt K mg g) : ∀ c ∈ clsL g, XfC K c.1 ∧ PySem.W.findIn K (.ref c.1) c.2 = some none := by
  intro c hc
  simp only [clsL, clsA, clsB, clsC, List.cons_append, List.nil_append, List.mem_cons, List.not_mem_nil, or_false] at hc
  rcases hc with rfl | rfl | rfl | rfl | rfl | rfl | rfl | rfl | rfl | rfl | rfl | rfl | rfl | rfl | rfl | rfl | rfl | rfl
  · exact ⟨T.x_BadName, T.a_BadName_name⟩
  · exact ⟨T.x_BadValue, T.a_BadValue_value⟩
  · exact ⟨T.x_BadTest, T.a_BadTest_test⟩
  · exact ⟨T.x_BadStep, T.a_BadStep_index⟩
  · exact ⟨T.x_BadFail, T.a_BadFail_index⟩
  · exact ⟨T.x_BadPair, T.a_BadPair_index⟩
  · exact ⟨T.x_BadKind, T.a_BadKind_kind⟩
  · exact ⟨T.x_BadMend, T.a_BadMend_index⟩
  · exact ⟨T.x_BadText, T.a_BadText_line⟩
  · exact ⟨T.x_BadCommand, T.a_BadCommand_command⟩
  · exact ⟨T.x_Twice, T.a_Twice_name⟩
  · exact ⟨T.x_Taken, T.a_Taken_name⟩
  · exact ⟨T.x_Unlike, T.a_Unlike_name⟩
  · exact ⟨T.x_NoHandler, T.a_NoHandler_name⟩
  · exact ⟨T.x_NoPlace, T.a_NoPlace_name⟩
  · exact ⟨T.x_NotTyped, T.a_NotTyped_name⟩
  · exact ⟨T.x_Shut, T.a_Shut_name⟩
  · exact ⟨T.x_TooMany, T.a_TooMany_limit⟩
def kindsL (g : Ads) : List Addr := [g.c_BadName, g.c_BadValue, g.c_BadTest, g.c_BadStep, g.c_BadFail, g.c_BadPair, g.c_BadKind, g.c_BadMend, g.c_BadText, g.c_BadCommand, g.c_Twice, g.c_Taken, g.c_Unlike, g.c_NoHandler, g.c_NoPlace, g.c_NotTyped, g.c_Shut, g.c_TooMany, g.c_Misplaced, g.c_Refused]
def basesL : List String := ["ValueError", "ValueError", "ValueError", "ValueError", "ValueError", "ValueError", "ValueError", "ValueError", "ValueError", "ValueError", "ValueError", "ValueError", "ValueError", "LookupError", "LookupError", "LookupError", "RuntimeError", "OverflowError", "ValueError", "RuntimeError"]
def above (b : String) : List String := b :: ((if b = "OverflowError" then ["ArithmeticError"] else []) ++ ["Exception", "BaseException", "object"])
structure KindOk (K : PySem.W.Frag) (C : Addr) (b : String) : Prop where
  xt : ExT K C
  mt : MroT K C (above b)
  ty : PySem.W.typeIn K (.ref C) = some (.type "type")
theorem kind_ok {K : PySem.W.Frag} {mg : Str → Option Value} {g : Ads} (T : Txt K mg g) : Paired (KindOk K) (kindsL g) basesL :=
  (.cons ⟨T.xt_BadName, T.mt_BadName, T.o_BadName.tyC⟩
  (.cons ⟨T.xt_BadValue, T.mt_BadValue, T.o_BadValue.tyC⟩
  (.cons ⟨T.xt_BadTest, T.mt_BadTest, T.o_BadTest.tyC⟩
  (.cons ⟨T.xt_BadStep, T.mt_BadStep, T.o_BadStep.tyC⟩
  (.cons ⟨T.xt_BadFail, T.mt_BadFail, T.o_BadFail.tyC⟩
  (.cons ⟨T.xt_BadPair, T.mt_BadPair, T.o_BadPair.tyC⟩
  (.cons ⟨T.xt_BadKind, T.mt_BadKind, T.o_BadKind.tyC⟩
  (.cons ⟨T.xt_BadMend, T.mt_BadMend, T.o_BadMend.tyC⟩
  (.cons ⟨T.xt_BadText, T.mt_BadText, T.o_BadText.tyC⟩
  (.cons ⟨T.xt_BadCommand, T.mt_BadCommand, T.o_BadCommand.tyC⟩
  (.cons ⟨T.xt_Twice, T.mt_Twice, T.o_Twice.tyC⟩
  (.cons ⟨T.xt_Taken, T.mt_Taken, T.o_Taken.tyC⟩
  (.cons ⟨T.xt_Unlike, T.mt_Unlike, T.o_Unlike.tyC⟩
  (.cons ⟨T.xt_NoHandler, T.mt_NoHandler, T.o_NoHandler.tyC⟩
  (.cons ⟨T.xt_NoPlace, T.mt_NoPlace, T.o_NoPlace.tyC⟩
  (.cons ⟨T.xt_NotTyped, T.mt_NotTyped, T.o_NotTyped.tyC⟩
  (.cons ⟨T.xt_Shut, T.mt_Shut, T.o_Shut.tyC⟩
  (.cons ⟨T.xt_TooMany, T.mt_TooMany, T.o_TooMany.tyC⟩
  (.cons ⟨T.xt_Misplaced, T.mt_Misplaced, T.o_Misplaced.tyC⟩
  (.cons ⟨T.xt_Refused, T.mt_Refused, T.o_Refused.tyC⟩
  .nil))))))))))))))))))))
/-! ### isinstance over many classes -/
def isoL (K : PySem.W.Frag) : List V → TA
  | [] => tNil
  | D :: r => tCons (tCB (rIsO K) (tCons (zVar 0) (tCons (tC D) tNil))) (isoL K r)
theorem isoL_ok {K : PySem.W.Frag} {e C : Addr} {fs : List (Str × V)} {σ : St} (hv : ∀ H (R : VK), R (.ref e) H → zVar 0 σ H R) (xt : ExT K C) : ∀ {Ds : List V} {bs : List Bool} {H : Hp} {Q : List V → Hp → Prop},
    Paired (fun (D : V) (b : Bool) => ∃ u, ClsV D u ∧ PySem.W.kitOne K (.ref C) u = some b) Ds bs → ExO H e C fs → Q (bs.map V.bl) H → isoL K Ds σ H Q
  | [], _, H, Q, .nil, hE, q => q
  | D :: Ds, _, H, Q, .cons (b := b) ⟨u, h1, h2⟩ p, hE, q => hv _ _ ⟨e, C, fs, D, u, b, rfl, hE, xt, h1, h2, isoL_ok hv xt (Q := fun xs H2 => Q (.bl b :: xs) H2) p hE q⟩
theorem paired_mem {α β : Type} {R : α → β → Prop} : ∀ {xs : List α} {ys : List β}, Paired R xs ys → ∀ x ∈ xs, ∃ y, R x y
  | _, _, .nil, x, h => by simp at h
  | _, _, .cons r t, x, h => by
    rcases List.mem_cons.mp h with rfl | h
    · exact ⟨_, r⟩
    · exact paired_mem t x h
theorem own_pairs {K : PySem.W.Frag} {C : Addr} {ts : List String} (mt : MroT K C ts) : ∀ {Ds : List Addr}, (∀ D ∈ Ds, ∃ b, KindOk K D b) →
    Paired (fun (D : V) (b : Bool) => ∃ u, ClsV D u ∧ PySem.W.kitOne K (.ref C) u = some b) (Ds.map V.ref) (Ds.map fun D => decide (C = D))
  | [], _ => .nil
  | D :: Ds, h => by
    obtain ⟨b, hb⟩ := h D List.mem_cons_self
    exact .cons ⟨_, .own D, kit_own mt hb.xt.cl hb.ty⟩ (own_pairs mt fun D hD => h D (List.mem_cons_of_mem _ hD))
theorem add_step {K : PySem.W.Frag} {e C l : Addr} {fs : List (Str × V)} {xs : List V} {Ds : List Addr} {ts : List String} {rest : TS} {D : Ends} {H : Hp} {v2 v3 : Option V} (xt : ExT K C) (mt : MroT K C ts) (hD : ∀ D ∈ Ds, ∃ b, KindOk K D b) (hE : ExO H e C fs)
    (hl : H l = some (.lst xs)) (lx : xs.length + Ds.length ≤ 1000) (k : ∀ c H', Same H H' → H' c = some (.lst (xs ++ Ds.map fun D => V.bl (decide (C = D)))) → rest D [some (.ref e), some (.ref c), v2, v3] H') :
    tSeq (tAsg (tOp zAdd (zVar 1) (tLst (isoL K (Ds.map V.ref)))) (gName 1)) rest D [some (.ref e), some (.ref l), v2, v3] H := by
  refine isoL_ok (e := e) (σ := [some (.ref e), some (.ref l), v2, v3]) (Q := fun zs H1 => zs.length ≤ sizeLine ∧ ∀ p, H1 p = none → zAdd (.ref l) (.ref p) (upd H1 p (.lst zs)) fun x H2 => gName 1 x [some (.ref e), some (.ref l), v2, v3] H2 fun σ2 H3 => rest D σ2 H3) (fun H R r => r) xt (own_pairs mt hD) hE ⟨?_, fun p hp => ?_⟩
  · rw [List.length_map, List.length_map]
    exact Nat.le_trans (show Ds.length ≤ 1000 by omega) (by decide)
  · have s1 := Same.put (o := .lst ((Ds.map fun D => decide (C = D)).map V.bl)) hp
    refine ⟨xs, _, s1 _ _ hl, upd_same, ?_, fun c hc => ?_⟩
    · rw [List.length_map, List.length_map]
      exact Nat.le_trans lx (by decide)
    · refine k c _ (s1.trans (Same.put hc)) ?_
      rw [upd_same, List.map_map]
      rfl
def sp_law_has (K : PySem.W.Frag) (g : Ads) : Sp := fun vs H Q E => ∃ (k : Nat) (v : V) (C e : Addr) (f : Str), vs = [.int k, .ref e] ∧ (clsL g)[k]? = some (C, f) ∧ ExO H e C [(f, v)] ∧ ∀ H', Same H H' → Q v H'
theorem look1 (f : Str) (v : V) : [(f, v)].lookup f = some v := by simp [List.lookup]
theorem pf_law_has {K : PySem.W.Frag} {mg : Str → Option Value} {g : Ads} (T : Txt K mg g) (vs : List V) (H : Hp) (Q : VK) (E : XK) (h : sp_law_has K g vs H Q E) : rw_law_has K g vs H Q E := by
  obtain ⟨k, v, C, e, f, rfl, hk, hE, q⟩ := h
  obtain ⟨x1, x2⟩ := cls_ok T (C, f) (List.mem_of_getElem? hk)
  have hl : k < 18 := by
    have := (List.getElem?_eq_some_iff.mp hk).1
    exact this
  refine ⟨rfl, show 4 ≤ sizeLine by decide, fun p hp => .inr ⟨p, _, rfl, .inl (SqL.of upd_same), rfl, rfl, ?_⟩⟩
  have s1 := Same.put (o := .lst [.int 3, .int 4, .int 5, .int 7]) hp
  have hE1 := hE.same s1
  have q1 := q _ s1
  match k, hl, hk with
  | 0, _, hk =>
    cases hk
    repeat (first | exact ⟨e, _, _, v, rfl, hE1, x1, x2, look1 _ _, q1⟩ | refine zite (fun _ => ?_) (fun h => absurd h (by decide)) | refine zite (fun h => absurd h (by decide)) (fun _ => ?_) | refine .inl ⟨rfl, ?_⟩)
  | 1, _, hk =>
    cases hk
    repeat (first | exact ⟨e, _, _, v, rfl, hE1, x1, x2, look1 _ _, q1⟩ | refine zite (fun _ => ?_) (fun h => absurd h (by decide)) | refine zite (fun h => absurd h (by decide)) (fun _ => ?_) | refine .inl ⟨rfl, ?_⟩)
  | 2, _, hk =>
    cases hk
    repeat (first | exact ⟨e, _, _, v, rfl, hE1, x1, x2, look1 _ _, q1⟩ | refine zite (fun _ => ?_) (fun h => absurd h (by decide)) | refine zite (fun h => absurd h (by decide)) (fun _ => ?_) | refine .inl ⟨rfl, ?_⟩)
  | 3, _, hk =>
    cases hk
    repeat (first | exact ⟨e, _, _, v, rfl, hE1, x1, x2, look1 _ _, q1⟩ | refine zite (fun _ => ?_) (fun h => absurd h (by decide)) | refine zite (fun h => absurd h (by decide)) (fun _ => ?_) | refine .inl ⟨rfl, ?_⟩)
  | 4, _, hk =>
    cases hk
    repeat (first | exact ⟨e, _, _, v, rfl, hE1, x1, x2, look1 _ _, q1⟩ | refine zite (fun _ => ?_) (fun h => absurd h (by decide)) | refine zite (fun h => absurd h (by decide)) (fun _ => ?_) | refine .inl ⟨rfl, ?_⟩)
  | 5, _, hk =>
    cases hk
    repeat (first | exact ⟨e, _, _, v, rfl, hE1, x1, x2, look1 _ _, q1⟩ | refine zite (fun _ => ?_) (fun h => absurd h (by decide)) | refine zite (fun h => absurd h (by decide)) (fun _ => ?_) | refine .inl ⟨rfl, ?_⟩)
  | 6, _, hk =>
    cases hk
    repeat (first | exact ⟨e, _, _, v, rfl, hE1, x1, x2, look1 _ _, q1⟩ | refine zite (fun _ => ?_) (fun h => absurd h (by decide)) | refine zite (fun h => absurd h (by decide)) (fun _ => ?_) | refine .inl ⟨rfl, ?_⟩)
  | 7, _, hk =>
    cases hk
    repeat (first | exact ⟨e, _, _, v, rfl, hE1, x1, x2, look1 _ _, q1⟩ | refine zite (fun _ => ?_) (fun h => absurd h (by decide)) | refine zite (fun h => absurd h (by decide)) (fun _ => ?_) | refine .inl ⟨rfl, ?_⟩)
  | 8, _, hk =>
    cases hk
    repeat (first | exact ⟨e, _, _, v, rfl, hE1, x1, x2, look1 _ _, q1⟩ | refine zite (fun _ => ?_) (fun h => absurd h (by decide)) | refine zite (fun h => absurd h (by decide)) (fun _ => ?_) | refine .inl ⟨rfl, ?_⟩)
  | 9, _, hk =>
    cases hk
    repeat (first | exact ⟨e, _, _, v, rfl, hE1, x1, x2, look1 _ _, q1⟩ | refine zite (fun _ => ?_) (fun h => absurd h (by decide)) | refine zite (fun h => absurd h (by decide)) (fun _ => ?_) | refine .inl ⟨rfl, ?_⟩)
  | 10, _, hk =>
    cases hk
    repeat (first | exact ⟨e, _, _, v, rfl, hE1, x1, x2, look1 _ _, q1⟩ | refine zite (fun _ => ?_) (fun h => absurd h (by decide)) | refine zite (fun h => absurd h (by decide)) (fun _ => ?_) | refine .inl ⟨rfl, ?_⟩)
  | 11, _, hk =>
    cases hk
    repeat (first | exact ⟨e, _, _, v, rfl, hE1, x1, x2, look1 _ _, q1⟩ | refine zite (fun _ => ?_) (fun h => absurd h (by decide)) | refine zite (fun h => absurd h (by decide)) (fun _ => ?_) | refine .inl ⟨rfl, ?_⟩)
  | 12, _, hk =>
    cases hk
    repeat (first | exact ⟨e, _, _, v, rfl, hE1, x1, x2, look1 _ _, q1⟩ | refine zite (fun _ => ?_) (fun h => absurd h (by decide)) | refine zite (fun h => absurd h (by decide)) (fun _ => ?_) | refine .inl ⟨rfl, ?_⟩)
  | 13, _, hk =>
    cases hk
    repeat (first | exact ⟨e, _, _, v, rfl, hE1, x1, x2, look1 _ _, q1⟩ | refine zite (fun _ => ?_) (fun h => absurd h (by decide)) | refine zite (fun h => absurd h (by decide)) (fun _ => ?_) | refine .inl ⟨rfl, ?_⟩)
  | 14, _, hk =>
    cases hk
    repeat (first | exact ⟨e, _, _, v, rfl, hE1, x1, x2, look1 _ _, q1⟩ | refine zite (fun _ => ?_) (fun h => absurd h (by decide)) | refine zite (fun h => absurd h (by decide)) (fun _ => ?_) | refine .inl ⟨rfl, ?_⟩)
  | 15, _, hk =>
    cases hk
    repeat (first | exact ⟨e, _, _, v, rfl, hE1, x1, x2, look1 _ _, q1⟩ | refine zite (fun _ => ?_) (fun h => absurd h (by decide)) | refine zite (fun h => absurd h (by decide)) (fun _ => ?_) | refine .inl ⟨rfl, ?_⟩)
  | 16, _, hk =>
    cases hk
    repeat (first | exact ⟨e, _, _, v, rfl, hE1, x1, x2, look1 _ _, q1⟩ | refine zite (fun _ => ?_) (fun h => absurd h (by decide)) | refine zite (fun h => absurd h (by decide)) (fun _ => ?_) | refine .inl ⟨rfl, ?_⟩)
  | 17, _, hk =>
    cases hk
    repeat (first | exact ⟨e, _, _, v, rfl, hE1, x1, x2, look1 _ _, q1⟩ | refine zite (fun _ => ?_) (fun h => absurd h (by decide)) | refine zite (fun h => absurd h (by decide)) (fun _ => ?_) | refine .inl ⟨rfl, ?_⟩)
theorem ok_law_has {P : Program} {w : World} {K : PySem.W.Frag} {mg : Str → Option Value} {base : Heap} {g : Ads} (T : Txt K mg g) : FnZ P w K mg base 1 g.f_law_has g.d_law_has ["k", "e"] (sp_law_has K g) := (raw_law_has T).imp (pf_law_has T)
end Z
namespace Z
open PySem PySem.Spec PyProof.Rows L2
def kA (g : Ads) : List Addr := [g.c_BadName, g.c_BadValue, g.c_BadTest, g.c_BadStep]
def kB (g : Ads) : List Addr := [g.c_BadFail, g.c_BadPair, g.c_BadKind]
def kC (g : Ads) : List Addr := [g.c_BadMend, g.c_BadText, g.c_BadCommand]
def kD (g : Ads) : List Addr := [g.c_Twice, g.c_Taken, g.c_Unlike]
def kE (g : Ads) : List Addr := [g.c_NoHandler, g.c_NoPlace, g.c_NotTyped]
def kF (g : Ads) : List Addr := [g.c_Shut, g.c_TooMany, g.c_Misplaced]
def kG (g : Ads) : List Addr := [g.c_Refused]
theorem kinds_eq (g : Ads) : kindsL g = kA g ++ (kB g ++ (kC g ++ (kD g ++ (kE g ++ (kF g ++ kG g))))) := rfl
def sp_law_kinds (K : PySem.W.Frag) (g : Ads) : Sp := fun vs H Q E => ∃ (k : Nat) (C e : Addr) (fs : List (Str × V)), vs = [.ref e] ∧ (kindsL g)[k]? = some C ∧ ExO H e C fs ∧ ∀ l H', Same H H' → H' l = some (.lst [.int k]) → Q (.ref l) H'
/-- which class it is -/
theorem same_kind {g : Ads} (nd : (kindsL g).Nodup) {i k : Nat} {C D : Addr} (h1 : (kindsL g)[i]? = some D) (h2 : (kindsL g)[k]? = some C) : decide (C = D) = decide (i = k) := by
  obtain ⟨l1, e1⟩ := List.getElem?_eq_some_iff.mp h1
  obtain ⟨l2, e2⟩ := List.getElem?_eq_some_iff.mp h2
  by_cases h : i = k
  · subst h
    rw [h1] at h2
    cases h2
    simp
  · have : ¬ C = D := fun z => h ((List.getElem?_inj l1 nd).mp (by rw [h1, h2, z]))
    simp [this, h]
theorem pf_law_kinds {K : PySem.W.Frag} {mg : Str → Option Value} {g : Ads} (T : Txt K mg g) (vs : List V) (H : Hp) (Q : VK) (E : XK) (h : sp_law_kinds K g vs H Q E) : rw_law_kinds K g vs H Q E := by
  obtain ⟨k, C, e, fs, rfl, hk, hE, q⟩ := h
  obtain ⟨b, _, ko⟩ : ∃ b : String, True ∧ KindOk K C b := by
    obtain ⟨b, hb⟩ := paired_mem (kind_ok T) C (List.mem_of_getElem? hk)
    exact ⟨b, trivial, hb⟩
  have al : ∀ D ∈ kindsL g, ∃ b, KindOk K D b := fun D hD => paired_mem (kind_ok T) D hD
  have xt := ko.xt
  have mt := ko.mt
  rw [kinds_eq] at al
  have aA : ∀ D ∈ kA g, ∃ b, KindOk K D b := fun D h => al D (by simp [h])
  have aB : ∀ D ∈ kB g, ∃ b, KindOk K D b := fun D h => al D (by simp [h])
  have aC : ∀ D ∈ kC g, ∃ b, KindOk K D b := fun D h => al D (by simp [h])
  have aD : ∀ D ∈ kD g, ∃ b, KindOk K D b := fun D h => al D (by simp [h])
  have aE : ∀ D ∈ kE g, ∃ b, KindOk K D b := fun D h => al D (by simp [h])
  have aF : ∀ D ∈ kF g, ∃ b, KindOk K D b := fun D h => al D (by simp [h])
  have aG : ∀ D ∈ kG g, ∃ b, KindOk K D b := fun D h => al D (by simp [h])
  refine ⟨rfl, ?_⟩
  refine isoL_ok (e := e) (σ := [some (.ref e), none, none, none]) (Ds := (kA g).map V.ref) (Q := fun zs H1 => zs.length ≤ sizeLine ∧ ∀ p, H1 p = none → gName 1 (.ref p) [some (.ref e), none, none, none] (upd H1 p (.lst zs)) fun σ2 H3 => R_law_kinds_2 K g E { nx := fun _ H' => Q .non H', rt := Q } σ2 H3)
    (fun H R r => r) xt (own_pairs mt aA) hE ⟨show 4 ≤ sizeLine by decide, fun p hp => ?_⟩
  have s1 := Same.put (o := .lst (((kA g).map fun D => decide (C = D)).map V.bl)) hp
  refine add_step (Ds := kB g) xt mt aB (hE.same s1) upd_same (show 4 + 3 ≤ 1000 by decide) fun c1 H2 s2 e2 => ?_
  have t2 := s1.trans s2
  refine add_step (Ds := kC g) xt mt aC (hE.same t2) e2 (show 7 + 3 ≤ 1000 by decide) fun c2 H3 s3 e3 => ?_
  have t3 := t2.trans s3
  refine add_step (Ds := kD g) xt mt aD (hE.same t3) e3 (show 10 + 3 ≤ 1000 by decide) fun c3 H4 s4 e4 => ?_
  have t4 := t3.trans s4
  refine add_step (Ds := kE g) xt mt aE (hE.same t4) e4 (show 13 + 3 ≤ 1000 by decide) fun c4 H5 s5 e5 => ?_
  have t5 := t4.trans s5
  refine add_step (Ds := kF g) xt mt aF (hE.same t5) e5 (show 16 + 3 ≤ 1000 by decide) fun c5 H6 s6 e6 => ?_
  have t6 := t5.trans s6
  have kG1 := kit_own mt (T.xt_Refused).cl (T.o_Refused).tyC
  refine ⟨e, C, fs, .ref g.c_Refused, .ref g.c_Refused, decide (C = g.c_Refused), rfl, hE.same t6, xt, .own _, kG1, ⟨show 1 ≤ sizeLine by decide, fun p7 hp7 => ?_⟩⟩
  have s7 := Same.put (o := .lst [V.bl (decide (C = g.c_Refused))]) hp7
  refine ⟨_, _, s7 _ _ e6, upd_same, (show 19 + 1 ≤ sizeLine by decide), fun c hc => ?_⟩
  have s8 := Same.put (o := .lst ((kindsL g).map fun D => V.bl (decide (C = D)))) hc
  have t8 := (t6.trans s7).trans s8
  have e8 : (upd (upd H6 p7 (.lst [V.bl (decide (C = g.c_Refused))])) c (.lst ((kindsL g).map fun D => V.bl (decide (C = D))))) c = some (.lst ((kindsL g).map fun D => V.bl (decide (C = D)))) := upd_same
  refine ⟨c, (kindsL g).map fun D => V.bl (decide (C = D)), rfl, .inl ⟨SqL.of e8, ?_⟩⟩
  revert t8 e8
  show Same H (upd (upd H6 p7 (.lst [V.bl (decide (C = g.c_Refused))])) c (.lst ((kindsL g).map fun D => V.bl (decide (C = D))))) → _ → lcGo (Ite K c) (gTup K 2 (gCons (gName 2) (gCons (gName 3) gNil))) (zTru K (zVar 3)) (zVar 2) [2, 3] [some (.ref e), some (.ref c5), none, none] (upd (upd H6 p7 (.lst [V.bl (decide (C = g.c_Refused))])) c (.lst ((kindsL g).map fun D => V.bl (decide (C = D))))) Q
  generalize (upd (upd H6 p7 (.lst [V.bl (decide (C = g.c_Refused))])) c (.lst ((kindsL g).map fun D => V.bl (decide (C = D))))) = H8
  intro t8 e8
  have kl : k < 20 := (List.getElem?_eq_some_iff.mp hk).1
  refine lc_z (n := 20) (walk_enum (xs := (kindsL g).map fun D => V.bl (decide (C = D)))) (fun D i H' => But D H8 H' ∧ H' D = some (.lst (if k < i then [.int k] else [])) ∧ D ≠ c) (fun D hD => ⟨But.same (Same.put hD), upd_same, ne_of_none e8 hD |>.symm⟩)
    (fun D i H' hD hi hh => SqL.of (hh.1 _ _ e8 hh.2.2.symm)) (fun D i x H' H'' hD hi hh y => ?_) (fun D H' hD hh => ?_)
  · obtain ⟨b1, b2, b3⟩ := hh
    obtain ⟨T1, x1, x2, rfl, hT, rfl, f1, f2⟩ := y
    cases f1
    have hi2 : i < (kindsL g).length := hi
    have f2 : ((kindsL g).map fun D => V.bl (decide (C = D)))[i]? = some x2 := f2
    rw [List.getElem?_map, List.getElem?_eq_getElem hi2] at f2
    have f3 : x2 = V.bl (decide (i = k)) := by
      rw [← same_kind T.nd (List.getElem?_eq_getElem hi2) hk]
      exact (Option.some.inj f2).symm
    subst f3
    have s9 := Same.put (o := .tup [V.int (i : Nat), V.bl (decide (i = k))]) hT
    have b4 := s9 _ _ b2
    refine ⟨T1, _, rfl, SqT.of upd_same, rfl, _, _, rfl, _, _, rfl, rfl, rfl, zite (fun h => ?_) (fun h => ?_)⟩
    · have h' : i = k := of_decide_eq_true h
      subst h'
      refine ⟨_, b4, ?_, ?_⟩
      · rw [if_neg (by omega)]
        decide
      · refine ⟨fun b o eo nb => ?_, ?_, b3⟩
        · rw [upd_ne nb]
          exact s9 _ _ (b1 _ _ eo nb)
        · rw [upd_same, if_neg (by omega), if_pos (by omega)]
          rfl
    · have h' : i ≠ k := of_decide_eq_false h
      refine ⟨b1.trans (But.same s9), ?_, b3⟩
      rw [b4]
      by_cases hlt : k < i
      · rw [if_pos hlt, if_pos (by omega)]
      · rw [if_neg hlt, if_neg (by omega)]
  · obtain ⟨b1, b2, b3⟩ := hh
    refine q D H' (fun b o eo => b1 _ _ (t8 _ _ eo) fun z => ?_) (by rw [b2, if_pos kl])
    have := t8 _ _ eo
    rw [z, hD] at this
    cases this
theorem ok_law_kinds {P : Program} {w : World} {K : PySem.W.Frag} {mg : Str → Option Value} {base : Heap} {g : Ads} (T : Txt K mg g) : FnZ P w K mg base 1 g.f_law_kinds g.d_law_kinds ["e"] (sp_law_kinds K g) := (raw_law_kinds T).imp (pf_law_kinds T)
def five : List String := ["ValueError", "LookupError", "RuntimeError", "OverflowError", "TypeError"]
def sp_law_above (K : PySem.W.Frag) (g : Ads) : Sp := fun vs H Q E => ∃ (C e : Addr) (fs : List (Str × V)) (b : String), vs = [.ref e] ∧ KindOk K C b ∧ ExO H e C fs ∧
  ∀ l H', Same H H' → H' l = some (.lst (five.map fun t => V.bl (decide (t ∈ above b)))) → Q (.ref l) H'
theorem pf_law_above {K : PySem.W.Frag} {g : Ads} (vs : List V) (H : Hp) (Q : VK) (E : XK) (h : sp_law_above K g vs H Q E) : rw_law_above K g vs H Q E := by
  obtain ⟨C, e, fs, b, rfl, ko, hE, q⟩ := h
  have mt := ko.mt
  have xt := ko.xt
  refine ⟨rfl, e, C, fs, .ty "ValueError", .type "ValueError", _, rfl, hE, xt, .ty _, kit_bt (by decide +kernel) mt.type, e, C, fs, .ty "LookupError", .type "LookupError", _, rfl, hE, xt, .ty _, kit_bt (by decide +kernel) mt.type,
    e, C, fs, .ty "RuntimeError", .type "RuntimeError", _, rfl, hE, xt, .ty _, kit_bt (by decide +kernel) mt.type, ⟨show 3 ≤ sizeLine by decide, fun p hp => ?_⟩⟩
  have s1 := Same.put (o := .lst [V.bl (decide ("ValueError" ∈ above b)), .bl (decide ("LookupError" ∈ above b)), .bl (decide ("RuntimeError" ∈ above b))]) hp
  have hE1 := hE.same s1
  refine ⟨e, C, fs, .ty "OverflowError", .type "OverflowError", _, rfl, hE1, xt, .ty _, kit_bt (by decide +kernel) mt.type, e, C, fs, .ty "TypeError", .type "TypeError", _, rfl, hE1, xt, .ty _, kit_bt (by decide +kernel) mt.type, ⟨show 2 ≤ sizeLine by decide, fun m hm => ?_⟩⟩
  have s2 := Same.put (o := .lst [V.bl (decide ("OverflowError" ∈ above b)), .bl (decide ("TypeError" ∈ above b))]) hm
  refine ⟨_, _, s2 _ _ upd_same, upd_same, (show 3 + 2 ≤ sizeLine by decide), fun c hc => ?_⟩
  exact q c _ ((s1.trans s2).trans (Same.put hc)) upd_same
theorem ok_law_above {P : Program} {w : World} {K : PySem.W.Frag} {mg : Str → Option Value} {base : Heap} {g : Ads} (T : Txt K mg g) : FnZ P w K mg base 1 g.f_law_above g.d_law_above ["e"] (sp_law_above K g) := (raw_law_above T).imp pf_law_above
end Z
namespace Z
open PySem PySem.Spec PyProof.Rows L2
theorem sc_law : FnScope ["script", "turn", "deck", "k", "one", "two", "e", "other", "above", "things", "wrong", "stop", "at"] ["script"] (defScope s_law) := ⟨rfl, rfl, rfl, by decide +kernel, rfl, by decide +kernel, by decide +kernel⟩
def R_law_11 (K : PySem.W.Frag) (g : Ads) (E : XK) : TS :=
  (tIfS (tOr (zTest (tOp (zNe K) (zCall (sp_law_kinds K g) [] (WE (fun cls d _ H => E cls d H)) (tCons (zVar 6) tNil)) (tLst (tCons (zVar 3) tNil)))) (zTest (tOp (zNe K) (zCall (sp_law_above K g) [] (WE (fun cls d _ H => E cls d H)) (tCons (zVar 6) tNil)) (zLc (iRng1 (tCons (tC (.int 5)) tNil)) (gName 12) tYes (tOp (zEq K) (zVar 12) (zVar 8)) [12]))))
  (tRet (tC (.bl false)))
  tNext)
def R_law_10 (K : PySem.W.Frag) (g : Ads) (E : XK) : TS :=
  (tSeq (tAsg (tIf (zTest (tOp zLt (zVar 3) (tC (.int 13)))) (tC (.int 0)) (tIf (zTest (tOp zLt (zVar 3) (tC (.int 16)))) (tC (.int 1)) (tIf (zTest (tOp (zEq K) (zVar 3) (tC (.int 16)))) (tC (.int 2)) (tC (.int 3))))) (gName 8))
  (R_law_11 K g E))
def R_law_8 (K : PySem.W.Frag) (g : Ads) (E : XK) : TS :=
  (tSeq (tIfS (tOr (zTest (tOp (zNe K) (tCB (zRepr K) (tCons (zCall (sp_law_has K g) [] (WE (fun cls d _ H => E cls d H)) (tCons (zVar 3) (tCons (zCall (sp_law_made_by_name K g) [] (WE (fun cls d _ H => E cls d H)) (tCons (zVar 3) (tCons (zVar 5) tNil))) tNil))) tNil)) (tCB (zRepr K) (tCons (zVar 5) tNil)))) (tNot (zTru K (zCall (sp_law_is_checked K g) [] (WE (fun cls d _ H => E cls d H)) (tCons (zVar 4) tNil)))))
  (tRet (tC (.bl false)))
  tNext)
  (R_law_10 K g E))
def R_law_6 (K : PySem.W.Frag) (g : Ads) (E : XK) : TS :=
  (tSeq (tIfS (tOr (zTest (tOp (zNe K) (tCB (zRepr K) (tCons (zCall (sp_law_has K g) [] (WE (fun cls d _ H => E cls d H)) (tCons (zVar 3) (tCons (zVar 6) tNil))) tNil)) (tCB (zRepr K) (tCons (zVar 4) tNil)))) (zTest (tOp (zNe K) (tCB (zRepr K) (tCons (zCall (sp_law_has K g) [] (WE (fun cls d _ H => E cls d H)) (tCons (zVar 3) (tCons (zVar 7) tNil))) tNil)) (tCB (zRepr K) (tCons (zVar 5) tNil)))))
  (tRet (tC (.bl false)))
  tNext)
  (R_law_8 K g E))
def R_law_5 (K : PySem.W.Frag) (g : Ads) (E : XK) : TS :=
  (tSeq (tPar 6 7 (tCons (zCall (sp_law_made K g) [] (WE (fun cls d _ H => E cls d H)) (tCons (zVar 3) (tCons (zVar 4) tNil))) (tCons (zCall (sp_law_made K g) [] (WE (fun cls d _ H => E cls d H)) (tCons (zVar 3) (tCons (zVar 5) tNil))) tNil)))
  (R_law_6 K g E))
def R_law_4 (K : PySem.W.Frag) (g : Ads) (E : XK) : TS :=
  (tSeq (tPar 4 5 (tCons (zCall (sp_law_thing K g) [] (WE (fun cls d _ H => E cls d H)) (tCons (zVar 2) tNil)) (tCons (zCall (sp_law_thing K g) [] (WE (fun cls d _ H => E cls d H)) (tCons (zVar 2) tNil)) tNil)))
  (R_law_5 K g E))
def R_law_19 (K : PySem.W.Frag) (g : Ads) (E : XK) : TS :=
  (tIfS (tOr (zTest (tOp (zNe K) (zCall (sp_law_kinds K g) [] (WE (fun cls d _ H => E cls d H)) (tCons (zVar 11) tNil)) (tLst (tCons (tC (.int 19)) tNil)))) (zTest (tOp (zNe K) (zCall (sp_law_above K g) [] (WE (fun cls d _ H => E cls d H)) (tCons (zVar 11) tNil)) (tLst (tCons (tC (.bl false)) (tCons (tC (.bl false)) (tCons (tC (.bl true)) (tCons (tC (.bl false)) (tCons (tC (.bl false)) tNil)))))))))
  (tRet (tC (.bl false)))
  tNext)
def R_law_17 (K : PySem.W.Frag) (g : Ads) (E : XK) : TS :=
  (tSeq (tIfS (tOr (zTest (tOp (zNe K) (zCall (sp_law_kinds K g) [] (WE (fun cls d _ H => E cls d H)) (tCons (zVar 10) tNil)) (tLst (tCons (tC (.int 18)) tNil)))) (zTest (tOp (zNe K) (zCall (sp_law_above K g) [] (WE (fun cls d _ H => E cls d H)) (tCons (zVar 10) tNil)) (tLst (tCons (tC (.bl true)) (tCons (tC (.bl false)) (tCons (tC (.bl false)) (tCons (tC (.bl false)) (tCons (tC (.bl false)) tNil)))))))))
  (tRet (tC (.bl false)))
  tNext)
  (R_law_19 K g E))
def R_law_15 (K : PySem.W.Frag) (g : Ads) (E : XK) : TS :=
  (tSeq (tIfS (zTest (tOp (zNe K) (tCB (rReprL K) (tCons (tLst (tCons (tXo K "handler" (zVar 10)) (tCons (tXo K "number" (zVar 10)) (tCons (tXo K "name" (zVar 10)) (tCons (tXo K "target" (zVar 11)) (tCons (tXo K "number" (zVar 11)) tNil)))))) tNil)) (tCB (rReprL K) (tCons (zVar 9) tNil))))
  (tRet (tC (.bl false)))
  tNext)
  (R_law_17 K g E))
def R_law_14 (K : PySem.W.Frag) (g : Ads) (E : XK) : TS :=
  (tSeq (tPar 10 11 (tCons (tXmk g.c_Misplaced (sp_Misplaced_init K g) (tCons (tOp (zIx K) (zVar 9) (tC (.int 0))) (tCons (tOp (zIx K) (zVar 9) (tC (.int 1))) (tCons (tOp (zIx K) (zVar 9) (tC (.int 2))) tNil)))) (tCons (tXmk g.c_Refused (sp_Refused_init K g) (tCons (tOp (zIx K) (zVar 9) (tC (.int 3))) (tCons (tOp (zIx K) (zVar 9) (tC (.int 4))) tNil))) tNil)))
  (R_law_15 K g E))
def R_law_13 (K : PySem.W.Frag) (g : Ads) (E : XK) : TS :=
  (tSeq (tAsg (zLc (iRng1 (tCons (tC (.int 5)) tNil)) (gName 3) tYes (zCall (sp_law_thing K g) [] (fun _ => E0) (tCons (zVar 2) tNil)) [3]) (gName 9))
  (R_law_14 K g E))
def R_law_3 (K : PySem.W.Frag) (g : Ads) (E : XK) : TS :=
  (tSeq (zFor (iRng1 (tCons (tC (.int 18)) tNil)) (gName 3)
  (R_law_4 K g E))
  (R_law_13 K g E))
def R_law_2 (K : PySem.W.Frag) (g : Ads) (E : XK) : TS :=
  (tSeq (tAsg (zCall (sp_law_deck K g) [] (WE (fun cls d _ H => E cls d H)) (tCons (zVar 0) (tCons (zVar 1) tNil))) (gName 2))
  (R_law_3 K g E))
def R_law_21 (K : PySem.W.Frag) (g : Ads) (E : XK) : TS :=
  (tRet (zAndV (tOp (zEq K) (tXo K "handler" (tXmkK g.c_Misplaced (sp_Misplaced_init K g) 3 (fun us ws => us ++ (fun zs => [zs.getD 1 .non, zs.getD 2 .non, zs.getD 0 .non]) ws) (tCons (tC (.int 1)) (tCons (tC (.int 2)) (tCons (tC (.int 3)) tNil))))) (tC (.int 2))) (tOp zIs (tXo K "target" (tXmkK g.c_Refused (sp_Refused_init K g) 2 (fun us ws => us ++ (fun zs => [zs.getD 1 .non, zs.getD 0 .non]) ws) (tCons (tC (.int 1)) (tCons (tC .non) tNil)))) (tC .non))))
def R_law (K : PySem.W.Frag) (g : Ads) (E : XK) : TS :=
  (tSeq (zFor (iRng1 (tCons (tCB rMx2 (tCons (tC (.int 1)) (tCons (tCB rMn2 (tCons (tC (.int 4)) (tCons (tCB (zLen K) (tCons (zVar 0) tNil)) tNil))) tNil))) tNil)) (gName 1)
  (R_law_2 K g E))
  (R_law_21 K g E))
def rw_law (K : PySem.W.Frag) (g : Ads) : Sp := fun vs H Q E => vs.length = 1 ∧ R_law K g E { nx := fun _ H' => Q .non H', rt := Q } (start ["script", "turn", "deck", "k", "one", "two", "e", "other", "above", "things", "wrong", "stop", "at"] vs) H
theorem raw_law {P : Program} {w : World} {K : PySem.W.Frag} {mg : Str → Option Value} {base : Heap} {g : Ads} (T : Txt K mg g) : FnG true P w K mg base 5 g.f_law g.d_law ["script"] (rw_law K g) := by
  refine okZ T.f_law sc_law (fun vs H Q E h => h.1) (fun cdv A outer s H vs Q E hr hgu h => ⟨R_law K g E, ?_, h.2⟩)
  exact (pss_cons (psz_for PassesOwn.leaving rfl (pi_range1 rfl T.b_range (pa_cons (pe_callB (call_mx2 rfl) (by rfl) T.b_max (by decide +kernel) (pa_cons pe_int (pa_cons (pe_callB (call_mn2 rfl) (by rfl) T.b_min (by decide +kernel) (pa_cons pe_int (pa_cons (pe_callB call_lenZ (by rfl) T.b_len (by decide +kernel) (pa_cons (zv 0) pa_nil)) pa_nil))) pa_nil))) pa_nil)) (pg_name (i := 1) sc_law.nd rfl (Or.inl rfl))
  (pss_cons (ps_set (i := 2) sc_law.nd rfl (Or.inr rfl) (pe_callZ (ok_law_deck T) (hr.mono (by decide)) hgu rfl T.g_law_deck T.k_law_deck T.e_law_deck .nil (fun σ => passAt (takes_of rfl rfl rfl rfl) σ) (pa_cons (zv 0) (pa_cons (zv 1) pa_nil))))
  (pss_cons (psz_for PassesOwn.leaving rfl (pi_range1 rfl T.b_range (pa_cons pe_int pa_nil)) (pg_name (i := 3) sc_law.nd rfl (Or.inl rfl))
  (pss_cons (ps_par (i := 4) (j := 5) (by rfl) sc_law.nd rfl rfl (by decide) rfl rfl (pa_cons (pe_callZ (ok_law_thing T) (hr.mono (by decide)) hgu rfl T.g_law_thing T.k_law_thing T.e_law_thing .nil (fun σ => passAt (takes_of rfl rfl rfl rfl) σ) (pa_cons (zv 2) pa_nil)) (pa_cons (pe_callZ (ok_law_thing T) (hr.mono (by decide)) hgu rfl T.g_law_thing T.k_law_thing T.e_law_thing .nil (fun σ => passAt (takes_of rfl rfl rfl rfl) σ) (pa_cons (zv 2) pa_nil)) pa_nil)) (by rfl))
  (pss_cons (ps_par (i := 6) (j := 7) (by rfl) sc_law.nd rfl rfl (by decide) rfl rfl (pa_cons (pe_callZ (ok_law_made T) (hr.mono (by decide)) hgu rfl T.g_law_made T.k_law_made T.e_law_made .nil (fun σ => passAt (takes_of rfl rfl rfl rfl) σ) (pa_cons (zv 3) (pa_cons (zv 4) pa_nil))) (pa_cons (pe_callZ (ok_law_made T) (hr.mono (by decide)) hgu rfl T.g_law_made T.k_law_made T.e_law_made .nil (fun σ => passAt (takes_of rfl rfl rfl rfl) σ) (pa_cons (zv 3) (pa_cons (zv 5) pa_nil))) pa_nil)) (by rfl))
  (pss_cons (ps_if (PW.pt (pw_or (ptz_cmp (op_zNe hr.units) (pe_callB (call_reprZ (hgu rfl) hr.units) (by rfl) T.b_repr (by decide +kernel) (pa_cons (pe_callZ (ok_law_has T) (hr.mono (by decide)) hgu rfl T.g_law_has T.k_law_has T.e_law_has .nil (fun σ => passAt (takes_of rfl rfl rfl rfl) σ) (pa_cons (zv 3) (pa_cons (zv 6) pa_nil))) pa_nil)) (pe_callB (call_reprZ (hgu rfl) hr.units) (by rfl) T.b_repr (by decide +kernel) (pa_cons (zv 4) pa_nil)) (nomark _)) (pw_or1 (ptz_cmp (op_zNe hr.units) (pe_callB (call_reprZ (hgu rfl) hr.units) (by rfl) T.b_repr (by decide +kernel) (pa_cons (pe_callZ (ok_law_has T) (hr.mono (by decide)) hgu rfl T.g_law_has T.k_law_has T.e_law_has .nil (fun σ => passAt (takes_of rfl rfl rfl rfl) σ) (pa_cons (zv 3) (pa_cons (zv 7) pa_nil))) pa_nil)) (pe_callB (call_reprZ (hgu rfl) hr.units) (by rfl) T.b_repr (by decide +kernel) (pa_cons (zv 5) pa_nil)) (nomark _)))))
  (pss_one (ps_ret pe_bl))
  pss_nil)
  (pss_cons (ps_if (PW.pt (pw_or (ptz_cmp (op_zNe hr.units) (pe_callB (call_reprZ (hgu rfl) hr.units) (by rfl) T.b_repr (by decide +kernel) (pa_cons (pe_callZ (ok_law_has T) (hr.mono (by decide)) hgu rfl T.g_law_has T.k_law_has T.e_law_has .nil (fun σ => passAt (takes_of rfl rfl rfl rfl) σ) (pa_cons (zv 3) (pa_cons (pe_callZ (ok_law_made_by_name T) (hr.mono (by decide)) hgu rfl T.g_law_made_by_name T.k_law_made_by_name T.e_law_made_by_name .nil (fun σ => passAt (takes_of rfl rfl rfl rfl) σ) (pa_cons (zv 3) (pa_cons (zv 5) pa_nil))) pa_nil))) pa_nil)) (pe_callB (call_reprZ (hgu rfl) hr.units) (by rfl) T.b_repr (by decide +kernel) (pa_cons (zv 5) pa_nil)) (nomark _)) (pw_or1 (pt_not (ptz_truth (pe_callZ (ok_law_is_checked T) (hr.mono (by decide)) hgu rfl T.g_law_is_checked T.k_law_is_checked T.e_law_is_checked .nil (fun σ => passAt (takes_of rfl rfl rfl rfl) σ) (pa_cons (zv 4) pa_nil)) (by intro _; rfl))))))
  (pss_one (ps_ret pe_bl))
  pss_nil)
  (pss_cons (ps_set (i := 8) sc_law.nd rfl (Or.inr rfl) (pe_ifExp (ptz_cmp op_zLt (zv 3) pe_int (nomark _)) pe_int (pe_ifExp (ptz_cmp op_zLt (zv 3) pe_int (nomark _)) pe_int (pe_ifExp (ptz_cmp (op_zEq hr.units) (zv 3) pe_int (nomark _)) pe_int pe_int))))
  (pss_one (ps_if (PW.pt (pw_or (ptz_cmp (op_zNe hr.units) (pe_callZ (ok_law_kinds T) (hr.mono (by decide)) hgu rfl T.g_law_kinds T.k_law_kinds T.e_law_kinds .nil (fun σ => passAt (takes_of rfl rfl rfl rfl) σ) (pa_cons (zv 6) pa_nil)) (pe_lst (pa_cons (zv 3) pa_nil)) (nomark _)) (pw_or1 (ptz_cmp (op_zNe hr.units) (pe_callZ (ok_law_above T) (hr.mono (by decide)) hgu rfl T.g_law_above T.k_law_above T.e_law_above .nil (fun σ => passAt (takes_of rfl rfl rfl rfl) σ) (pa_cons (zv 6) pa_nil)) (pez_lc (own := [("at", 12)]) rfl sc_law.nd (pi_range1 rfl T.b_range (pa_cons pe_int pa_nil)) (blkOk_by (own := [("at", 12)]) (N := ["script", "turn", "deck", "k", "one", "two", "e", "other", "above", "things", "wrong", "stop", "at"]) (sc := defScope s_law) (by decide +kernel)) (fun _ _ _ _ _ => pg_name (i := 12) sc_law.nd rfl (Or.inl rfl)) (fun _ _ _ _ _ => pts_nil) (fun _ _ _ _ _ => (pe_cmpR (op_zEq hr.units) (zv 12) (zv 8) (nomark _)))) (nomark _)))))
  (pss_one (ps_ret pe_bl))
  pss_nil))))))))
  (pss_cons (psz_setLc (i := 9) (own := [("k", 3)]) rfl sc_law.nd rfl rfl (sw_true rfl rfl rfl (by decide +kernel)) (pi_range1 rfl T.b_range (pa_cons pe_int pa_nil)) (blkOk_by (own := [("k", 3)]) (N := ["script", "turn", "deck", "k", "one", "two", "e", "other", "above", "things", "wrong", "stop", "at"]) (sc := defScope s_law) (by decide +kernel)) (fun _ _ _ _ _ => pg_name (i := 3) sc_law.nd rfl (Or.inl rfl)) (fun _ _ _ _ _ => pts_nil) (fun _ _ _ _ _ => (pe_callZ (ok_law_thing T) (hr.mono (by decide)) hgu rfl T.g_law_thing T.k_law_thing T.e_law_thing .nil passE0 (pa_cons (zv 2) pa_nil))))
  (pss_cons (ps_par (i := 10) (j := 11) (by rfl) sc_law.nd rfl rfl (by decide) rfl rfl (pa_cons (pe_xmk T.o_Misplaced T.i_Misplaced T.t_Misplaced (ok_Misplaced_init T) (hr.mono (by decide)) hgu T.e_Misplaced_init rfl T.g_Misplaced (pa_cons (pe_ix ix_z (zv 9) pe_int (fun _ _ => rfl)) (pa_cons (pe_ix ix_z (zv 9) pe_int (fun _ _ => rfl)) (pa_cons (pe_ix ix_z (zv 9) pe_int (fun _ _ => rfl)) pa_nil)))) (pa_cons (pe_xmk T.o_Refused T.i_Refused T.t_Refused (ok_Refused_init T) (hr.mono (by decide)) hgu T.e_Refused_init rfl T.g_Refused (pa_cons (pe_ix ix_z (zv 9) pe_int (fun _ _ => rfl)) (pa_cons (pe_ix ix_z (zv 9) pe_int (fun _ _ => rfl)) pa_nil))) pa_nil)) (by rfl))
  (pss_cons (ps_if (ptz_cmp (op_zNe hr.units) (pe_callB (call_reprL (hgu rfl) hr.units) (by rfl) T.b_repr (by decide +kernel) (pa_cons (pe_lst (pa_cons (pe_xo (zv 10)) (pa_cons (pe_xo (zv 10)) (pa_cons (pe_xo (zv 10)) (pa_cons (pe_xo (zv 11)) (pa_cons (pe_xo (zv 11)) pa_nil)))))) pa_nil)) (pe_callB (call_reprL (hgu rfl) hr.units) (by rfl) T.b_repr (by decide +kernel) (pa_cons (zv 9) pa_nil)) (nomark _))
  (pss_one (ps_ret pe_bl))
  pss_nil)
  (pss_cons (ps_if (PW.pt (pw_or (ptz_cmp (op_zNe hr.units) (pe_callZ (ok_law_kinds T) (hr.mono (by decide)) hgu rfl T.g_law_kinds T.k_law_kinds T.e_law_kinds .nil (fun σ => passAt (takes_of rfl rfl rfl rfl) σ) (pa_cons (zv 10) pa_nil)) (pe_lst (pa_cons pe_int pa_nil)) (nomark _)) (pw_or1 (ptz_cmp (op_zNe hr.units) (pe_callZ (ok_law_above T) (hr.mono (by decide)) hgu rfl T.g_law_above T.k_law_above T.e_law_above .nil (fun σ => passAt (takes_of rfl rfl rfl rfl) σ) (pa_cons (zv 10) pa_nil)) (pe_lst (pa_cons pe_bl (pa_cons pe_bl (pa_cons pe_bl (pa_cons pe_bl (pa_cons pe_bl pa_nil)))))) (nomark _)))))
  (pss_one (ps_ret pe_bl))
  pss_nil)
  (pss_one (ps_if (PW.pt (pw_or (ptz_cmp (op_zNe hr.units) (pe_callZ (ok_law_kinds T) (hr.mono (by decide)) hgu rfl T.g_law_kinds T.k_law_kinds T.e_law_kinds .nil (fun σ => passAt (takes_of rfl rfl rfl rfl) σ) (pa_cons (zv 11) pa_nil)) (pe_lst (pa_cons pe_int pa_nil)) (nomark _)) (pw_or1 (ptz_cmp (op_zNe hr.units) (pe_callZ (ok_law_above T) (hr.mono (by decide)) hgu rfl T.g_law_above T.k_law_above T.e_law_above .nil (fun σ => passAt (takes_of rfl rfl rfl rfl) σ) (pa_cons (zv 11) pa_nil)) (pe_lst (pa_cons pe_bl (pa_cons pe_bl (pa_cons pe_bl (pa_cons pe_bl (pa_cons pe_bl pa_nil)))))) (nomark _)))))
  (pss_one (ps_ret pe_bl))
  pss_nil)))))))))
  (pss_one (ps_ret (pez_and (pe_cmpR (op_zEq hr.units) (pe_xo (pe_xmkK (ks := ["name", "handler", "number"]) (g := (fun ws => [ws.getD 1 .none, ws.getD 2 .none, ws.getD 0 .none])) (gV := (fun zs => [zs.getD 1 .non, zs.getD 2 .non, zs.getD 0 .non])) T.o_Misplaced T.i_Misplaced T.t_Misplaced (ok_Misplaced_init T) (hr.mono (by decide)) hgu T.kb_Misplaced_18 (fun r => (.cons (vals_getD r 1) (.cons (vals_getD r 2) (.cons (vals_getD r 0) .nil)))) rfl T.g_Misplaced (pk_cons pe_int (pk_cons pe_int (pk_cons pe_int pk_nil))))) pe_int (nomark _)) (pe_one (pe_cmpR op_zIs (pe_xo (pe_xmkK (ks := ["number", "target"]) (g := (fun ws => [ws.getD 1 .none, ws.getD 0 .none])) (gV := (fun zs => [zs.getD 1 .non, zs.getD 0 .non])) T.o_Refused T.i_Refused T.t_Refused (ok_Refused_init T) (hr.mono (by decide)) hgu T.kb_Refused_19 (fun r => (.cons (vals_getD r 1) (.cons (vals_getD r 0) .nil))) rfl T.g_Refused (pk_cons pe_int (pk_cons pe_non pk_nil)))) pe_non (nomark _)))))))
end Z
namespace Z
open PySem PySem.Spec PyProof.Rows L2
theorem DeckAt.same2 {H H' : Hp} {p wa : Addr} (d : DeckAt H p wa) (s : Same H H') : DeckAt H' p wa := d.same s
theorem exo_lst {e C : Addr} {d : Option Addr} {xs : List V} : exo e C d ≠ .lst xs := fun z => by
  have z' : HO.ext _ = HO.lst xs := z
  cases z'
theorem exd_lst {e : Addr} {fs : List (Str × V)} {xs : List V} : exd e fs ≠ .lst xs := fun z => by
  have z' : HO.ext _ = HO.lst xs := z
  cases z'
theorem ExO.but {H H' : Hp} {p wa e C : Addr} {fs : List (Str × V)} (h : ExO H e C fs) (d : DeckAt H p wa) (b : But p H H') : ExO H' e C fs := by
  obtain ⟨dd, h1, h2⟩ := h
  obtain ⟨c, m, t, ws, e1, _, _, _⟩ := d
  refine ⟨dd, b _ _ h1 fun z => ?_, b _ _ h2 fun z => ?_⟩
  · rw [z, e1] at h1
    exact exo_lst (Option.some.inj h1).symm
  · rw [z, e1] at h2
    exact exd_lst (Option.some.inj h2).symm
/-- the built-in class above, by its number -/
def abv (k : Nat) : Int := if k < 13 then 0 else if k < 16 then 1 else if k = 16 then 2 else 3
theorem abv_ok : ∀ k : Nat, k < 18 → five.map (fun t => decide (t ∈ above (basesL.getD k ""))) = (List.range 5).map fun (j : Nat) => decide ((j : Int) = abv k) := by decide +kernel
theorem abv_18 : five.map (fun t => decide (t ∈ above (basesL.getD 18 ""))) = [true, false, false, false, false] ∧ five.map (fun t => decide (t ∈ above (basesL.getD 19 ""))) = [false, false, true, false, false] := by decide +kernel
theorem tab_eq : ∀ k : Nat, k < 18 → PyData.eqv (.list (((List.range 5).map fun (j : Nat) => decide ((j : Int) = abv k)).map .bool)) (.list (((List.range 5).map fun (j : Nat) => decide ((j : Int) = abv k)).map .bool)) = true ∧
    SeqAt.shaped (.list (((List.range 5).map fun (j : Nat) => decide ((j : Int) = abv k)).map .bool)) = true := by decide +kernel
theorem dp_bools {K : PySem.W.Frag} {H : Hp} : ∀ bs : List Bool, DpAll K H (bs.map V.bl) (bs.map .bool)
  | [] => .nil
  | b :: r => .cons (.bl b) (dp_bools r)
/-- lists of truths that are alike -/
theorem ne_bools {K : PySem.W.Frag} {H : Hp} {a b : Addr} {bs : List Bool} {Q : VK} (h1 : SqL K H a (bs.map V.bl)) (h2 : SqL K H b (bs.map V.bl)) (e : PyData.eqv (.list (bs.map .bool)) (.list (bs.map .bool)) = true) (sh : SeqAt.shaped (.list (bs.map .bool)) = true) (q : Q (.bl false) H) :
    zNe K (.ref a) (.ref b) H Q := by
  refine .inr ⟨.list (bs.map .bool), .list (bs.map .bool), .lst h1 (dp_bools bs), .lst h2 (dp_bools bs), sh, sh, ?_⟩
  rw [e]
  exact q
theorem one_eqv (i : Int) : PyData.eqv (.list [.int i]) (.list [.int i]) = true := by simp [PyData.eqv, PyData.eqvAll]
theorem ne_one {K : PySem.W.Frag} {H : Hp} {a b : Addr} {i : Int} {Q : VK} (h1 : SqL K H a [.int i]) (h2 : SqL K H b [.int i]) (q : Q (.bl false) H) : zNe K (.ref a) (.ref b) H Q := by
  refine .inr ⟨.list [.int i], .list [.int i], .lst h1 (.cons (.int _) .nil), .lst h2 (.cons (.int _) .nil), rfl, rfl, ?_⟩
  have e : PyData.eqv (.list [.int i]) (.list [.int i]) = true := by simp [PyData.eqv, PyData.eqvAll]
  rw [e]
  exact q
theorem ne_str {K : PySem.W.Frag} {H : Hp} {z : Str} {Q : VK} (q : Q (.bl false) H) : zNe K (.str z) (.str z) H Q := by
  refine .inl ⟨rfl, ?_⟩
  rw [show decide (V.str z = V.str z) = true from decide_eq_true rfl]
  exact q
theorem Thing.dl {K : PySem.W.Frag} {H : Hp} {v : V} {d : PyData} (t : Thing K H v d) : d.depth ≤ 32 := Nat.le_trans t.fx.dp (by decide)
theorem Thing.rp {K : PySem.W.Frag} {H : Hp} {v : V} {d : PyData} {Q : VK} (t : Thing K H v d) (q : Q (.str d.shown) H) : zRepr K [v] H Q := ⟨v, d, rfl, t.dp, t.fx.sh, Nat.le_trans t.fx.dp (by decide), t.fx.le, q⟩
theorem kinds_get {g : Ads} {k : Nat} {C : Addr} {f : Str} (h : (clsL g)[k]? = some (C, f)) : k < 18 ∧ (kindsL g)[k]? = some C := by
  have e : (kindsL g).take 18 = (clsL g).map (·.1) := rfl
  have hl : k < 18 := (List.getElem?_eq_some_iff.mp h).1
  refine ⟨hl, ?_⟩
  have e2 : ((kindsL g).take 18)[k]? = some C := by
    rw [e, List.getElem?_map, h]
    rfl
  rw [List.getElem?_take_of_lt hl] at e2
  exact e2
theorem paired_two {α β : Type} {R : α → β → Prop} : ∀ {xs : List α} {ys : List β}, Paired R xs ys → ∀ {j : Nat} {x : α}, xs[j]? = some x → ∃ y, ys[j]? = some y ∧ R x y
  | _, _, .nil, j, x, h => by simp at h
  | _, _, .cons r t, 0, x, h => by
    cases h
    exact ⟨_, rfl, r⟩
  | _, _, .cons r t, j + 1, x, h => paired_two t (j := j) (by simpa using h)
theorem kind_at {K : PySem.W.Frag} {mg : Str → Option Value} {g : Ads} (T : Txt K mg g) {k : Nat} {C : Addr} (h : (kindsL g)[k]? = some C) : KindOk K C (basesL.getD k "") := by
  obtain ⟨b, h1, h2⟩ := paired_two (kind_ok T) h
  rw [List.getD_eq_getElem?_getD, h1]
  exact h2
theorem in_step {K : PySem.W.Frag} {mg : Str → Option Value} {g : Ads} (T : Txt K mg g) {E : XK} {D : Ends} {a p wa : Addr} {v1 v4 v5 v6 v7 v8 v9 v10 v11 v12 : Option V} {H : Hp} (dk : DeckAt H p wa) {i : Nat} (hi : i < 18)
    (fin : ∀ H' v4 v5 v6 v7 v8 v9 v10 v11 v12, DeckAt H' p wa → But p H H' → D.nx [some (.ref a), v1, some (.ref p), some (.int i), v4, v5, v6, v7, v8, v9, v10, v11, v12] H') :
    R_law_4 K g E D [some (.ref a), v1, some (.ref p), some (.int i), v4, v5, v6, v7, v8, v9, v10, v11, v12] H := by
  obtain ⟨C, f, hk⟩ : ∃ C f, (clsL g)[i]? = some (C, f) := by
    have : i < (clsL g).length := hi
    exact ⟨_, _, List.getElem?_eq_getElem this⟩
  obtain ⟨_, hk2⟩ := kinds_get hk
  have ko := kind_at T hk2
  have ps : ∀ {H : Hp}, DeckAt H p wa → ∀ s ∈ [p], H s ≠ none := fun d s hs => by
    obtain rfl : s = p := by simpa using hs
    obtain ⟨o, ho⟩ := d.some
    rw [ho]
    simp
  refine ⟨p, wa, rfl, dk, fun one d1 H1 th1 dk1 b1 => ⟨p, wa, rfl, dk1, fun two d2 H2 th2 dk2 b2 => ⟨_, _, rfl, ?_⟩⟩⟩
  have u1 : ThS K [p] H2 one d1 := (th1.hid (ps dk)).but b2
  have u2 : ThS K [p] H2 two d2 := th2.hid (ps dk1)
  have bb := b1.trans b2
  -- made
  refine ⟨i, one, C, f, rfl, hk, fun e H3 s3 x3 => ⟨i, two, C, f, rfl, hk, fun o H4 s4 x4 => ⟨_, _, rfl, ?_⟩⟩⟩
  have t1 : Thing K H4 one d1 := (u1.th).same (s3.trans s4)
  have t2 : Thing K H4 two d2 := (u2.th).same (s3.trans s4)
  have x3 := x3.same s4
  have dk4 := (dk2.same s3).same s4
  have bb4 := bb.trans (But.same (s3.trans s4))
  -- has
  refine ⟨i, one, C, e, f, rfl, hk, x3, fun H5 s5 => ⟨one, d1, rfl, (t1.same s5).dp, t1.fx.sh, t1.dl, t1.fx.le, one, d1, rfl, (t1.same s5).dp, t1.fx.sh, t1.dl, t1.fx.le, .inl ⟨rfl, zite (fun h => absurd h (by simp)) fun _ => ?_⟩⟩⟩
  refine ⟨i, two, C, o, f, rfl, hk, x4.same s5, fun H6 s6 => ⟨two, d2, rfl, ((t2.same s5).same s6).dp, t2.fx.sh, t2.dl, t2.fx.le, two, d2, rfl, ((t2.same s5).same s6).dp, t2.fx.sh, t2.dl, t2.fx.le, .inl ⟨rfl, zite (fun h => absurd h (by simp)) fun _ => ?_⟩⟩⟩
  have s56 := s5.trans s6
  -- by name
  refine ⟨i, two, C, f, rfl, hk, fun e7 H7 s7 x7 => ⟨i, two, C, e7, f, rfl, hk, x7, fun H8 s8 => ?_⟩⟩
  have s8' := (s56.trans s7).trans s8
  refine ⟨two, d2, rfl, (t2.same s8').dp, t2.fx.sh, t2.dl, t2.fx.le, two, d2, rfl, (t2.same s8').dp, t2.fx.sh, t2.dl, t2.fx.le, .inl ⟨rfl, zite (fun h => absurd h (by simp)) fun _ => ?_⟩⟩
  refine ⟨one, d1, rfl, t1.same s8', fun H9 s9 => ?_⟩
  have s9' := s8'.trans s9
  refine zite (fun h => absurd h (by decide)) fun _ => ?_
  -- which one is above
  have x9 := x3.same s9'
  have dk9 := dk4.same s9'
  have bb9 := bb4.trans (But.same s9')
  have go : ∀ ab : Int, ab = abv i → R_law_11 K g E D [some (.ref a), v1, some (.ref p), some (.int i), some one, some two, some (.ref e), some (.ref o), some (.int ab), v9, v10, v11, v12] H9 := by
    rintro ab rfl
    refine ⟨i, C, e, _, rfl, hk2, x9, fun l H10 s10' el => ⟨show 1 ≤ sizeLine by decide, fun m hm => ?_⟩⟩
    have s11' := Same.put (o := .lst [V.int (i : Nat)]) hm
    refine .inr ⟨.list [.int i], .list [.int i], .lst (SqL.of (s11' _ _ el)) (.cons (.int _) .nil), .lst (SqL.of upd_same) (.cons (.int _) .nil), rfl, rfl, ?_⟩
    rw [one_eqv]
    refine zite (fun h => absurd h (by decide)) fun _ => ?_
    have z11 := s10'.trans s11'
    refine ⟨C, e, _, _, rfl, ko, x9.same z11, fun l2 H12 s12' el2 => ?_⟩
    have z12 := z11.trans s12'
    rw [show (five.map fun t => V.bl (decide (t ∈ above (basesL.getD i "")))) = ((List.range 5).map fun (j : Nat) => decide ((j : Int) = abv i)).map V.bl by rw [← abv_ok i hi, List.map_map]; rfl] at el2
    refine ⟨5, rfl, by decide, by decide, lc_map (walk_range (lo := 0) (n := 5)) (fun j => .bl (decide ((j : Int) = abv i))) (by decide) (fun _ _ => trivial) (fun j x Ha Hb hj sa yy => ?_) (fun D2 hD2 => ?_)⟩
    · obtain ⟨rfl, rfl⟩ := yy
      refine ⟨rfl, _, fun R r => r, rfl, fun R r => r, fun R r => .inl ⟨rfl, ?_⟩⟩
      show R (V.bl (decide (V.int (0 + (j : Int)) = V.int (abv i)))) _
      rw [Int.zero_add, show decide (V.int (j : Int) = V.int (abv i)) = decide ((j : Int) = abv i) by simp]
      exact r
    · have s13 := Same.put (o := .lst ((List.range 5).map fun (j : Nat) => V.bl (decide ((j : Int) = abv i)))) hD2
      obtain ⟨q1, q2⟩ := tab_eq i hi
      refine .inr ⟨_, _, .lst (SqL.of (s13 _ _ el2)) (dp_bools ((List.range 5).map fun (j : Nat) => decide ((j : Int) = abv i))), .lst (SqL.of (by rw [upd_same, List.map_map]; rfl)) (dp_bools ((List.range 5).map fun (j : Nat) => decide ((j : Int) = abv i))), q2, q2, ?_⟩
      rw [q1]
      refine zite (fun h => absurd h (by decide)) fun _ => ?_
      have z13 := z12.trans s13
      exact fin _ _ _ _ _ _ _ _ _ _ (dk9.same z13) (bb9.trans (But.same z13))
  refine zite (fun h => go 0 ?_) (fun h => zite (fun h2 => go 1 ?_) fun h2 => .inl ⟨rfl, zite (fun h3 => go 2 ?_) fun h3 => go 3 ?_⟩)
  · have := of_decide_eq_true h
    unfold abv
    rw [if_pos (by omega)]
  · have := of_decide_eq_false h
    have := of_decide_eq_true h2
    unfold abv
    rw [if_neg (by omega), if_pos (by omega)]
  · have := of_decide_eq_false h
    have := of_decide_eq_false h2
    have : i = 16 := by
      have h3 : decide (V.int (i : Nat) = V.int 16) = true := h3
      simp at h3
      omega
    unfold abv
    rw [if_neg (by omega), if_neg (by omega), if_pos this]
  · have := of_decide_eq_false h
    have := of_decide_eq_false h2
    have : i ≠ 16 := by
      have h3 : decide (V.int (i : Nat) = V.int 16) = false := h3
      simp at h3
      omega
    unfold abv
    rw [if_neg (by omega), if_neg (by omega), if_neg this]
end Z
namespace Z
open PySem PySem.Spec PyProof.Rows L2
theorem DeckAt.put {H : Hp} {p wa w : Addr} {o : HO} (d : DeckAt H p wa) (n1 : p ≠ w) (n2 : wa ≠ w) : DeckAt (upd H w o) p wa := by
  obtain ⟨c, m, t, ws, h1, h2, h3, h4⟩ := d
  exact ⟨c, m, t, ws, by rw [upd_ne n1]; exact h1, by rw [upd_ne n2]; exact h2, h3, h4⟩
theorem DeckAt.wa {H : Hp} {p wa : Addr} (d : DeckAt H p wa) : ∃ o, H wa = Option.some o := by
  obtain ⟨c, m, t, ws, h1, h2, h3, h4⟩ := d
  exact ⟨_, h2⟩
theorem paired_snoc {α β : Type} {R : α → β → Prop} : ∀ {xs : List α} {ys : List β} {x : α} {y : β}, Paired R xs ys → R x y → Paired R (xs ++ [x]) (ys ++ [y])
  | _, _, _, _, .nil, h => .cons h .nil
  | _, _, _, _, .cons r t, h => .cons r (paired_snoc t h)
theorem paired_map {α β : Type} {R S : α → β → Prop} (k : ∀ x y, R x y → S x y) : ∀ {xs : List α} {ys : List β}, Paired R xs ys → Paired S xs ys
  | _, _, .nil => .nil
  | _, _, .cons r t => .cons (k _ _ r) (paired_map k t)
theorem ds_fit {K : PySem.W.Frag} {H : Hp} : ∀ {xs : List V} {ds : List PyData}, Paired (Thing K H) xs ds → PyData.showableAll ds = true ∧ PyData.leavesShortAll 22 ds = true ∧ PyData.weightAll ds ≤ 401 * ds.length ∧ PyData.depthAll ds ≤ 4
  | [], [], .nil => ⟨rfl, rfl, by simp [PyData.weightAll], by simp [PyData.depthAll]⟩
  | _ :: _, d :: ds, .cons t p => by
    obtain ⟨h1, h2, h3, h4⟩ := ds_fit p
    obtain ⟨a1, a2, a3, a4⟩ := t.fx
    refine ⟨by simp only [PyData.showableAll, a1, h1, Bool.and_self], by simp only [PyData.leavesShortAll, a2, h2, Bool.and_self], ?_, ?_⟩
    · simp only [PyData.weightAll, List.length_cons]
      omega
    · simp only [PyData.depthAll]
      omega
theorem ds_len {K : PySem.W.Frag} {H : Hp} {xs : List V} {ds : List PyData} (h : Paired (Thing K H) xs ds) (hl : ds.length ≤ 400) : (PyData.list ds).shown.length ≤ sizeLine := by
  obtain ⟨_, h2, h3, _⟩ := ds_fit h
  have := PyData.shown_le 22 (by decide) (.list ds) (by simpa only [PyData.leavesShort] using h2)
  have w : (PyData.list ds).weight ≤ 401 * 400 + 1 := by
    simp only [PyData.weight]
    omega
  have : (22 + 2) * (PyData.list ds).weight ≤ 24 * (401 * 400 + 1) := Nat.mul_le_mul (Nat.le_refl _) w
  rw [sizeLine_eq]
  omega
theorem rest_ok {K : PySem.W.Frag} {mg : Str → Option Value} {g : Ads} (T : Txt K mg g) {E : XK} {D : Ends} {a p L : Addr} {v1 v3 v4 v5 v6 v7 v8 v10 v11 v12 : Option V} {H : Hp} {xs : List V} {ds : List PyData} (hL : H L = some (.lst xs)) (l5 : xs.length = 5) (th : Paired (Thing K H) xs ds)
    (fin : ∀ H' v10 v11, Same H H' → D.nx [some (.ref a), v1, some (.ref p), v3, v4, v5, v6, v7, v8, some (.ref L), v10, v11, v12] H') :
    R_law_14 K g E D [some (.ref a), v1, some (.ref p), v3, v4, v5, v6, v7, v8, some (.ref L), v10, v11, v12] H := by
  match xs, l5 with
  | [x0, x1, x2, x3, x4], _ =>
  refine ⟨_, x0, .inl (SqL.of hL), rfl, _, x1, .inl (SqL.of hL), rfl, _, x2, .inl (SqL.of hL), rfl, show 3 ≤ 1000 by decide, fun e he => ⟨e, [x0, x1, x2], rfl, rfl, upd_same, fun dx H1 hdx ne e1 e2 hb => ?_⟩⟩
  rw [upd_ne ne] at hdx
  have s1 : Same H H1 := by
    intro b o eo
    have n1 := ne_of_none eo he
    have n2 := ne_of_none eo hdx
    rw [hb b n1 n2, upd_ne n1]
    exact eo
  have x1' : ExO H1 e g.c_Misplaced [("name", x2), ("number", x1), ("handler", x0)] := ⟨dx, e1, e2⟩
  refine ⟨rfl, dx, _, e1, e2, hdx, ?_⟩
  clear hb e1 e2
  have hL1 := s1 _ _ hL
  refine ⟨_, x3, .inl (SqL.of hL1), rfl, _, x4, .inl (SqL.of hL1), rfl, show 2 ≤ 1000 by decide, fun r hr => ⟨r, [x3, x4], rfl, rfl, upd_same, fun dx2 H2 hdx2 ne2 e3 e4 hb2 => ?_⟩⟩
  rw [upd_ne ne2] at hdx2
  have s2 : Same H1 H2 := by
    intro b o eo
    have n1 := ne_of_none eo hr
    have n2 := ne_of_none eo hdx2
    rw [hb2 b n1 n2, upd_ne n1]
    exact eo
  have x2' : ExO H2 r g.c_Refused [("number", x4), ("target", x3)] := ⟨dx2, e3, e4⟩
  refine ⟨rfl, dx2, _, e3, e4, hdx2, ⟨_, _, rfl, ?_⟩⟩
  clear hb2 e3 e4
  have x1' := x1'.same s2
  have s12 := s1.trans s2
  have hL2 := s12 _ _ hL
  refine ⟨e, _, _, x0, rfl, x1', T.x_Misplaced, T.a_Misplaced_handler, rfl, e, _, _, x1, rfl, x1', T.x_Misplaced, T.a_Misplaced_number, rfl, e, _, _, x2, rfl, x1', T.x_Misplaced, T.a_Misplaced_name, rfl,
    r, _, _, x3, rfl, x2', T.x_Refused, T.a_Refused_target, rfl, r, _, _, x4, rfl, x2', T.x_Refused, T.a_Refused_number, rfl, ⟨show 5 ≤ sizeLine by decide, fun l hl => ?_⟩⟩
  have s3 := Same.put (o := .lst [x0, x1, x2, x3, x4]) hl
  have s13 := s12.trans s3
  have th3 : Paired (Thing K (upd H2 l (.lst [x0, x1, x2, x3, x4]))) [x0, x1, x2, x3, x4] ds := paired_map (fun _ _ t => t.same s13) th
  have dp3 : Paired (DpR2 K (upd H2 l (.lst [x0, x1, x2, x3, x4]))) [x0, x1, x2, x3, x4] ds := paired_map (fun _ _ t => .inl t.dp) th3
  obtain ⟨f1, _, _, f4⟩ := ds_fit th3
  have l6 : ds.length = 5 := th.length.symm
  have f5 := ds_len th3 (by omega)
  refine ⟨l, _, ds, rfl, SqL.of upd_same, dp3, f1, Nat.le_trans f4 (by decide), f5, ⟨L, _, ds, rfl, SqL.of (s3 _ _ hL2), dp3, f1, Nat.le_trans f4 (by decide), f5, .inl ⟨rfl, zite (fun h => absurd h (by simp)) fun _ => ?_⟩⟩⟩
  have y1 := x1'.same s3
  have y2 := x2'.same s3
  generalize upd H2 l (.lst [x0, x1, x2, x3, x4]) = H3 at s3 s13 y1 y2
  obtain ⟨w1, w2⟩ := abv_18
  -- the one
  refine ⟨18, _, e, _, rfl, rfl, y1, fun l1 H4 s4 el1 => ⟨show 1 ≤ sizeLine by decide, fun m hm => ?_⟩⟩
  have s5 := Same.put (o := .lst [V.int 18]) hm
  refine .inr ⟨.list [.int 18], .list [.int 18], .lst (SqL.of (s5 _ _ el1)) (.cons (.int _) .nil), .lst (SqL.of upd_same) (.cons (.int _) .nil), rfl, rfl, ?_⟩
  rw [one_eqv]
  refine zite (fun h => absurd h (by decide)) fun _ => ?_
  have z5 := s4.trans s5
  refine ⟨_, e, _, _, rfl, kind_at T (k := 18) rfl, y1.same z5, fun l2 H6 s6 el2 => ⟨show 5 ≤ sizeLine by decide, fun m2 hm2 => ?_⟩⟩
  have z6 := z5.trans s6
  rw [show (five.map fun t => V.bl (decide (t ∈ above (basesL.getD 18 "")))) = [true, false, false, false, false].map V.bl by rw [← w1, List.map_map]; rfl] at el2
  have s7 := Same.put (o := .lst [V.bl true, .bl false, .bl false, .bl false, .bl false]) hm2
  refine .inr ⟨.list ([true, false, false, false, false].map .bool), .list ([true, false, false, false, false].map .bool), .lst (SqL.of (s7 _ _ el2)) (dp_bools _), .lst (SqL.of (xs := [true, false, false, false, false].map V.bl) upd_same) (dp_bools _), by decide +kernel, by decide +kernel, ?_⟩
  rw [show PyData.eqv (.list ([true, false, false, false, false].map .bool)) (.list ([true, false, false, false, false].map .bool)) = true by decide +kernel]
  refine zite (fun h => absurd h (by decide)) fun _ => ?_
  have z7 := z6.trans s7
  -- the other
  have y3 := y2.same z7
  refine ⟨19, _, r, _, rfl, rfl, y3, fun l3 H8 s8 el3 => ⟨show 1 ≤ sizeLine by decide, fun m3 hm3 => ?_⟩⟩
  have s9 := Same.put (o := .lst [V.int 19]) hm3
  refine .inr ⟨.list [.int 19], .list [.int 19], .lst (SqL.of (s9 _ _ el3)) (.cons (.int _) .nil), .lst (SqL.of upd_same) (.cons (.int _) .nil), rfl, rfl, ?_⟩
  rw [one_eqv]
  refine zite (fun h => absurd h (by decide)) fun _ => ?_
  have z9 := s8.trans s9
  refine ⟨_, r, _, _, rfl, kind_at T (k := 19) rfl, y3.same z9, fun l4 H10 s10 el4 => ⟨show 5 ≤ sizeLine by decide, fun m4 hm4 => ?_⟩⟩
  rw [show (five.map fun t => V.bl (decide (t ∈ above (basesL.getD 19 "")))) = [false, false, true, false, false].map V.bl by rw [← w2, List.map_map]; rfl] at el4
  have s11 := Same.put (o := .lst [V.bl false, .bl false, .bl true, .bl false, .bl false]) hm4
  refine .inr ⟨.list ([false, false, true, false, false].map .bool), .list ([false, false, true, false, false].map .bool), .lst (SqL.of (s11 _ _ el4)) (dp_bools _), .lst (SqL.of (xs := [false, false, true, false, false].map V.bl) upd_same) (dp_bools _), by decide +kernel, by decide +kernel, ?_⟩
  rw [show PyData.eqv (.list ([false, false, true, false, false].map .bool)) (.list ([false, false, true, false, false].map .bool)) = true by decide +kernel]
  refine zite (fun h => absurd h (by decide)) fun _ => ?_
  exact fin _ _ _ ((s13.trans z7).trans ((z9.trans s10).trans s11))
end Z
namespace Z
open PySem PySem.Spec PyProof.Rows L2
def sp_law (K : PySem.W.Frag) (g : Ads) : Sp := spLaw K
/-- the five things, and what is behind them -/
theorem five_ok {K : PySem.W.Frag} {mg : Str → Option Value} {g : Ads} (T : Txt K mg g) {E : XK} {D : Ends} {a p wa : Addr} {v1 v3 v4 v5 v6 v7 v8 v9 v10 v11 v12 : Option V} {H : Hp} (dk : DeckAt H p wa)
    (fin : ∀ H' v9 v10 v11, But p H H' → D.nx [some (.ref a), v1, some (.ref p), v3, v4, v5, v6, v7, v8, v9, v10, v11, v12] H') :
    R_law_13 K g E D [some (.ref a), v1, some (.ref p), v3, v4, v5, v6, v7, v8, v9, v10, v11, v12] H := by
  refine ⟨5, rfl, by decide, by decide, lc_z (walk_range (lo := 0) (n := 5)) (fun L i H' => ∃ xs ds, H' L = some (.lst xs) ∧ xs.length = i ∧ Paired (ThS K [p, L] H') xs ds ∧ DeckAt H' p wa ∧ But p H H') (fun L hL => ⟨[], [], upd_same, rfl, .nil, dk.same (Same.put hL), But.same (Same.put hL)⟩)
    (fun _ _ _ _ _ _ => trivial) (fun L i x H1 H1' hL hi hh yy => ?_) (fun L H1 hL hh => ?_)⟩
  · obtain ⟨xs, ds, e1, l1, ps, dk1, b1⟩ := hh
    obtain ⟨rfl, rfl⟩ := yy
    have nL : L ≠ p := dk.ne hL
    refine ⟨rfl, p, wa, rfl, dk1, fun v d H2 th dk2 b2 => ⟨xs, b2 _ _ e1 nL, Nat.lt_of_lt_of_le (show xs.length < 5 by omega) (by decide), xs ++ [v], ds ++ [d], upd_same, by simp [l1], ?_, ?_, ?_⟩⟩
    · have k1 : ∀ b o, H1' b = some o → b ∉ [p, L] → (upd H2 L (.lst (xs ++ [v]))) b = some o := fun b o eo nb => by
        have nb' : b ≠ p ∧ b ≠ L := by simpa using nb
        rw [upd_ne nb'.2]
        exact b2 _ _ eo nb'.1
      have k2 : ∀ b o, H2 b = some o → b ∉ [p, L] → (upd H2 L (.lst (xs ++ [v]))) b = some o := fun b o eo nb => by
        have nb' : b ≠ p ∧ b ≠ L := by simpa using nb
        rw [upd_ne nb'.2]
        exact eo
      have k3 : ∀ s ∈ [p, L], H1' s ≠ none := by
        intro s hs
        simp only [List.mem_cons, List.not_mem_nil, or_false] at hs
        rcases hs with rfl | rfl
        · obtain ⟨o, ho⟩ := dk1.some
          rw [ho]
          simp
        · rw [e1]
          simp
      exact paired_snoc (paired_map (fun _ _ t => t.to k1) ps) ((th.hid k3).to k2)
    · obtain ⟨o, ho⟩ := dk.wa
      exact dk2.put nL.symm (ne_of_none ho hL)
    · intro b o eo nb
      rw [upd_ne (ne_of_none eo hL)]
      exact b2 _ _ (b1 _ _ eo nb) nb
  · obtain ⟨xs, ds, e1, l1, ps, dk1, b1⟩ := hh
    exact rest_ok T e1 l1 (paired_map (fun _ _ t => t.th) ps) fun H' v10 v11 s => fin H' _ v10 v11 (b1.trans (But.same s))
theorem last_ok {K : PySem.W.Frag} {mg : Str → Option Value} {g : Ads} (T : Txt K mg g) {E : XK} {D : Ends} {σ : St} {H : Hp} (fin : ∀ H', D.rt (.bl true) H') : R_law_21 K g E D σ H := by
  refine ⟨rfl, fun e he => ⟨e, [.int 2, .int 3, .int 1], rfl, rfl, upd_same, fun dx H1 hdx ne e1 e2 hb => ?_⟩⟩
  rw [upd_ne ne] at hdx
  refine ⟨rfl, dx, _, e1, e2, hdx, e, _, _, .int 2, rfl, ⟨dx, e1, e2⟩, T.x_Misplaced, T.a_Misplaced_handler, rfl, .inl ⟨rfl, zite (fun _ => ?_) (fun h => absurd h (by decide))⟩⟩
  refine ⟨rfl, fun r hr => ⟨r, [.non, .int 1], rfl, rfl, upd_same, fun dx2 H2 hdx2 ne2 e3 e4 hb2 => ?_⟩⟩
  rw [upd_ne ne2] at hdx2
  exact ⟨rfl, dx2, _, e3, e4, hdx2, r, _, _, .non, rfl, ⟨dx2, e3, e4⟩, T.x_Refused, T.a_Refused_target, rfl, rfl, fin _⟩
theorem pf_law {K : PySem.W.Frag} {mg : Str → Option Value} {g : Ads} (T : Txt K mg g) (vs : List V) (H : Hp) (Q : VK) (E : XK) (h : sp_law K g vs H Q E) : rw_law K g vs H Q E := by
  obtain ⟨a, ns, rfl, hs, hn, q⟩ := h
  refine ⟨rfl, _, .inl hs, _, rfl, ?_, ?_, for_z walk_range (fun i σ H' => Same H H' ∧ ∃ v1 v2 v3 v4 v5 v6 v7 v8 v9 v10 v11 v12, σ = [some (.ref a), v1, v2, v3, v4, v5, v6, v7, v8, v9, v10, v11, v12]) ⟨Same.refl H, _, _, _, _, _, _, _, _, _, _, _, _, rfl⟩ (fun _ _ _ _ _ => trivial)
    (fun i x σ H1 H1' hi ⟨s1, v1, v2, v3, v4, v5, v6, v7, v8, v9, v10, v11, v12, e1⟩ yy => ?_) (fun σ H1 _ => last_ok (E := E) T fun H' => q H')⟩
  · split <;> split <;> omega
  · rw [List.length_map]; split <;> split <;> omega
  obtain ⟨rfl, rfl⟩ := yy
  subst e1
  refine ⟨a, ns, _, rfl, s1.seq hs, hn, by omega, fun p wa H2 hp hwa s2 dk => ?_⟩
  have hpH : H p = none := s1.free hp
  refine ⟨18, rfl, by decide, by decide, for_z (walk_range (lo := 0) (n := 18)) (fun i σ H' => DeckAt H' p wa ∧ But p H2 H' ∧ ∃ u1 u3 u4 u5 u6 u7 u8 u9 u10 u11 u12, σ = [some (.ref a), u1, some (.ref p), u3, u4, u5, u6, u7, u8, u9, u10, u11, u12]) ⟨dk, fun _ _ e _ => e, _, _, _, _, _, _, _, _, _, _, _, rfl⟩ (fun _ _ _ _ _ => trivial) ?_ ?_⟩
  · rintro k x σ H3 H3' hk ⟨dk3, b3, u1, u3, u4, u5, u6, u7, u8, u9, u10, u11, u12, rfl⟩ ⟨rfl, rfl⟩
    show R_law_4 K g E _ [some (.ref a), u1, some (.ref p), some (.int (0 + (k : Int))), u4, u5, u6, u7, u8, u9, u10, u11, u12] H3'
    rw [Int.zero_add]
    exact in_step T dk3 hk fun H' v4 v5 v6 v7 v8 v9 v10 v11 v12 dk4 b4 => ⟨dk4, b3.trans b4, _, _, _, _, _, _, _, _, _, _, _, rfl⟩
  · rintro σ H3 ⟨dk3, b3, u1, u3, u4, u5, u6, u7, u8, u9, u10, u11, u12, rfl⟩
    refine five_ok T dk3 fun H' v9 v10 v11 b4 => ⟨?_, _, _, _, _, _, _, _, _, _, _, _, _, rfl⟩
    intro b o eo
    have e2 := s2 _ _ (s1 _ _ eo)
    have nb : b ≠ p := ne_of_none eo hpH
    exact b4 _ _ (b3 _ _ e2 nb) nb
theorem ok_law {P : Program} {w : World} {K : PySem.W.Frag} {mg : Str → Option Value} {base : Heap} {g : Ads} (T : Txt K mg g) : FnZ P w K mg base 5 g.f_law g.d_law ["script"] (spLaw K) := (raw_law T).imp (pf_law T)
end Z
namespace Z
open PySem PySem.Spec PyProof.Rows L2
theorem all_mk {P : Program} {w : World} {K : PySem.W.Frag} {h : Heap} {mg : Str → Option Value} {fa : Addr} (X : K.In h) (G : h.Ns mainGlobals mg) (hfa : mg "law" = some (.ref fa))
    {f_BadName_init : Addr} {od_BadName_init an_BadName_init : Option Addr} {sl_BadName_init : Array (Option Value)} {oc_BadName_init kV_BadName_init dc_BadName_init pm_BadName_init cd_BadName_init ct_BadName_init : Value}
    {f_BadValue_init : Addr} {od_BadValue_init an_BadValue_init : Option Addr} {sl_BadValue_init : Array (Option Value)} {oc_BadValue_init kV_BadValue_init dc_BadValue_init pm_BadValue_init cd_BadValue_init ct_BadValue_init : Value}
    {f_BadTest_init : Addr} {od_BadTest_init an_BadTest_init : Option Addr} {sl_BadTest_init : Array (Option Value)} {oc_BadTest_init kV_BadTest_init dc_BadTest_init pm_BadTest_init cd_BadTest_init ct_BadTest_init : Value}
    {f_BadStep_init : Addr} {od_BadStep_init an_BadStep_init : Option Addr} {sl_BadStep_init : Array (Option Value)} {oc_BadStep_init kV_BadStep_init dc_BadStep_init pm_BadStep_init cd_BadStep_init ct_BadStep_init : Value}
    {f_BadFail_init : Addr} {od_BadFail_init an_BadFail_init : Option Addr} {sl_BadFail_init : Array (Option Value)} {oc_BadFail_init kV_BadFail_init dc_BadFail_init pm_BadFail_init cd_BadFail_init ct_BadFail_init : Value}
    {f_BadPair_init : Addr} {od_BadPair_init an_BadPair_init : Option Addr} {sl_BadPair_init : Array (Option Value)} {oc_BadPair_init kV_BadPair_init dc_BadPair_init pm_BadPair_init cd_BadPair_init ct_BadPair_init : Value}
    {f_BadKind_init : Addr} {od_BadKind_init an_BadKind_init : Option Addr} {sl_BadKind_init : Array (Option Value)} {oc_BadKind_init kV_BadKind_init dc_BadKind_init pm_BadKind_init cd_BadKind_init ct_BadKind_init : Value}
    {f_BadMend_init : Addr} {od_BadMend_init an_BadMend_init : Option Addr} {sl_BadMend_init : Array (Option Value)} {oc_BadMend_init kV_BadMend_init dc_BadMend_init pm_BadMend_init cd_BadMend_init ct_BadMend_init : Value}
    {f_BadText_init : Addr} {od_BadText_init an_BadText_init : Option Addr} {sl_BadText_init : Array (Option Value)} {oc_BadText_init kV_BadText_init dc_BadText_init pm_BadText_init cd_BadText_init ct_BadText_init : Value}
    {f_BadCommand_init : Addr} {od_BadCommand_init an_BadCommand_init : Option Addr} {sl_BadCommand_init : Array (Option Value)} {oc_BadCommand_init kV_BadCommand_init dc_BadCommand_init pm_BadCommand_init cd_BadCommand_init ct_BadCommand_init : Value}
    {f_Twice_init : Addr} {od_Twice_init an_Twice_init : Option Addr} {sl_Twice_init : Array (Option Value)} {oc_Twice_init kV_Twice_init dc_Twice_init pm_Twice_init cd_Twice_init ct_Twice_init : Value}
    {f_Taken_init : Addr} {od_Taken_init an_Taken_init : Option Addr} {sl_Taken_init : Array (Option Value)} {oc_Taken_init kV_Taken_init dc_Taken_init pm_Taken_init cd_Taken_init ct_Taken_init : Value}
    {f_Misplaced_init : Addr} {od_Misplaced_init an_Misplaced_init : Option Addr} {sl_Misplaced_init : Array (Option Value)} {oc_Misplaced_init kV_Misplaced_init dc_Misplaced_init pm_Misplaced_init cd_Misplaced_init ct_Misplaced_init : Value}
    {f_Unlike_init : Addr} {od_Unlike_init an_Unlike_init : Option Addr} {sl_Unlike_init : Array (Option Value)} {oc_Unlike_init kV_Unlike_init dc_Unlike_init pm_Unlike_init cd_Unlike_init ct_Unlike_init : Value}
    {f_NoHandler_init : Addr} {od_NoHandler_init an_NoHandler_init : Option Addr} {sl_NoHandler_init : Array (Option Value)} {oc_NoHandler_init kV_NoHandler_init dc_NoHandler_init pm_NoHandler_init cd_NoHandler_init ct_NoHandler_init : Value}
    {f_NoPlace_init : Addr} {od_NoPlace_init an_NoPlace_init : Option Addr} {sl_NoPlace_init : Array (Option Value)} {oc_NoPlace_init kV_NoPlace_init dc_NoPlace_init pm_NoPlace_init cd_NoPlace_init ct_NoPlace_init : Value}
    {f_NotTyped_init : Addr} {od_NotTyped_init an_NotTyped_init : Option Addr} {sl_NotTyped_init : Array (Option Value)} {oc_NotTyped_init kV_NotTyped_init dc_NotTyped_init pm_NotTyped_init cd_NotTyped_init ct_NotTyped_init : Value}
    {f_Refused_init : Addr} {od_Refused_init an_Refused_init : Option Addr} {sl_Refused_init : Array (Option Value)} {oc_Refused_init kV_Refused_init dc_Refused_init pm_Refused_init cd_Refused_init ct_Refused_init : Value}
    {f_Shut_init : Addr} {od_Shut_init an_Shut_init : Option Addr} {sl_Shut_init : Array (Option Value)} {oc_Shut_init kV_Shut_init dc_Shut_init pm_Shut_init cd_Shut_init ct_Shut_init : Value}
    {f_TooMany_init : Addr} {od_TooMany_init an_TooMany_init : Option Addr} {sl_TooMany_init : Array (Option Value)} {oc_TooMany_init kV_TooMany_init dc_TooMany_init pm_TooMany_init cd_TooMany_init ct_TooMany_init : Value}
    {f_is_name : Addr} {od_is_name an_is_name : Option Addr} {sl_is_name : Array (Option Value)} {oc_is_name kV_is_name dc_is_name pm_is_name cd_is_name ct_is_name : Value}
    {f_is_int : Addr} {od_is_int an_is_int : Option Addr} {sl_is_int : Array (Option Value)} {oc_is_int kV_is_int dc_is_int pm_is_int cd_is_int ct_is_int : Value}
    {f_check_name : Addr} {od_check_name an_check_name : Option Addr} {sl_check_name : Array (Option Value)} {oc_check_name kV_check_name dc_check_name pm_check_name cd_check_name ct_check_name : Value}
    {f_check_operand : Addr} {od_check_operand an_check_operand : Option Addr} {sl_check_operand : Array (Option Value)} {oc_check_operand kV_check_operand dc_check_operand pm_check_operand cd_check_operand ct_check_operand : Value}
    {f_law_deck : Addr} {od_law_deck an_law_deck : Option Addr} {sl_law_deck : Array (Option Value)} {oc_law_deck kV_law_deck dc_law_deck pm_law_deck cd_law_deck ct_law_deck : Value}
    {f_law_draw : Addr} {od_law_draw an_law_draw : Option Addr} {sl_law_draw : Array (Option Value)} {oc_law_draw kV_law_draw dc_law_draw pm_law_draw cd_law_draw ct_law_draw : Value}
    {f_law_of : Addr} {od_law_of an_law_of : Option Addr} {sl_law_of : Array (Option Value)} {oc_law_of kV_law_of dc_law_of pm_law_of cd_law_of ct_law_of : Value}
    {f_law_number : Addr} {od_law_number an_law_number : Option Addr} {sl_law_number : Array (Option Value)} {oc_law_number kV_law_number dc_law_number pm_law_number cd_law_number ct_law_number : Value}
    {f_law_names : Addr} {od_law_names an_law_names : Option Addr} {sl_law_names : Array (Option Value)} {oc_law_names kV_law_names dc_law_names pm_law_names cd_law_names ct_law_names : Value}
    {f_law_thing : Addr} {od_law_thing an_law_thing : Option Addr} {sl_law_thing : Array (Option Value)} {oc_law_thing kV_law_thing dc_law_thing pm_law_thing cd_law_thing ct_law_thing : Value}
    {f_law_made : Addr} {od_law_made an_law_made : Option Addr} {sl_law_made : Array (Option Value)} {oc_law_made kV_law_made dc_law_made pm_law_made cd_law_made ct_law_made : Value}
    {f_law_made_by_name : Addr} {od_law_made_by_name an_law_made_by_name : Option Addr} {sl_law_made_by_name : Array (Option Value)} {oc_law_made_by_name kV_law_made_by_name dc_law_made_by_name pm_law_made_by_name cd_law_made_by_name ct_law_made_by_name : Value}
    {f_law_is_checked : Addr} {od_law_is_checked an_law_is_checked : Option Addr} {sl_law_is_checked : Array (Option Value)} {oc_law_is_checked kV_law_is_checked dc_law_is_checked pm_law_is_checked cd_law_is_checked ct_law_is_checked : Value}
    {f_law_has : Addr} {od_law_has an_law_has : Option Addr} {sl_law_has : Array (Option Value)} {oc_law_has kV_law_has dc_law_has pm_law_has cd_law_has ct_law_has : Value}
    {f_law_kinds : Addr} {od_law_kinds an_law_kinds : Option Addr} {sl_law_kinds : Array (Option Value)} {oc_law_kinds kV_law_kinds dc_law_kinds pm_law_kinds cd_law_kinds ct_law_kinds : Value}
    {f_law_above : Addr} {od_law_above an_law_above : Option Addr} {sl_law_above : Array (Option Value)} {oc_law_above kV_law_above dc_law_above pm_law_above cd_law_above ct_law_above : Value}
    {f_law : Addr} {od_law an_law : Option Addr} {sl_law : Array (Option Value)} {oc_law kV_law dc_law pm_law cd_law ct_law : Value}
    {c_BadName : Addr}
    {nm_BadName q_BadName : Str} {N_BadName : Addr} {bs_BadName : List Value} {sn_BadName : List Str} {sub_BadName : List Value} {ab_BadName : Bool} {col_BadName : Option Bool} {dd_BadName : Option Addr} {m0_BadName m1_BadName m2_BadName m3_BadName m5_BadName : Option Value}
    {c_BadValue : Addr}
    {nm_BadValue q_BadValue : Str} {N_BadValue : Addr} {bs_BadValue : List Value} {sn_BadValue : List Str} {sub_BadValue : List Value} {ab_BadValue : Bool} {col_BadValue : Option Bool} {dd_BadValue : Option Addr} {m0_BadValue m1_BadValue m2_BadValue m3_BadValue m5_BadValue : Option Value}
    {c_BadTest : Addr}
    {nm_BadTest q_BadTest : Str} {N_BadTest : Addr} {bs_BadTest : List Value} {sn_BadTest : List Str} {sub_BadTest : List Value} {ab_BadTest : Bool} {col_BadTest : Option Bool} {dd_BadTest : Option Addr} {m0_BadTest m1_BadTest m2_BadTest m3_BadTest m5_BadTest : Option Value}
    {c_BadStep : Addr}
    {nm_BadStep q_BadStep : Str} {N_BadStep : Addr} {bs_BadStep : List Value} {sn_BadStep : List Str} {sub_BadStep : List Value} {ab_BadStep : Bool} {col_BadStep : Option Bool} {dd_BadStep : Option Addr} {m0_BadStep m1_BadStep m2_BadStep m3_BadStep m5_BadStep : Option Value}
    {c_BadFail : Addr}
    {nm_BadFail q_BadFail : Str} {N_BadFail : Addr} {bs_BadFail : List Value} {sn_BadFail : List Str} {sub_BadFail : List Value} {ab_BadFail : Bool} {col_BadFail : Option Bool} {dd_BadFail : Option Addr} {m0_BadFail m1_BadFail m2_BadFail m3_BadFail m5_BadFail : Option Value}
    {c_BadPair : Addr}
    {nm_BadPair q_BadPair : Str} {N_BadPair : Addr} {bs_BadPair : List Value} {sn_BadPair : List Str} {sub_BadPair : List Value} {ab_BadPair : Bool} {col_BadPair : Option Bool} {dd_BadPair : Option Addr} {m0_BadPair m1_BadPair m2_BadPair m3_BadPair m5_BadPair : Option Value}
    {c_BadKind : Addr}
    {nm_BadKind q_BadKind : Str} {N_BadKind : Addr} {bs_BadKind : List Value} {sn_BadKind : List Str} {sub_BadKind : List Value} {ab_BadKind : Bool} {col_BadKind : Option Bool} {dd_BadKind : Option Addr} {m0_BadKind m1_BadKind m2_BadKind m3_BadKind m5_BadKind : Option Value}
    {c_BadMend : Addr}
    {nm_BadMend q_BadMend : Str} {N_BadMend : Addr} {bs_BadMend : List Value} {sn_BadMend : List Str} {sub_BadMend : List Value} {ab_BadMend : Bool} {col_BadMend : Option Bool} {dd_BadMend : Option Addr} {m0_BadMend m1_BadMend m2_BadMend m3_BadMend m5_BadMend : Option Value}
    {c_BadText : Addr}
    {nm_BadText q_BadText : Str} {N_BadText : Addr} {bs_BadText : List Value} {sn_BadText : List Str} {sub_BadText : List Value} {ab_BadText : Bool} {col_BadText : Option Bool} {dd_BadText : Option Addr} {m0_BadText m1_BadText m2_BadText m3_BadText m5_BadText : Option Value}
    {c_BadCommand : Addr}
    {nm_BadCommand q_BadCommand : Str} {N_BadCommand : Addr} {bs_BadCommand : List Value} {sn_BadCommand : List Str} {sub_BadCommand : List Value} {ab_BadCommand : Bool} {col_BadCommand : Option Bool} {dd_BadCommand : Option Addr} {m0_BadCommand m1_BadCommand m2_BadCommand m3_BadCommand m5_BadCommand : Option Value}
    {c_Twice : Addr}
    {nm_Twice q_Twice : Str} {N_Twice : Addr} {bs_Twice : List Value} {sn_Twice : List Str} {sub_Twice : List Value} {ab_Twice : Bool} {col_Twice : Option Bool} {dd_Twice : Option Addr} {m0_Twice m1_Twice m2_Twice m3_Twice m5_Twice : Option Value}
    {c_Taken : Addr}
    {nm_Taken q_Taken : Str} {N_Taken : Addr} {bs_Taken : List Value} {sn_Taken : List Str} {sub_Taken : List Value} {ab_Taken : Bool} {col_Taken : Option Bool} {dd_Taken : Option Addr} {m0_Taken m1_Taken m2_Taken m3_Taken m5_Taken : Option Value}
    {c_Misplaced : Addr}
    {nm_Misplaced q_Misplaced : Str} {N_Misplaced : Addr} {bs_Misplaced : List Value} {sn_Misplaced : List Str} {sub_Misplaced : List Value} {ab_Misplaced : Bool} {col_Misplaced : Option Bool} {dd_Misplaced : Option Addr} {m0_Misplaced m1_Misplaced m2_Misplaced m3_Misplaced m5_Misplaced : Option Value}
    {c_Unlike : Addr}
    {nm_Unlike q_Unlike : Str} {N_Unlike : Addr} {bs_Unlike : List Value} {sn_Unlike : List Str} {sub_Unlike : List Value} {ab_Unlike : Bool} {col_Unlike : Option Bool} {dd_Unlike : Option Addr} {m0_Unlike m1_Unlike m2_Unlike m3_Unlike m5_Unlike : Option Value}
    {c_NoHandler : Addr}
    {nm_NoHandler q_NoHandler : Str} {N_NoHandler : Addr} {bs_NoHandler : List Value} {sn_NoHandler : List Str} {sub_NoHandler : List Value} {ab_NoHandler : Bool} {col_NoHandler : Option Bool} {dd_NoHandler : Option Addr} {m0_NoHandler m1_NoHandler m2_NoHandler m3_NoHandler m5_NoHandler : Option Value}
    {c_NoPlace : Addr}
    {nm_NoPlace q_NoPlace : Str} {N_NoPlace : Addr} {bs_NoPlace : List Value} {sn_NoPlace : List Str} {sub_NoPlace : List Value} {ab_NoPlace : Bool} {col_NoPlace : Option Bool} {dd_NoPlace : Option Addr} {m0_NoPlace m1_NoPlace m2_NoPlace m3_NoPlace m5_NoPlace : Option Value}
    {c_NotTyped : Addr}
    {nm_NotTyped q_NotTyped : Str} {N_NotTyped : Addr} {bs_NotTyped : List Value} {sn_NotTyped : List Str} {sub_NotTyped : List Value} {ab_NotTyped : Bool} {col_NotTyped : Option Bool} {dd_NotTyped : Option Addr} {m0_NotTyped m1_NotTyped m2_NotTyped m3_NotTyped m5_NotTyped : Option Value}
    {c_Refused : Addr}
    {nm_Refused q_Refused : Str} {N_Refused : Addr} {bs_Refused : List Value} {sn_Refused : List Str} {sub_Refused : List Value} {ab_Refused : Bool} {col_Refused : Option Bool} {dd_Refused : Option Addr} {m0_Refused m1_Refused m2_Refused m3_Refused m5_Refused : Option Value}
    {c_Shut : Addr}
    {nm_Shut q_Shut : Str} {N_Shut : Addr} {bs_Shut : List Value} {sn_Shut : List Str} {sub_Shut : List Value} {ab_Shut : Bool} {col_Shut : Option Bool} {dd_Shut : Option Addr} {m0_Shut m1_Shut m2_Shut m3_Shut m5_Shut : Option Value}
    {c_TooMany : Addr}
    {nm_TooMany q_TooMany : Str} {N_TooMany : Addr} {bs_TooMany : List Value} {sn_TooMany : List Str} {sub_TooMany : List Value} {ab_TooMany : Bool} {col_TooMany : Option Bool} {dd_TooMany : Option Addr} {m0_TooMany m1_TooMany m2_TooMany m3_TooMany m5_TooMany : Option Value}
    {tk_LETTERS : Tok}
    {tk_MOST_SIGNS : Tok}
    {tk_BEYOND : Tok}
    (a_BadName_init : PySem.W.findIn K (.ref c_BadName) "__init__" = some (some (.ref f_BadName_init)))
    (t_BadName_init : PySem.W.typeIn K (.ref f_BadName_init) = some (.type "function"))
    (l_BadName_init : K.lookup f_BadName_init = some ⟨oc_BadName_init, od_BadName_init, .func (PySem.W.fnOf "__init__" "BadName.__init__" (defArgs s_BadName_init) (defBody s_BadName_init) (defScope s_BadName_init) .none kV_BadName_init dc_BadName_init pm_BadName_init an_BadName_init cd_BadName_init ct_BadName_init), sl_BadName_init⟩)
    (cc_BadName_init : PySem.W.codeIn K cd_BadName_init "BadName.__init__" = true)
    (k_BadName_init : PySem.W.keepIn K (.ref f_BadName_init) = true)
    (a_BadValue_init : PySem.W.findIn K (.ref c_BadValue) "__init__" = some (some (.ref f_BadValue_init)))
    (t_BadValue_init : PySem.W.typeIn K (.ref f_BadValue_init) = some (.type "function"))
    (l_BadValue_init : K.lookup f_BadValue_init = some ⟨oc_BadValue_init, od_BadValue_init, .func (PySem.W.fnOf "__init__" "BadValue.__init__" (defArgs s_BadValue_init) (defBody s_BadValue_init) (defScope s_BadValue_init) .none kV_BadValue_init dc_BadValue_init pm_BadValue_init an_BadValue_init cd_BadValue_init ct_BadValue_init), sl_BadValue_init⟩)
    (cc_BadValue_init : PySem.W.codeIn K cd_BadValue_init "BadValue.__init__" = true)
    (k_BadValue_init : PySem.W.keepIn K (.ref f_BadValue_init) = true)
    (a_BadTest_init : PySem.W.findIn K (.ref c_BadTest) "__init__" = some (some (.ref f_BadTest_init)))
    (t_BadTest_init : PySem.W.typeIn K (.ref f_BadTest_init) = some (.type "function"))
    (l_BadTest_init : K.lookup f_BadTest_init = some ⟨oc_BadTest_init, od_BadTest_init, .func (PySem.W.fnOf "__init__" "BadTest.__init__" (defArgs s_BadTest_init) (defBody s_BadTest_init) (defScope s_BadTest_init) .none kV_BadTest_init dc_BadTest_init pm_BadTest_init an_BadTest_init cd_BadTest_init ct_BadTest_init), sl_BadTest_init⟩)
    (cc_BadTest_init : PySem.W.codeIn K cd_BadTest_init "BadTest.__init__" = true)
    (k_BadTest_init : PySem.W.keepIn K (.ref f_BadTest_init) = true)
    (a_BadStep_init : PySem.W.findIn K (.ref c_BadStep) "__init__" = some (some (.ref f_BadStep_init)))
    (t_BadStep_init : PySem.W.typeIn K (.ref f_BadStep_init) = some (.type "function"))
    (l_BadStep_init : K.lookup f_BadStep_init = some ⟨oc_BadStep_init, od_BadStep_init, .func (PySem.W.fnOf "__init__" "BadStep.__init__" (defArgs s_BadStep_init) (defBody s_BadStep_init) (defScope s_BadStep_init) .none kV_BadStep_init dc_BadStep_init pm_BadStep_init an_BadStep_init cd_BadStep_init ct_BadStep_init), sl_BadStep_init⟩)
    (cc_BadStep_init : PySem.W.codeIn K cd_BadStep_init "BadStep.__init__" = true)
    (k_BadStep_init : PySem.W.keepIn K (.ref f_BadStep_init) = true)
    (a_BadFail_init : PySem.W.findIn K (.ref c_BadFail) "__init__" = some (some (.ref f_BadFail_init)))
    (t_BadFail_init : PySem.W.typeIn K (.ref f_BadFail_init) = some (.type "function"))
    (l_BadFail_init : K.lookup f_BadFail_init = some ⟨oc_BadFail_init, od_BadFail_init, .func (PySem.W.fnOf "__init__" "BadFail.__init__" (defArgs s_BadFail_init) (defBody s_BadFail_init) (defScope s_BadFail_init) .none kV_BadFail_init dc_BadFail_init pm_BadFail_init an_BadFail_init cd_BadFail_init ct_BadFail_init), sl_BadFail_init⟩)
    (cc_BadFail_init : PySem.W.codeIn K cd_BadFail_init "BadFail.__init__" = true)
    (k_BadFail_init : PySem.W.keepIn K (.ref f_BadFail_init) = true)
    (a_BadPair_init : PySem.W.findIn K (.ref c_BadPair) "__init__" = some (some (.ref f_BadPair_init)))
    (t_BadPair_init : PySem.W.typeIn K (.ref f_BadPair_init) = some (.type "function"))
    (l_BadPair_init : K.lookup f_BadPair_init = some ⟨oc_BadPair_init, od_BadPair_init, .func (PySem.W.fnOf "__init__" "BadPair.__init__" (defArgs s_BadPair_init) (defBody s_BadPair_init) (defScope s_BadPair_init) .none kV_BadPair_init dc_BadPair_init pm_BadPair_init an_BadPair_init cd_BadPair_init ct_BadPair_init), sl_BadPair_init⟩)
    (cc_BadPair_init : PySem.W.codeIn K cd_BadPair_init "BadPair.__init__" = true)
    (k_BadPair_init : PySem.W.keepIn K (.ref f_BadPair_init) = true)
    (a_BadKind_init : PySem.W.findIn K (.ref c_BadKind) "__init__" = some (some (.ref f_BadKind_init)))
    (t_BadKind_init : PySem.W.typeIn K (.ref f_BadKind_init) = some (.type "function"))
    (l_BadKind_init : K.lookup f_BadKind_init = some ⟨oc_BadKind_init, od_BadKind_init, .func (PySem.W.fnOf "__init__" "BadKind.__init__" (defArgs s_BadKind_init) (defBody s_BadKind_init) (defScope s_BadKind_init) .none kV_BadKind_init dc_BadKind_init pm_BadKind_init an_BadKind_init cd_BadKind_init ct_BadKind_init), sl_BadKind_init⟩)
    (cc_BadKind_init : PySem.W.codeIn K cd_BadKind_init "BadKind.__init__" = true)
    (k_BadKind_init : PySem.W.keepIn K (.ref f_BadKind_init) = true)
    (a_BadMend_init : PySem.W.findIn K (.ref c_BadMend) "__init__" = some (some (.ref f_BadMend_init)))
    (t_BadMend_init : PySem.W.typeIn K (.ref f_BadMend_init) = some (.type "function"))
    (l_BadMend_init : K.lookup f_BadMend_init = some ⟨oc_BadMend_init, od_BadMend_init, .func (PySem.W.fnOf "__init__" "BadMend.__init__" (defArgs s_BadMend_init) (defBody s_BadMend_init) (defScope s_BadMend_init) .none kV_BadMend_init dc_BadMend_init pm_BadMend_init an_BadMend_init cd_BadMend_init ct_BadMend_init), sl_BadMend_init⟩)
    (cc_BadMend_init : PySem.W.codeIn K cd_BadMend_init "BadMend.__init__" = true)
    (k_BadMend_init : PySem.W.keepIn K (.ref f_BadMend_init) = true)
    (a_BadText_init : PySem.W.findIn K (.ref c_BadText) "__init__" = some (some (.ref f_BadText_init)))
    (t_BadText_init : PySem.W.typeIn K (.ref f_BadText_init) = some (.type "function"))
    (l_BadText_init : K.lookup f_BadText_init = some ⟨oc_BadText_init, od_BadText_init, .func (PySem.W.fnOf "__init__" "BadText.__init__" (defArgs s_BadText_init) (defBody s_BadText_init) (defScope s_BadText_init) .none kV_BadText_init dc_BadText_init pm_BadText_init an_BadText_init cd_BadText_init ct_BadText_init), sl_BadText_init⟩)
    (cc_BadText_init : PySem.W.codeIn K cd_BadText_init "BadText.__init__" = true)
    (k_BadText_init : PySem.W.keepIn K (.ref f_BadText_init) = true)
    (a_BadCommand_init : PySem.W.findIn K (.ref c_BadCommand) "__init__" = some (some (.ref f_BadCommand_init)))
    (t_BadCommand_init : PySem.W.typeIn K (.ref f_BadCommand_init) = some (.type "function"))
    (l_BadCommand_init : K.lookup f_BadCommand_init = some ⟨oc_BadCommand_init, od_BadCommand_init, .func (PySem.W.fnOf "__init__" "BadCommand.__init__" (defArgs s_BadCommand_init) (defBody s_BadCommand_init) (defScope s_BadCommand_init) .none kV_BadCommand_init dc_BadCommand_init pm_BadCommand_init an_BadCommand_init cd_BadCommand_init ct_BadCommand_init), sl_BadCommand_init⟩)
    (cc_BadCommand_init : PySem.W.codeIn K cd_BadCommand_init "BadCommand.__init__" = true)
    (k_BadCommand_init : PySem.W.keepIn K (.ref f_BadCommand_init) = true)
    (a_Twice_init : PySem.W.findIn K (.ref c_Twice) "__init__" = some (some (.ref f_Twice_init)))
    (t_Twice_init : PySem.W.typeIn K (.ref f_Twice_init) = some (.type "function"))
    (l_Twice_init : K.lookup f_Twice_init = some ⟨oc_Twice_init, od_Twice_init, .func (PySem.W.fnOf "__init__" "Twice.__init__" (defArgs s_Twice_init) (defBody s_Twice_init) (defScope s_Twice_init) .none kV_Twice_init dc_Twice_init pm_Twice_init an_Twice_init cd_Twice_init ct_Twice_init), sl_Twice_init⟩)
    (cc_Twice_init : PySem.W.codeIn K cd_Twice_init "Twice.__init__" = true)
    (k_Twice_init : PySem.W.keepIn K (.ref f_Twice_init) = true)
    (a_Taken_init : PySem.W.findIn K (.ref c_Taken) "__init__" = some (some (.ref f_Taken_init)))
    (t_Taken_init : PySem.W.typeIn K (.ref f_Taken_init) = some (.type "function"))
    (l_Taken_init : K.lookup f_Taken_init = some ⟨oc_Taken_init, od_Taken_init, .func (PySem.W.fnOf "__init__" "Taken.__init__" (defArgs s_Taken_init) (defBody s_Taken_init) (defScope s_Taken_init) .none kV_Taken_init dc_Taken_init pm_Taken_init an_Taken_init cd_Taken_init ct_Taken_init), sl_Taken_init⟩)
    (cc_Taken_init : PySem.W.codeIn K cd_Taken_init "Taken.__init__" = true)
    (k_Taken_init : PySem.W.keepIn K (.ref f_Taken_init) = true)
    (a_Misplaced_init : PySem.W.findIn K (.ref c_Misplaced) "__init__" = some (some (.ref f_Misplaced_init)))
    (t_Misplaced_init : PySem.W.typeIn K (.ref f_Misplaced_init) = some (.type "function"))
    (l_Misplaced_init : K.lookup f_Misplaced_init = some ⟨oc_Misplaced_init, od_Misplaced_init, .func (PySem.W.fnOf "__init__" "Misplaced.__init__" (defArgs s_Misplaced_init) (defBody s_Misplaced_init) (defScope s_Misplaced_init) .none kV_Misplaced_init dc_Misplaced_init pm_Misplaced_init an_Misplaced_init cd_Misplaced_init ct_Misplaced_init), sl_Misplaced_init⟩)
    (cc_Misplaced_init : PySem.W.codeIn K cd_Misplaced_init "Misplaced.__init__" = true)
    (k_Misplaced_init : PySem.W.keepIn K (.ref f_Misplaced_init) = true)
    (a_Unlike_init : PySem.W.findIn K (.ref c_Unlike) "__init__" = some (some (.ref f_Unlike_init)))
    (t_Unlike_init : PySem.W.typeIn K (.ref f_Unlike_init) = some (.type "function"))
    (l_Unlike_init : K.lookup f_Unlike_init = some ⟨oc_Unlike_init, od_Unlike_init, .func (PySem.W.fnOf "__init__" "Unlike.__init__" (defArgs s_Unlike_init) (defBody s_Unlike_init) (defScope s_Unlike_init) .none kV_Unlike_init dc_Unlike_init pm_Unlike_init an_Unlike_init cd_Unlike_init ct_Unlike_init), sl_Unlike_init⟩)
    (cc_Unlike_init : PySem.W.codeIn K cd_Unlike_init "Unlike.__init__" = true)
    (k_Unlike_init : PySem.W.keepIn K (.ref f_Unlike_init) = true)
    (a_NoHandler_init : PySem.W.findIn K (.ref c_NoHandler) "__init__" = some (some (.ref f_NoHandler_init)))
    (t_NoHandler_init : PySem.W.typeIn K (.ref f_NoHandler_init) = some (.type "function"))
    (l_NoHandler_init : K.lookup f_NoHandler_init = some ⟨oc_NoHandler_init, od_NoHandler_init, .func (PySem.W.fnOf "__init__" "NoHandler.__init__" (defArgs s_NoHandler_init) (defBody s_NoHandler_init) (defScope s_NoHandler_init) .none kV_NoHandler_init dc_NoHandler_init pm_NoHandler_init an_NoHandler_init cd_NoHandler_init ct_NoHandler_init), sl_NoHandler_init⟩)
    (cc_NoHandler_init : PySem.W.codeIn K cd_NoHandler_init "NoHandler.__init__" = true)
    (k_NoHandler_init : PySem.W.keepIn K (.ref f_NoHandler_init) = true)
    (a_NoPlace_init : PySem.W.findIn K (.ref c_NoPlace) "__init__" = some (some (.ref f_NoPlace_init)))
    (t_NoPlace_init : PySem.W.typeIn K (.ref f_NoPlace_init) = some (.type "function"))
    (l_NoPlace_init : K.lookup f_NoPlace_init = some ⟨oc_NoPlace_init, od_NoPlace_init, .func (PySem.W.fnOf "__init__" "NoPlace.__init__" (defArgs s_NoPlace_init) (defBody s_NoPlace_init) (defScope s_NoPlace_init) .none kV_NoPlace_init dc_NoPlace_init pm_NoPlace_init an_NoPlace_init cd_NoPlace_init ct_NoPlace_init), sl_NoPlace_init⟩)
    (cc_NoPlace_init : PySem.W.codeIn K cd_NoPlace_init "NoPlace.__init__" = true)
    (k_NoPlace_init : PySem.W.keepIn K (.ref f_NoPlace_init) = true)
    (a_NotTyped_init : PySem.W.findIn K (.ref c_NotTyped) "__init__" = some (some (.ref f_NotTyped_init)))
    (t_NotTyped_init : PySem.W.typeIn K (.ref f_NotTyped_init) = some (.type "function"))
    (l_NotTyped_init : K.lookup f_NotTyped_init = some ⟨oc_NotTyped_init, od_NotTyped_init, .func (PySem.W.fnOf "__init__" "NotTyped.__init__" (defArgs s_NotTyped_init) (defBody s_NotTyped_init) (defScope s_NotTyped_init) .none kV_NotTyped_init dc_NotTyped_init pm_NotTyped_init an_NotTyped_init cd_NotTyped_init ct_NotTyped_init), sl_NotTyped_init⟩)
    (cc_NotTyped_init : PySem.W.codeIn K cd_NotTyped_init "NotTyped.__init__" = true)
    (k_NotTyped_init : PySem.W.keepIn K (.ref f_NotTyped_init) = true)
    (a_Refused_init : PySem.W.findIn K (.ref c_Refused) "__init__" = some (some (.ref f_Refused_init)))
    (t_Refused_init : PySem.W.typeIn K (.ref f_Refused_init) = some (.type "function"))
    (l_Refused_init : K.lookup f_Refused_init = some ⟨oc_Refused_init, od_Refused_init, .func (PySem.W.fnOf "__init__" "Refused.__init__" (defArgs s_Refused_init) (defBody s_Refused_init) (defScope s_Refused_init) .none kV_Refused_init dc_Refused_init pm_Refused_init an_Refused_init cd_Refused_init ct_Refused_init), sl_Refused_init⟩)
    (cc_Refused_init : PySem.W.codeIn K cd_Refused_init "Refused.__init__" = true)
    (k_Refused_init : PySem.W.keepIn K (.ref f_Refused_init) = true)
    (a_Shut_init : PySem.W.findIn K (.ref c_Shut) "__init__" = some (some (.ref f_Shut_init)))
    (t_Shut_init : PySem.W.typeIn K (.ref f_Shut_init) = some (.type "function"))
    (l_Shut_init : K.lookup f_Shut_init = some ⟨oc_Shut_init, od_Shut_init, .func (PySem.W.fnOf "__init__" "Shut.__init__" (defArgs s_Shut_init) (defBody s_Shut_init) (defScope s_Shut_init) .none kV_Shut_init dc_Shut_init pm_Shut_init an_Shut_init cd_Shut_init ct_Shut_init), sl_Shut_init⟩)
    (cc_Shut_init : PySem.W.codeIn K cd_Shut_init "Shut.__init__" = true)
    (k_Shut_init : PySem.W.keepIn K (.ref f_Shut_init) = true)
    (a_TooMany_init : PySem.W.findIn K (.ref c_TooMany) "__init__" = some (some (.ref f_TooMany_init)))
    (t_TooMany_init : PySem.W.typeIn K (.ref f_TooMany_init) = some (.type "function"))
    (l_TooMany_init : K.lookup f_TooMany_init = some ⟨oc_TooMany_init, od_TooMany_init, .func (PySem.W.fnOf "__init__" "TooMany.__init__" (defArgs s_TooMany_init) (defBody s_TooMany_init) (defScope s_TooMany_init) .none kV_TooMany_init dc_TooMany_init pm_TooMany_init an_TooMany_init cd_TooMany_init ct_TooMany_init), sl_TooMany_init⟩)
    (cc_TooMany_init : PySem.W.codeIn K cd_TooMany_init "TooMany.__init__" = true)
    (k_TooMany_init : PySem.W.keepIn K (.ref f_TooMany_init) = true)
    (a_is_name : PySem.W.nsIn K mainGlobals "is_name" = some (some (.ref f_is_name)))
    (l_is_name : K.lookup f_is_name = some ⟨oc_is_name, od_is_name, .func (PySem.W.fnOf "is_name" "is_name" (defArgs s_is_name) (defBody s_is_name) (defScope s_is_name) .none kV_is_name dc_is_name pm_is_name an_is_name cd_is_name ct_is_name), sl_is_name⟩)
    (cc_is_name : PySem.W.codeIn K cd_is_name "is_name" = true)
    (k_is_name : PySem.W.keepIn K (.ref f_is_name) = true)
    (a_is_int : PySem.W.nsIn K mainGlobals "is_int" = some (some (.ref f_is_int)))
    (l_is_int : K.lookup f_is_int = some ⟨oc_is_int, od_is_int, .func (PySem.W.fnOf "is_int" "is_int" (defArgs s_is_int) (defBody s_is_int) (defScope s_is_int) .none kV_is_int dc_is_int pm_is_int an_is_int cd_is_int ct_is_int), sl_is_int⟩)
    (cc_is_int : PySem.W.codeIn K cd_is_int "is_int" = true)
    (k_is_int : PySem.W.keepIn K (.ref f_is_int) = true)
    (a_check_name : PySem.W.nsIn K mainGlobals "check_name" = some (some (.ref f_check_name)))
    (l_check_name : K.lookup f_check_name = some ⟨oc_check_name, od_check_name, .func (PySem.W.fnOf "check_name" "check_name" (defArgs s_check_name) (defBody s_check_name) (defScope s_check_name) .none kV_check_name dc_check_name pm_check_name an_check_name cd_check_name ct_check_name), sl_check_name⟩)
    (cc_check_name : PySem.W.codeIn K cd_check_name "check_name" = true)
    (k_check_name : PySem.W.keepIn K (.ref f_check_name) = true)
    (a_check_operand : PySem.W.nsIn K mainGlobals "check_operand" = some (some (.ref f_check_operand)))
    (l_check_operand : K.lookup f_check_operand = some ⟨oc_check_operand, od_check_operand, .func (PySem.W.fnOf "check_operand" "check_operand" (defArgs s_check_operand) (defBody s_check_operand) (defScope s_check_operand) .none kV_check_operand dc_check_operand pm_check_operand an_check_operand cd_check_operand ct_check_operand), sl_check_operand⟩)
    (cc_check_operand : PySem.W.codeIn K cd_check_operand "check_operand" = true)
    (k_check_operand : PySem.W.keepIn K (.ref f_check_operand) = true)
    (a_law_deck : PySem.W.nsIn K mainGlobals "_law_deck" = some (some (.ref f_law_deck)))
    (l_law_deck : K.lookup f_law_deck = some ⟨oc_law_deck, od_law_deck, .func (PySem.W.fnOf "_law_deck" "_law_deck" (defArgs s_law_deck) (defBody s_law_deck) (defScope s_law_deck) .none kV_law_deck dc_law_deck pm_law_deck an_law_deck cd_law_deck ct_law_deck), sl_law_deck⟩)
    (cc_law_deck : PySem.W.codeIn K cd_law_deck "_law_deck" = true)
    (k_law_deck : PySem.W.keepIn K (.ref f_law_deck) = true)
    (a_law_draw : PySem.W.nsIn K mainGlobals "_law_draw" = some (some (.ref f_law_draw)))
    (l_law_draw : K.lookup f_law_draw = some ⟨oc_law_draw, od_law_draw, .func (PySem.W.fnOf "_law_draw" "_law_draw" (defArgs s_law_draw) (defBody s_law_draw) (defScope s_law_draw) .none kV_law_draw dc_law_draw pm_law_draw an_law_draw cd_law_draw ct_law_draw), sl_law_draw⟩)
    (cc_law_draw : PySem.W.codeIn K cd_law_draw "_law_draw" = true)
    (k_law_draw : PySem.W.keepIn K (.ref f_law_draw) = true)
    (a_law_of : PySem.W.nsIn K mainGlobals "_law_of" = some (some (.ref f_law_of)))
    (l_law_of : K.lookup f_law_of = some ⟨oc_law_of, od_law_of, .func (PySem.W.fnOf "_law_of" "_law_of" (defArgs s_law_of) (defBody s_law_of) (defScope s_law_of) .none kV_law_of dc_law_of pm_law_of an_law_of cd_law_of ct_law_of), sl_law_of⟩)
    (cc_law_of : PySem.W.codeIn K cd_law_of "_law_of" = true)
    (k_law_of : PySem.W.keepIn K (.ref f_law_of) = true)
    (a_law_number : PySem.W.nsIn K mainGlobals "_law_number" = some (some (.ref f_law_number)))
    (l_law_number : K.lookup f_law_number = some ⟨oc_law_number, od_law_number, .func (PySem.W.fnOf "_law_number" "_law_number" (defArgs s_law_number) (defBody s_law_number) (defScope s_law_number) .none kV_law_number dc_law_number pm_law_number an_law_number cd_law_number ct_law_number), sl_law_number⟩)
    (cc_law_number : PySem.W.codeIn K cd_law_number "_law_number" = true)
    (k_law_number : PySem.W.keepIn K (.ref f_law_number) = true)
    (a_law_names : PySem.W.nsIn K mainGlobals "_law_names" = some (some (.ref f_law_names)))
    (l_law_names : K.lookup f_law_names = some ⟨oc_law_names, od_law_names, .func (PySem.W.fnOf "_law_names" "_law_names" (defArgs s_law_names) (defBody s_law_names) (defScope s_law_names) .none kV_law_names dc_law_names pm_law_names an_law_names cd_law_names ct_law_names), sl_law_names⟩)
    (cc_law_names : PySem.W.codeIn K cd_law_names "_law_names" = true)
    (k_law_names : PySem.W.keepIn K (.ref f_law_names) = true)
    (a_law_thing : PySem.W.nsIn K mainGlobals "_law_thing" = some (some (.ref f_law_thing)))
    (l_law_thing : K.lookup f_law_thing = some ⟨oc_law_thing, od_law_thing, .func (PySem.W.fnOf "_law_thing" "_law_thing" (defArgs s_law_thing) (defBody s_law_thing) (defScope s_law_thing) .none kV_law_thing dc_law_thing pm_law_thing an_law_thing cd_law_thing ct_law_thing), sl_law_thing⟩)
    (cc_law_thing : PySem.W.codeIn K cd_law_thing "_law_thing" = true)
    (k_law_thing : PySem.W.keepIn K (.ref f_law_thing) = true)
    (a_law_made : PySem.W.nsIn K mainGlobals "_law_made" = some (some (.ref f_law_made)))
    (l_law_made : K.lookup f_law_made = some ⟨oc_law_made, od_law_made, .func (PySem.W.fnOf "_law_made" "_law_made" (defArgs s_law_made) (defBody s_law_made) (defScope s_law_made) .none kV_law_made dc_law_made pm_law_made an_law_made cd_law_made ct_law_made), sl_law_made⟩)
    (cc_law_made : PySem.W.codeIn K cd_law_made "_law_made" = true)
    (k_law_made : PySem.W.keepIn K (.ref f_law_made) = true)
    (a_law_made_by_name : PySem.W.nsIn K mainGlobals "_law_made_by_name" = some (some (.ref f_law_made_by_name)))
    (l_law_made_by_name : K.lookup f_law_made_by_name = some ⟨oc_law_made_by_name, od_law_made_by_name, .func (PySem.W.fnOf "_law_made_by_name" "_law_made_by_name" (defArgs s_law_made_by_name) (defBody s_law_made_by_name) (defScope s_law_made_by_name) .none kV_law_made_by_name dc_law_made_by_name pm_law_made_by_name an_law_made_by_name cd_law_made_by_name ct_law_made_by_name), sl_law_made_by_name⟩)
    (cc_law_made_by_name : PySem.W.codeIn K cd_law_made_by_name "_law_made_by_name" = true)
    (k_law_made_by_name : PySem.W.keepIn K (.ref f_law_made_by_name) = true)
    (a_law_is_checked : PySem.W.nsIn K mainGlobals "_law_is_checked" = some (some (.ref f_law_is_checked)))
    (l_law_is_checked : K.lookup f_law_is_checked = some ⟨oc_law_is_checked, od_law_is_checked, .func (PySem.W.fnOf "_law_is_checked" "_law_is_checked" (defArgs s_law_is_checked) (defBody s_law_is_checked) (defScope s_law_is_checked) .none kV_law_is_checked dc_law_is_checked pm_law_is_checked an_law_is_checked cd_law_is_checked ct_law_is_checked), sl_law_is_checked⟩)
    (cc_law_is_checked : PySem.W.codeIn K cd_law_is_checked "_law_is_checked" = true)
    (k_law_is_checked : PySem.W.keepIn K (.ref f_law_is_checked) = true)
    (a_law_has : PySem.W.nsIn K mainGlobals "_law_has" = some (some (.ref f_law_has)))
    (l_law_has : K.lookup f_law_has = some ⟨oc_law_has, od_law_has, .func (PySem.W.fnOf "_law_has" "_law_has" (defArgs s_law_has) (defBody s_law_has) (defScope s_law_has) .none kV_law_has dc_law_has pm_law_has an_law_has cd_law_has ct_law_has), sl_law_has⟩)
    (cc_law_has : PySem.W.codeIn K cd_law_has "_law_has" = true)
    (k_law_has : PySem.W.keepIn K (.ref f_law_has) = true)
    (a_law_kinds : PySem.W.nsIn K mainGlobals "_law_kinds" = some (some (.ref f_law_kinds)))
    (l_law_kinds : K.lookup f_law_kinds = some ⟨oc_law_kinds, od_law_kinds, .func (PySem.W.fnOf "_law_kinds" "_law_kinds" (defArgs s_law_kinds) (defBody s_law_kinds) (defScope s_law_kinds) .none kV_law_kinds dc_law_kinds pm_law_kinds an_law_kinds cd_law_kinds ct_law_kinds), sl_law_kinds⟩)
    (cc_law_kinds : PySem.W.codeIn K cd_law_kinds "_law_kinds" = true)
    (k_law_kinds : PySem.W.keepIn K (.ref f_law_kinds) = true)
    (a_law_above : PySem.W.nsIn K mainGlobals "_law_above" = some (some (.ref f_law_above)))
    (l_law_above : K.lookup f_law_above = some ⟨oc_law_above, od_law_above, .func (PySem.W.fnOf "_law_above" "_law_above" (defArgs s_law_above) (defBody s_law_above) (defScope s_law_above) .none kV_law_above dc_law_above pm_law_above an_law_above cd_law_above ct_law_above), sl_law_above⟩)
    (cc_law_above : PySem.W.codeIn K cd_law_above "_law_above" = true)
    (k_law_above : PySem.W.keepIn K (.ref f_law_above) = true)
    (a_law : PySem.W.nsIn K mainGlobals "law" = some (some (.ref f_law)))
    (l_law : K.lookup f_law = some ⟨oc_law, od_law, .func (PySem.W.fnOf "law" "law" (defArgs s_law) (defBody s_law) (defScope s_law) .none kV_law dc_law pm_law an_law cd_law ct_law), sl_law⟩)
    (cc_law : PySem.W.codeIn K cd_law "law" = true)
    (k_law : PySem.W.keepIn K (.ref f_law) = true)
    (n_BadName : PySem.W.nsIn K mainGlobals "BadName" = some (some (.ref c_BadName)))
    (x_BadName : K.lookup c_BadName = some (excClassObj nm_BadName q_BadName c_BadName N_BadName bs_BadName [.type "ValueError", .type "Exception", .type "BaseException", .type "object"] true sn_BadName sub_BadName ab_BadName col_BadName dd_BadName m0_BadName m1_BadName m2_BadName m3_BadName m5_BadName "ValueError.__new__"))
    (sa_BadName : PySem.W.findIn K (.ref c_BadName) "__setattr__" = some (some (.builtin "object.__setattr__")))
    (ga_BadName : PySem.W.findIn K (.ref c_BadName) "__getattribute__" = some (some (.builtin "BaseException.__getattribute__")))
    (gg_BadName : PySem.W.findIn K (.ref c_BadName) "__getattr__" = some none)
    (eC_BadName : PySem.W.subIn K (.ref c_BadName) (.type "BaseException") = some true)
    (tC_BadName : PySem.W.typeIn K (.ref c_BadName) = some (.type "type"))
    (kC_BadName : PySem.W.keepIn K (.ref c_BadName) = true)
    (hC_BadName : PySem.W.hasDictIn K c_BadName = true)
    (iC_BadName : PySem.W.isClsIn K c_BadName = true)
    (sC_BadName : PySem.W.subIn K (.ref c_BadName) (.ref c_BadName) = some true)
    (va_BadName : PySem.W.findIn K (.ref c_BadName) "__class__" = some (some (.builtin "object.__class__")))
    (vn_all : PySem.W.specialIn K (.builtin "object.__class__") "__get__" = some (some (.builtin "getset_descriptor.__get__")))
    (vt_all : PySem.W.takesIn K (.builtin "object.__class__") = some true)
    (vm_BadName : PySem.W.mroIn K c_BadName (.type "object") = some true)
    (z_BadName_name : PySem.W.findIn K (.ref c_BadName) "name" = some none)
    (n_BadValue : PySem.W.nsIn K mainGlobals "BadValue" = some (some (.ref c_BadValue)))
    (x_BadValue : K.lookup c_BadValue = some (excClassObj nm_BadValue q_BadValue c_BadValue N_BadValue bs_BadValue [.type "ValueError", .type "Exception", .type "BaseException", .type "object"] true sn_BadValue sub_BadValue ab_BadValue col_BadValue dd_BadValue m0_BadValue m1_BadValue m2_BadValue m3_BadValue m5_BadValue "ValueError.__new__"))
    (sa_BadValue : PySem.W.findIn K (.ref c_BadValue) "__setattr__" = some (some (.builtin "object.__setattr__")))
    (ga_BadValue : PySem.W.findIn K (.ref c_BadValue) "__getattribute__" = some (some (.builtin "BaseException.__getattribute__")))
    (gg_BadValue : PySem.W.findIn K (.ref c_BadValue) "__getattr__" = some none)
    (eC_BadValue : PySem.W.subIn K (.ref c_BadValue) (.type "BaseException") = some true)
    (tC_BadValue : PySem.W.typeIn K (.ref c_BadValue) = some (.type "type"))
    (kC_BadValue : PySem.W.keepIn K (.ref c_BadValue) = true)
    (hC_BadValue : PySem.W.hasDictIn K c_BadValue = true)
    (iC_BadValue : PySem.W.isClsIn K c_BadValue = true)
    (sC_BadValue : PySem.W.subIn K (.ref c_BadValue) (.ref c_BadValue) = some true)
    (va_BadValue : PySem.W.findIn K (.ref c_BadValue) "__class__" = some (some (.builtin "object.__class__")))
    (vm_BadValue : PySem.W.mroIn K c_BadValue (.type "object") = some true)
    (z_BadValue_value : PySem.W.findIn K (.ref c_BadValue) "value" = some none)
    (n_BadTest : PySem.W.nsIn K mainGlobals "BadTest" = some (some (.ref c_BadTest)))
    (x_BadTest : K.lookup c_BadTest = some (excClassObj nm_BadTest q_BadTest c_BadTest N_BadTest bs_BadTest [.type "ValueError", .type "Exception", .type "BaseException", .type "object"] true sn_BadTest sub_BadTest ab_BadTest col_BadTest dd_BadTest m0_BadTest m1_BadTest m2_BadTest m3_BadTest m5_BadTest "ValueError.__new__"))
    (sa_BadTest : PySem.W.findIn K (.ref c_BadTest) "__setattr__" = some (some (.builtin "object.__setattr__")))
    (ga_BadTest : PySem.W.findIn K (.ref c_BadTest) "__getattribute__" = some (some (.builtin "BaseException.__getattribute__")))
    (gg_BadTest : PySem.W.findIn K (.ref c_BadTest) "__getattr__" = some none)
    (eC_BadTest : PySem.W.subIn K (.ref c_BadTest) (.type "BaseException") = some true)
    (tC_BadTest : PySem.W.typeIn K (.ref c_BadTest) = some (.type "type"))
    (kC_BadTest : PySem.W.keepIn K (.ref c_BadTest) = true)
    (hC_BadTest : PySem.W.hasDictIn K c_BadTest = true)
    (iC_BadTest : PySem.W.isClsIn K c_BadTest = true)
    (sC_BadTest : PySem.W.subIn K (.ref c_BadTest) (.ref c_BadTest) = some true)
    (va_BadTest : PySem.W.findIn K (.ref c_BadTest) "__class__" = some (some (.builtin "object.__class__")))
    (vm_BadTest : PySem.W.mroIn K c_BadTest (.type "object") = some true)
    (z_BadTest_test : PySem.W.findIn K (.ref c_BadTest) "test" = some none)
    (n_BadStep : PySem.W.nsIn K mainGlobals "BadStep" = some (some (.ref c_BadStep)))
    (x_BadStep : K.lookup c_BadStep = some (excClassObj nm_BadStep q_BadStep c_BadStep N_BadStep bs_BadStep [.type "ValueError", .type "Exception", .type "BaseException", .type "object"] true sn_BadStep sub_BadStep ab_BadStep col_BadStep dd_BadStep m0_BadStep m1_BadStep m2_BadStep m3_BadStep m5_BadStep "ValueError.__new__"))
    (sa_BadStep : PySem.W.findIn K (.ref c_BadStep) "__setattr__" = some (some (.builtin "object.__setattr__")))
    (ga_BadStep : PySem.W.findIn K (.ref c_BadStep) "__getattribute__" = some (some (.builtin "BaseException.__getattribute__")))
    (gg_BadStep : PySem.W.findIn K (.ref c_BadStep) "__getattr__" = some none)
    (eC_BadStep : PySem.W.subIn K (.ref c_BadStep) (.type "BaseException") = some true)
    (tC_BadStep : PySem.W.typeIn K (.ref c_BadStep) = some (.type "type"))
    (kC_BadStep : PySem.W.keepIn K (.ref c_BadStep) = true)
    (hC_BadStep : PySem.W.hasDictIn K c_BadStep = true)
    (iC_BadStep : PySem.W.isClsIn K c_BadStep = true)
    (sC_BadStep : PySem.W.subIn K (.ref c_BadStep) (.ref c_BadStep) = some true)
    (va_BadStep : PySem.W.findIn K (.ref c_BadStep) "__class__" = some (some (.builtin "object.__class__")))
    (vm_BadStep : PySem.W.mroIn K c_BadStep (.type "object") = some true)
    (z_BadStep_index : PySem.W.findIn K (.ref c_BadStep) "index" = some none)
    (n_BadFail : PySem.W.nsIn K mainGlobals "BadFail" = some (some (.ref c_BadFail)))
    (x_BadFail : K.lookup c_BadFail = some (excClassObj nm_BadFail q_BadFail c_BadFail N_BadFail bs_BadFail [.type "ValueError", .type "Exception", .type "BaseException", .type "object"] true sn_BadFail sub_BadFail ab_BadFail col_BadFail dd_BadFail m0_BadFail m1_BadFail m2_BadFail m3_BadFail m5_BadFail "ValueError.__new__"))
    (sa_BadFail : PySem.W.findIn K (.ref c_BadFail) "__setattr__" = some (some (.builtin "object.__setattr__")))
    (ga_BadFail : PySem.W.findIn K (.ref c_BadFail) "__getattribute__" = some (some (.builtin "BaseException.__getattribute__")))
    (gg_BadFail : PySem.W.findIn K (.ref c_BadFail) "__getattr__" = some none)
    (eC_BadFail : PySem.W.subIn K (.ref c_BadFail) (.type "BaseException") = some true)
    (tC_BadFail : PySem.W.typeIn K (.ref c_BadFail) = some (.type "type"))
    (kC_BadFail : PySem.W.keepIn K (.ref c_BadFail) = true)
    (hC_BadFail : PySem.W.hasDictIn K c_BadFail = true)
    (iC_BadFail : PySem.W.isClsIn K c_BadFail = true)
    (sC_BadFail : PySem.W.subIn K (.ref c_BadFail) (.ref c_BadFail) = some true)
    (va_BadFail : PySem.W.findIn K (.ref c_BadFail) "__class__" = some (some (.builtin "object.__class__")))
    (vm_BadFail : PySem.W.mroIn K c_BadFail (.type "object") = some true)
    (z_BadFail_index : PySem.W.findIn K (.ref c_BadFail) "index" = some none)
    (n_BadPair : PySem.W.nsIn K mainGlobals "BadPair" = some (some (.ref c_BadPair)))
    (x_BadPair : K.lookup c_BadPair = some (excClassObj nm_BadPair q_BadPair c_BadPair N_BadPair bs_BadPair [.type "ValueError", .type "Exception", .type "BaseException", .type "object"] true sn_BadPair sub_BadPair ab_BadPair col_BadPair dd_BadPair m0_BadPair m1_BadPair m2_BadPair m3_BadPair m5_BadPair "ValueError.__new__"))
    (sa_BadPair : PySem.W.findIn K (.ref c_BadPair) "__setattr__" = some (some (.builtin "object.__setattr__")))
    (ga_BadPair : PySem.W.findIn K (.ref c_BadPair) "__getattribute__" = some (some (.builtin "BaseException.__getattribute__")))
    (gg_BadPair : PySem.W.findIn K (.ref c_BadPair) "__getattr__" = some none)
    (eC_BadPair : PySem.W.subIn K (.ref c_BadPair) (.type "BaseException") = some true)
    (tC_BadPair : PySem.W.typeIn K (.ref c_BadPair) = some (.type "type"))
    (kC_BadPair : PySem.W.keepIn K (.ref c_BadPair) = true)
    (hC_BadPair : PySem.W.hasDictIn K c_BadPair = true)
    (iC_BadPair : PySem.W.isClsIn K c_BadPair = true)
    (sC_BadPair : PySem.W.subIn K (.ref c_BadPair) (.ref c_BadPair) = some true)
    (va_BadPair : PySem.W.findIn K (.ref c_BadPair) "__class__" = some (some (.builtin "object.__class__")))
    (vm_BadPair : PySem.W.mroIn K c_BadPair (.type "object") = some true)
    (z_BadPair_index : PySem.W.findIn K (.ref c_BadPair) "index" = some none)
    (n_BadKind : PySem.W.nsIn K mainGlobals "BadKind" = some (some (.ref c_BadKind)))
    (x_BadKind : K.lookup c_BadKind = some (excClassObj nm_BadKind q_BadKind c_BadKind N_BadKind bs_BadKind [.type "ValueError", .type "Exception", .type "BaseException", .type "object"] true sn_BadKind sub_BadKind ab_BadKind col_BadKind dd_BadKind m0_BadKind m1_BadKind m2_BadKind m3_BadKind m5_BadKind "ValueError.__new__"))
    (sa_BadKind : PySem.W.findIn K (.ref c_BadKind) "__setattr__" = some (some (.builtin "object.__setattr__")))
    (ga_BadKind : PySem.W.findIn K (.ref c_BadKind) "__getattribute__" = some (some (.builtin "BaseException.__getattribute__")))
    (gg_BadKind : PySem.W.findIn K (.ref c_BadKind) "__getattr__" = some none)
    (eC_BadKind : PySem.W.subIn K (.ref c_BadKind) (.type "BaseException") = some true)
    (tC_BadKind : PySem.W.typeIn K (.ref c_BadKind) = some (.type "type"))
    (kC_BadKind : PySem.W.keepIn K (.ref c_BadKind) = true)
    (hC_BadKind : PySem.W.hasDictIn K c_BadKind = true)
    (iC_BadKind : PySem.W.isClsIn K c_BadKind = true)
    (sC_BadKind : PySem.W.subIn K (.ref c_BadKind) (.ref c_BadKind) = some true)
    (va_BadKind : PySem.W.findIn K (.ref c_BadKind) "__class__" = some (some (.builtin "object.__class__")))
    (vm_BadKind : PySem.W.mroIn K c_BadKind (.type "object") = some true)
    (z_BadKind_kind : PySem.W.findIn K (.ref c_BadKind) "kind" = some none)
    (n_BadMend : PySem.W.nsIn K mainGlobals "BadMend" = some (some (.ref c_BadMend)))
    (x_BadMend : K.lookup c_BadMend = some (excClassObj nm_BadMend q_BadMend c_BadMend N_BadMend bs_BadMend [.type "ValueError", .type "Exception", .type "BaseException", .type "object"] true sn_BadMend sub_BadMend ab_BadMend col_BadMend dd_BadMend m0_BadMend m1_BadMend m2_BadMend m3_BadMend m5_BadMend "ValueError.__new__"))
    (sa_BadMend : PySem.W.findIn K (.ref c_BadMend) "__setattr__" = some (some (.builtin "object.__setattr__")))
    (ga_BadMend : PySem.W.findIn K (.ref c_BadMend) "__getattribute__" = some (some (.builtin "BaseException.__getattribute__")))
    (gg_BadMend : PySem.W.findIn K (.ref c_BadMend) "__getattr__" = some none)
    (eC_BadMend : PySem.W.subIn K (.ref c_BadMend) (.type "BaseException") = some true)
    (tC_BadMend : PySem.W.typeIn K (.ref c_BadMend) = some (.type "type"))
    (kC_BadMend : PySem.W.keepIn K (.ref c_BadMend) = true)
    (hC_BadMend : PySem.W.hasDictIn K c_BadMend = true)
    (iC_BadMend : PySem.W.isClsIn K c_BadMend = true)
    (sC_BadMend : PySem.W.subIn K (.ref c_BadMend) (.ref c_BadMend) = some true)
    (va_BadMend : PySem.W.findIn K (.ref c_BadMend) "__class__" = some (some (.builtin "object.__class__")))
    (vm_BadMend : PySem.W.mroIn K c_BadMend (.type "object") = some true)
    (z_BadMend_index : PySem.W.findIn K (.ref c_BadMend) "index" = some none)
    (n_BadText : PySem.W.nsIn K mainGlobals "BadText" = some (some (.ref c_BadText)))
    (x_BadText : K.lookup c_BadText = some (excClassObj nm_BadText q_BadText c_BadText N_BadText bs_BadText [.type "ValueError", .type "Exception", .type "BaseException", .type "object"] true sn_BadText sub_BadText ab_BadText col_BadText dd_BadText m0_BadText m1_BadText m2_BadText m3_BadText m5_BadText "ValueError.__new__"))
    (sa_BadText : PySem.W.findIn K (.ref c_BadText) "__setattr__" = some (some (.builtin "object.__setattr__")))
    (ga_BadText : PySem.W.findIn K (.ref c_BadText) "__getattribute__" = some (some (.builtin "BaseException.__getattribute__")))
    (gg_BadText : PySem.W.findIn K (.ref c_BadText) "__getattr__" = some none)
    (eC_BadText : PySem.W.subIn K (.ref c_BadText) (.type "BaseException") = some true)
    (tC_BadText : PySem.W.typeIn K (.ref c_BadText) = some (.type "type"))
    (kC_BadText : PySem.W.keepIn K (.ref c_BadText) = true)
    (hC_BadText : PySem.W.hasDictIn K c_BadText = true)
    (iC_BadText : PySem.W.isClsIn K c_BadText = true)
    (sC_BadText : PySem.W.subIn K (.ref c_BadText) (.ref c_BadText) = some true)
    (va_BadText : PySem.W.findIn K (.ref c_BadText) "__class__" = some (some (.builtin "object.__class__")))
    (vm_BadText : PySem.W.mroIn K c_BadText (.type "object") = some true)
    (z_BadText_line : PySem.W.findIn K (.ref c_BadText) "line" = some none)
    (n_BadCommand : PySem.W.nsIn K mainGlobals "BadCommand" = some (some (.ref c_BadCommand)))
    (x_BadCommand : K.lookup c_BadCommand = some (excClassObj nm_BadCommand q_BadCommand c_BadCommand N_BadCommand bs_BadCommand [.type "ValueError", .type "Exception", .type "BaseException", .type "object"] true sn_BadCommand sub_BadCommand ab_BadCommand col_BadCommand dd_BadCommand m0_BadCommand m1_BadCommand m2_BadCommand m3_BadCommand m5_BadCommand "ValueError.__new__"))
    (sa_BadCommand : PySem.W.findIn K (.ref c_BadCommand) "__setattr__" = some (some (.builtin "object.__setattr__")))
    (ga_BadCommand : PySem.W.findIn K (.ref c_BadCommand) "__getattribute__" = some (some (.builtin "BaseException.__getattribute__")))
    (gg_BadCommand : PySem.W.findIn K (.ref c_BadCommand) "__getattr__" = some none)
    (eC_BadCommand : PySem.W.subIn K (.ref c_BadCommand) (.type "BaseException") = some true)
    (tC_BadCommand : PySem.W.typeIn K (.ref c_BadCommand) = some (.type "type"))
    (kC_BadCommand : PySem.W.keepIn K (.ref c_BadCommand) = true)
    (hC_BadCommand : PySem.W.hasDictIn K c_BadCommand = true)
    (iC_BadCommand : PySem.W.isClsIn K c_BadCommand = true)
    (sC_BadCommand : PySem.W.subIn K (.ref c_BadCommand) (.ref c_BadCommand) = some true)
    (va_BadCommand : PySem.W.findIn K (.ref c_BadCommand) "__class__" = some (some (.builtin "object.__class__")))
    (vm_BadCommand : PySem.W.mroIn K c_BadCommand (.type "object") = some true)
    (z_BadCommand_command : PySem.W.findIn K (.ref c_BadCommand) "command" = some none)
    (n_Twice : PySem.W.nsIn K mainGlobals "Twice" = some (some (.ref c_Twice)))
    (x_Twice : K.lookup c_Twice = some (excClassObj nm_Twice q_Twice c_Twice N_Twice bs_Twice [.type "ValueError", .type "Exception", .type "BaseException", .type "object"] true sn_Twice sub_Twice ab_Twice col_Twice dd_Twice m0_Twice m1_Twice m2_Twice m3_Twice m5_Twice "ValueError.__new__"))
    (sa_Twice : PySem.W.findIn K (.ref c_Twice) "__setattr__" = some (some (.builtin "object.__setattr__")))
    (ga_Twice : PySem.W.findIn K (.ref c_Twice) "__getattribute__" = some (some (.builtin "BaseException.__getattribute__")))
    (gg_Twice : PySem.W.findIn K (.ref c_Twice) "__getattr__" = some none)
    (eC_Twice : PySem.W.subIn K (.ref c_Twice) (.type "BaseException") = some true)
    (tC_Twice : PySem.W.typeIn K (.ref c_Twice) = some (.type "type"))
    (kC_Twice : PySem.W.keepIn K (.ref c_Twice) = true)
    (hC_Twice : PySem.W.hasDictIn K c_Twice = true)
    (iC_Twice : PySem.W.isClsIn K c_Twice = true)
    (sC_Twice : PySem.W.subIn K (.ref c_Twice) (.ref c_Twice) = some true)
    (va_Twice : PySem.W.findIn K (.ref c_Twice) "__class__" = some (some (.builtin "object.__class__")))
    (vm_Twice : PySem.W.mroIn K c_Twice (.type "object") = some true)
    (z_Twice_name : PySem.W.findIn K (.ref c_Twice) "name" = some none)
    (n_Taken : PySem.W.nsIn K mainGlobals "Taken" = some (some (.ref c_Taken)))
    (x_Taken : K.lookup c_Taken = some (excClassObj nm_Taken q_Taken c_Taken N_Taken bs_Taken [.type "ValueError", .type "Exception", .type "BaseException", .type "object"] true sn_Taken sub_Taken ab_Taken col_Taken dd_Taken m0_Taken m1_Taken m2_Taken m3_Taken m5_Taken "ValueError.__new__"))
    (sa_Taken : PySem.W.findIn K (.ref c_Taken) "__setattr__" = some (some (.builtin "object.__setattr__")))
    (ga_Taken : PySem.W.findIn K (.ref c_Taken) "__getattribute__" = some (some (.builtin "BaseException.__getattribute__")))
    (gg_Taken : PySem.W.findIn K (.ref c_Taken) "__getattr__" = some none)
    (eC_Taken : PySem.W.subIn K (.ref c_Taken) (.type "BaseException") = some true)
    (tC_Taken : PySem.W.typeIn K (.ref c_Taken) = some (.type "type"))
    (kC_Taken : PySem.W.keepIn K (.ref c_Taken) = true)
    (hC_Taken : PySem.W.hasDictIn K c_Taken = true)
    (iC_Taken : PySem.W.isClsIn K c_Taken = true)
    (sC_Taken : PySem.W.subIn K (.ref c_Taken) (.ref c_Taken) = some true)
    (va_Taken : PySem.W.findIn K (.ref c_Taken) "__class__" = some (some (.builtin "object.__class__")))
    (vm_Taken : PySem.W.mroIn K c_Taken (.type "object") = some true)
    (z_Taken_name : PySem.W.findIn K (.ref c_Taken) "name" = some none)
    (n_Misplaced : PySem.W.nsIn K mainGlobals "Misplaced" = some (some (.ref c_Misplaced)))
    (x_Misplaced : K.lookup c_Misplaced = some (excClassObj nm_Misplaced q_Misplaced c_Misplaced N_Misplaced bs_Misplaced [.type "ValueError", .type "Exception", .type "BaseException", .type "object"] true sn_Misplaced sub_Misplaced ab_Misplaced col_Misplaced dd_Misplaced m0_Misplaced m1_Misplaced m2_Misplaced m3_Misplaced m5_Misplaced "ValueError.__new__"))
    (sa_Misplaced : PySem.W.findIn K (.ref c_Misplaced) "__setattr__" = some (some (.builtin "object.__setattr__")))
    (ga_Misplaced : PySem.W.findIn K (.ref c_Misplaced) "__getattribute__" = some (some (.builtin "BaseException.__getattribute__")))
    (gg_Misplaced : PySem.W.findIn K (.ref c_Misplaced) "__getattr__" = some none)
    (eC_Misplaced : PySem.W.subIn K (.ref c_Misplaced) (.type "BaseException") = some true)
    (tC_Misplaced : PySem.W.typeIn K (.ref c_Misplaced) = some (.type "type"))
    (kC_Misplaced : PySem.W.keepIn K (.ref c_Misplaced) = true)
    (hC_Misplaced : PySem.W.hasDictIn K c_Misplaced = true)
    (iC_Misplaced : PySem.W.isClsIn K c_Misplaced = true)
    (sC_Misplaced : PySem.W.subIn K (.ref c_Misplaced) (.ref c_Misplaced) = some true)
    (va_Misplaced : PySem.W.findIn K (.ref c_Misplaced) "__class__" = some (some (.builtin "object.__class__")))
    (vm_Misplaced : PySem.W.mroIn K c_Misplaced (.type "object") = some true)
    (z_Misplaced_handler : PySem.W.findIn K (.ref c_Misplaced) "handler" = some none)
    (z_Misplaced_number : PySem.W.findIn K (.ref c_Misplaced) "number" = some none)
    (z_Misplaced_name : PySem.W.findIn K (.ref c_Misplaced) "name" = some none)
    (n_Unlike : PySem.W.nsIn K mainGlobals "Unlike" = some (some (.ref c_Unlike)))
    (x_Unlike : K.lookup c_Unlike = some (excClassObj nm_Unlike q_Unlike c_Unlike N_Unlike bs_Unlike [.type "ValueError", .type "Exception", .type "BaseException", .type "object"] true sn_Unlike sub_Unlike ab_Unlike col_Unlike dd_Unlike m0_Unlike m1_Unlike m2_Unlike m3_Unlike m5_Unlike "ValueError.__new__"))
    (sa_Unlike : PySem.W.findIn K (.ref c_Unlike) "__setattr__" = some (some (.builtin "object.__setattr__")))
    (ga_Unlike : PySem.W.findIn K (.ref c_Unlike) "__getattribute__" = some (some (.builtin "BaseException.__getattribute__")))
    (gg_Unlike : PySem.W.findIn K (.ref c_Unlike) "__getattr__" = some none)
    (eC_Unlike : PySem.W.subIn K (.ref c_Unlike) (.type "BaseException") = some true)
    (tC_Unlike : PySem.W.typeIn K (.ref c_Unlike) = some (.type "type"))
    (kC_Unlike : PySem.W.keepIn K (.ref c_Unlike) = true)
    (hC_Unlike : PySem.W.hasDictIn K c_Unlike = true)
    (iC_Unlike : PySem.W.isClsIn K c_Unlike = true)
    (sC_Unlike : PySem.W.subIn K (.ref c_Unlike) (.ref c_Unlike) = some true)
    (va_Unlike : PySem.W.findIn K (.ref c_Unlike) "__class__" = some (some (.builtin "object.__class__")))
    (vm_Unlike : PySem.W.mroIn K c_Unlike (.type "object") = some true)
    (z_Unlike_name : PySem.W.findIn K (.ref c_Unlike) "name" = some none)
    (n_NoHandler : PySem.W.nsIn K mainGlobals "NoHandler" = some (some (.ref c_NoHandler)))
    (x_NoHandler : K.lookup c_NoHandler = some (excClassObj nm_NoHandler q_NoHandler c_NoHandler N_NoHandler bs_NoHandler [.type "LookupError", .type "Exception", .type "BaseException", .type "object"] true sn_NoHandler sub_NoHandler ab_NoHandler col_NoHandler dd_NoHandler m0_NoHandler m1_NoHandler m2_NoHandler m3_NoHandler m5_NoHandler "LookupError.__new__"))
    (sa_NoHandler : PySem.W.findIn K (.ref c_NoHandler) "__setattr__" = some (some (.builtin "object.__setattr__")))
    (ga_NoHandler : PySem.W.findIn K (.ref c_NoHandler) "__getattribute__" = some (some (.builtin "BaseException.__getattribute__")))
    (gg_NoHandler : PySem.W.findIn K (.ref c_NoHandler) "__getattr__" = some none)
    (eC_NoHandler : PySem.W.subIn K (.ref c_NoHandler) (.type "BaseException") = some true)
    (tC_NoHandler : PySem.W.typeIn K (.ref c_NoHandler) = some (.type "type"))
    (kC_NoHandler : PySem.W.keepIn K (.ref c_NoHandler) = true)
    (hC_NoHandler : PySem.W.hasDictIn K c_NoHandler = true)
    (iC_NoHandler : PySem.W.isClsIn K c_NoHandler = true)
    (sC_NoHandler : PySem.W.subIn K (.ref c_NoHandler) (.ref c_NoHandler) = some true)
    (va_NoHandler : PySem.W.findIn K (.ref c_NoHandler) "__class__" = some (some (.builtin "object.__class__")))
    (vm_NoHandler : PySem.W.mroIn K c_NoHandler (.type "object") = some true)
    (z_NoHandler_name : PySem.W.findIn K (.ref c_NoHandler) "name" = some none)
    (n_NoPlace : PySem.W.nsIn K mainGlobals "NoPlace" = some (some (.ref c_NoPlace)))
    (x_NoPlace : K.lookup c_NoPlace = some (excClassObj nm_NoPlace q_NoPlace c_NoPlace N_NoPlace bs_NoPlace [.type "LookupError", .type "Exception", .type "BaseException", .type "object"] true sn_NoPlace sub_NoPlace ab_NoPlace col_NoPlace dd_NoPlace m0_NoPlace m1_NoPlace m2_NoPlace m3_NoPlace m5_NoPlace "LookupError.__new__"))
    (sa_NoPlace : PySem.W.findIn K (.ref c_NoPlace) "__setattr__" = some (some (.builtin "object.__setattr__")))
    (ga_NoPlace : PySem.W.findIn K (.ref c_NoPlace) "__getattribute__" = some (some (.builtin "BaseException.__getattribute__")))
    (gg_NoPlace : PySem.W.findIn K (.ref c_NoPlace) "__getattr__" = some none)
    (eC_NoPlace : PySem.W.subIn K (.ref c_NoPlace) (.type "BaseException") = some true)
    (tC_NoPlace : PySem.W.typeIn K (.ref c_NoPlace) = some (.type "type"))
    (kC_NoPlace : PySem.W.keepIn K (.ref c_NoPlace) = true)
    (hC_NoPlace : PySem.W.hasDictIn K c_NoPlace = true)
    (iC_NoPlace : PySem.W.isClsIn K c_NoPlace = true)
    (sC_NoPlace : PySem.W.subIn K (.ref c_NoPlace) (.ref c_NoPlace) = some true)
    (va_NoPlace : PySem.W.findIn K (.ref c_NoPlace) "__class__" = some (some (.builtin "object.__class__")))
    (vm_NoPlace : PySem.W.mroIn K c_NoPlace (.type "object") = some true)
    (z_NoPlace_name : PySem.W.findIn K (.ref c_NoPlace) "name" = some none)
    (n_NotTyped : PySem.W.nsIn K mainGlobals "NotTyped" = some (some (.ref c_NotTyped)))
    (x_NotTyped : K.lookup c_NotTyped = some (excClassObj nm_NotTyped q_NotTyped c_NotTyped N_NotTyped bs_NotTyped [.type "LookupError", .type "Exception", .type "BaseException", .type "object"] true sn_NotTyped sub_NotTyped ab_NotTyped col_NotTyped dd_NotTyped m0_NotTyped m1_NotTyped m2_NotTyped m3_NotTyped m5_NotTyped "LookupError.__new__"))
    (sa_NotTyped : PySem.W.findIn K (.ref c_NotTyped) "__setattr__" = some (some (.builtin "object.__setattr__")))
    (ga_NotTyped : PySem.W.findIn K (.ref c_NotTyped) "__getattribute__" = some (some (.builtin "BaseException.__getattribute__")))
    (gg_NotTyped : PySem.W.findIn K (.ref c_NotTyped) "__getattr__" = some none)
    (eC_NotTyped : PySem.W.subIn K (.ref c_NotTyped) (.type "BaseException") = some true)
    (tC_NotTyped : PySem.W.typeIn K (.ref c_NotTyped) = some (.type "type"))
    (kC_NotTyped : PySem.W.keepIn K (.ref c_NotTyped) = true)
    (hC_NotTyped : PySem.W.hasDictIn K c_NotTyped = true)
    (iC_NotTyped : PySem.W.isClsIn K c_NotTyped = true)
    (sC_NotTyped : PySem.W.subIn K (.ref c_NotTyped) (.ref c_NotTyped) = some true)
    (va_NotTyped : PySem.W.findIn K (.ref c_NotTyped) "__class__" = some (some (.builtin "object.__class__")))
    (vm_NotTyped : PySem.W.mroIn K c_NotTyped (.type "object") = some true)
    (z_NotTyped_name : PySem.W.findIn K (.ref c_NotTyped) "name" = some none)
    (n_Refused : PySem.W.nsIn K mainGlobals "Refused" = some (some (.ref c_Refused)))
    (x_Refused : K.lookup c_Refused = some (excClassObj nm_Refused q_Refused c_Refused N_Refused bs_Refused [.type "RuntimeError", .type "Exception", .type "BaseException", .type "object"] true sn_Refused sub_Refused ab_Refused col_Refused dd_Refused m0_Refused m1_Refused m2_Refused m3_Refused m5_Refused "RuntimeError.__new__"))
    (sa_Refused : PySem.W.findIn K (.ref c_Refused) "__setattr__" = some (some (.builtin "object.__setattr__")))
    (ga_Refused : PySem.W.findIn K (.ref c_Refused) "__getattribute__" = some (some (.builtin "BaseException.__getattribute__")))
    (gg_Refused : PySem.W.findIn K (.ref c_Refused) "__getattr__" = some none)
    (eC_Refused : PySem.W.subIn K (.ref c_Refused) (.type "BaseException") = some true)
    (tC_Refused : PySem.W.typeIn K (.ref c_Refused) = some (.type "type"))
    (kC_Refused : PySem.W.keepIn K (.ref c_Refused) = true)
    (hC_Refused : PySem.W.hasDictIn K c_Refused = true)
    (iC_Refused : PySem.W.isClsIn K c_Refused = true)
    (sC_Refused : PySem.W.subIn K (.ref c_Refused) (.ref c_Refused) = some true)
    (va_Refused : PySem.W.findIn K (.ref c_Refused) "__class__" = some (some (.builtin "object.__class__")))
    (vm_Refused : PySem.W.mroIn K c_Refused (.type "object") = some true)
    (z_Refused_target : PySem.W.findIn K (.ref c_Refused) "target" = some none)
    (z_Refused_number : PySem.W.findIn K (.ref c_Refused) "number" = some none)
    (n_Shut : PySem.W.nsIn K mainGlobals "Shut" = some (some (.ref c_Shut)))
    (x_Shut : K.lookup c_Shut = some (excClassObj nm_Shut q_Shut c_Shut N_Shut bs_Shut [.type "RuntimeError", .type "Exception", .type "BaseException", .type "object"] true sn_Shut sub_Shut ab_Shut col_Shut dd_Shut m0_Shut m1_Shut m2_Shut m3_Shut m5_Shut "RuntimeError.__new__"))
    (sa_Shut : PySem.W.findIn K (.ref c_Shut) "__setattr__" = some (some (.builtin "object.__setattr__")))
    (ga_Shut : PySem.W.findIn K (.ref c_Shut) "__getattribute__" = some (some (.builtin "BaseException.__getattribute__")))
    (gg_Shut : PySem.W.findIn K (.ref c_Shut) "__getattr__" = some none)
    (eC_Shut : PySem.W.subIn K (.ref c_Shut) (.type "BaseException") = some true)
    (tC_Shut : PySem.W.typeIn K (.ref c_Shut) = some (.type "type"))
    (kC_Shut : PySem.W.keepIn K (.ref c_Shut) = true)
    (hC_Shut : PySem.W.hasDictIn K c_Shut = true)
    (iC_Shut : PySem.W.isClsIn K c_Shut = true)
    (sC_Shut : PySem.W.subIn K (.ref c_Shut) (.ref c_Shut) = some true)
    (va_Shut : PySem.W.findIn K (.ref c_Shut) "__class__" = some (some (.builtin "object.__class__")))
    (vm_Shut : PySem.W.mroIn K c_Shut (.type "object") = some true)
    (z_Shut_name : PySem.W.findIn K (.ref c_Shut) "name" = some none)
    (n_TooMany : PySem.W.nsIn K mainGlobals "TooMany" = some (some (.ref c_TooMany)))
    (x_TooMany : K.lookup c_TooMany = some (excClassObj nm_TooMany q_TooMany c_TooMany N_TooMany bs_TooMany [.type "OverflowError", .type "ArithmeticError", .type "Exception", .type "BaseException", .type "object"] true sn_TooMany sub_TooMany ab_TooMany col_TooMany dd_TooMany m0_TooMany m1_TooMany m2_TooMany m3_TooMany m5_TooMany "OverflowError.__new__"))
    (sa_TooMany : PySem.W.findIn K (.ref c_TooMany) "__setattr__" = some (some (.builtin "object.__setattr__")))
    (ga_TooMany : PySem.W.findIn K (.ref c_TooMany) "__getattribute__" = some (some (.builtin "BaseException.__getattribute__")))
    (gg_TooMany : PySem.W.findIn K (.ref c_TooMany) "__getattr__" = some none)
    (eC_TooMany : PySem.W.subIn K (.ref c_TooMany) (.type "BaseException") = some true)
    (tC_TooMany : PySem.W.typeIn K (.ref c_TooMany) = some (.type "type"))
    (kC_TooMany : PySem.W.keepIn K (.ref c_TooMany) = true)
    (hC_TooMany : PySem.W.hasDictIn K c_TooMany = true)
    (iC_TooMany : PySem.W.isClsIn K c_TooMany = true)
    (sC_TooMany : PySem.W.subIn K (.ref c_TooMany) (.ref c_TooMany) = some true)
    (va_TooMany : PySem.W.findIn K (.ref c_TooMany) "__class__" = some (some (.builtin "object.__class__")))
    (vm_TooMany : PySem.W.mroIn K c_TooMany (.type "object") = some true)
    (z_TooMany_limit : PySem.W.findIn K (.ref c_TooMany) "limit" = some none)
    (n_LETTERS : PySem.W.nsIn K mainGlobals "LETTERS" = some (some (.str "abcdefghijklmnopqrstuvwxyz" tk_LETTERS)))
    (n_MOST_SIGNS : PySem.W.nsIn K mainGlobals "MOST_SIGNS" = some (some (.int 8 tk_MOST_SIGNS)))
    (n_BEYOND : PySem.W.nsIn K mainGlobals "BEYOND" = some (some (.int 100000000000000000000 tk_BEYOND)))
    (b_LookupError : PySem.W.nsIn K mainGlobals "LookupError" = some none)
    (b_OverflowError : PySem.W.nsIn K mainGlobals "OverflowError" = some none)
    (b_RuntimeError : PySem.W.nsIn K mainGlobals "RuntimeError" = some none)
    (b_TypeError : PySem.W.nsIn K mainGlobals "TypeError" = some none)
    (b_ValueError : PySem.W.nsIn K mainGlobals "ValueError" = some none)
    (b_abs : PySem.W.nsIn K mainGlobals "abs" = some none)
    (b_all : PySem.W.nsIn K mainGlobals "all" = some none)
    (b_bool : PySem.W.nsIn K mainGlobals "bool" = some none)
    (b_enumerate : PySem.W.nsIn K mainGlobals "enumerate" = some none)
    (b_int : PySem.W.nsIn K mainGlobals "int" = some none)
    (b_isinstance : PySem.W.nsIn K mainGlobals "isinstance" = some none)
    (b_len : PySem.W.nsIn K mainGlobals "len" = some none)
    (b_max : PySem.W.nsIn K mainGlobals "max" = some none)
    (b_min : PySem.W.nsIn K mainGlobals "min" = some none)
    (b_range : PySem.W.nsIn K mainGlobals "range" = some none)
    (b_repr : PySem.W.nsIn K mainGlobals "repr" = some none)
    (b_str : PySem.W.nsIn K mainGlobals "str" = some none)
    (nd_all : ([c_BadName, c_BadValue, c_BadTest, c_BadStep, c_BadFail, c_BadPair, c_BadKind, c_BadMend, c_BadText, c_BadCommand, c_Twice, c_Taken, c_Unlike, c_NoHandler, c_NoPlace, c_NotTyped, c_Shut, c_TooMany, c_Misplaced, c_Refused] : List Addr).Nodup) :
    ∃ fd : FuncData, (∀ (s : Shared) (u : Value), BindsTo s fd ⟨[u], []⟩ [("script", u)]) ∧ ∀ base : Heap, K.In base → base.Ns mainGlobals mg → FnZ P w K mg base 5 fa fd ["script"] (spLaw K) := by
  have e := hfa.symm.trans (PySem.W.mg_of X G a_law)
  cases e
  have T : Txt K mg ⟨f_BadName_init, _, f_BadValue_init, _, f_BadTest_init, _, f_BadStep_init, _, f_BadFail_init, _, f_BadPair_init, _, f_BadKind_init, _, f_BadMend_init, _, f_BadText_init, _, f_BadCommand_init, _, f_Twice_init, _, f_Taken_init, _, f_Misplaced_init, _, f_Unlike_init, _, f_NoHandler_init, _, f_NoPlace_init, _, f_NotTyped_init, _, f_Refused_init, _, f_Shut_init, _, f_TooMany_init, _, f_is_name, _, f_is_int, _, f_check_name, _, f_check_operand, _, f_law_deck, _, f_law_draw, _, f_law_of, _, f_law_number, _, f_law_names, _, f_law_thing, _, f_law_made, _, f_law_made_by_name, _, f_law_is_checked, _, f_law_has, _, f_law_kinds, _, f_law_above, _, _, _, c_BadName, c_BadValue, c_BadTest, c_BadStep, c_BadFail, c_BadPair, c_BadKind, c_BadMend, c_BadText, c_BadCommand, c_Twice, c_Taken, c_Misplaced, c_Unlike, c_NoHandler, c_NoPlace, c_NotTyped, c_Refused, c_Shut, c_TooMany⟩ := {
    f_BadName_init := fun_mk (st := s_BadName_init) l_BadName_init cc_BadName_init k_BadName_init,
    e_BadName_init := (fun_mk (st := s_BadName_init) l_BadName_init cc_BadName_init k_BadName_init).binds (ps := ["self", "name"]) fun _ _ _ _ _ _ us hl => match us, hl with | [_, _], _ => rfl,
    f_BadValue_init := fun_mk (st := s_BadValue_init) l_BadValue_init cc_BadValue_init k_BadValue_init,
    e_BadValue_init := (fun_mk (st := s_BadValue_init) l_BadValue_init cc_BadValue_init k_BadValue_init).binds (ps := ["self", "value"]) fun _ _ _ _ _ _ us hl => match us, hl with | [_, _], _ => rfl,
    f_BadTest_init := fun_mk (st := s_BadTest_init) l_BadTest_init cc_BadTest_init k_BadTest_init,
    e_BadTest_init := (fun_mk (st := s_BadTest_init) l_BadTest_init cc_BadTest_init k_BadTest_init).binds (ps := ["self", "test"]) fun _ _ _ _ _ _ us hl => match us, hl with | [_, _], _ => rfl,
    f_BadStep_init := fun_mk (st := s_BadStep_init) l_BadStep_init cc_BadStep_init k_BadStep_init,
    e_BadStep_init := (fun_mk (st := s_BadStep_init) l_BadStep_init cc_BadStep_init k_BadStep_init).binds (ps := ["self", "index"]) fun _ _ _ _ _ _ us hl => match us, hl with | [_, _], _ => rfl,
    f_BadFail_init := fun_mk (st := s_BadFail_init) l_BadFail_init cc_BadFail_init k_BadFail_init,
    e_BadFail_init := (fun_mk (st := s_BadFail_init) l_BadFail_init cc_BadFail_init k_BadFail_init).binds (ps := ["self", "index"]) fun _ _ _ _ _ _ us hl => match us, hl with | [_, _], _ => rfl,
    f_BadPair_init := fun_mk (st := s_BadPair_init) l_BadPair_init cc_BadPair_init k_BadPair_init,
    e_BadPair_init := (fun_mk (st := s_BadPair_init) l_BadPair_init cc_BadPair_init k_BadPair_init).binds (ps := ["self", "index"]) fun _ _ _ _ _ _ us hl => match us, hl with | [_, _], _ => rfl,
    f_BadKind_init := fun_mk (st := s_BadKind_init) l_BadKind_init cc_BadKind_init k_BadKind_init,
    e_BadKind_init := (fun_mk (st := s_BadKind_init) l_BadKind_init cc_BadKind_init k_BadKind_init).binds (ps := ["self", "kind"]) fun _ _ _ _ _ _ us hl => match us, hl with | [_, _], _ => rfl,
    f_BadMend_init := fun_mk (st := s_BadMend_init) l_BadMend_init cc_BadMend_init k_BadMend_init,
    e_BadMend_init := (fun_mk (st := s_BadMend_init) l_BadMend_init cc_BadMend_init k_BadMend_init).binds (ps := ["self", "index"]) fun _ _ _ _ _ _ us hl => match us, hl with | [_, _], _ => rfl,
    f_BadText_init := fun_mk (st := s_BadText_init) l_BadText_init cc_BadText_init k_BadText_init,
    e_BadText_init := (fun_mk (st := s_BadText_init) l_BadText_init cc_BadText_init k_BadText_init).binds (ps := ["self", "line"]) fun _ _ _ _ _ _ us hl => match us, hl with | [_, _], _ => rfl,
    f_BadCommand_init := fun_mk (st := s_BadCommand_init) l_BadCommand_init cc_BadCommand_init k_BadCommand_init,
    e_BadCommand_init := (fun_mk (st := s_BadCommand_init) l_BadCommand_init cc_BadCommand_init k_BadCommand_init).binds (ps := ["self", "command"]) fun _ _ _ _ _ _ us hl => match us, hl with | [_, _], _ => rfl,
    f_Twice_init := fun_mk (st := s_Twice_init) l_Twice_init cc_Twice_init k_Twice_init,
    e_Twice_init := (fun_mk (st := s_Twice_init) l_Twice_init cc_Twice_init k_Twice_init).binds (ps := ["self", "name"]) fun _ _ _ _ _ _ us hl => match us, hl with | [_, _], _ => rfl,
    f_Taken_init := fun_mk (st := s_Taken_init) l_Taken_init cc_Taken_init k_Taken_init,
    e_Taken_init := (fun_mk (st := s_Taken_init) l_Taken_init cc_Taken_init k_Taken_init).binds (ps := ["self", "name"]) fun _ _ _ _ _ _ us hl => match us, hl with | [_, _], _ => rfl,
    f_Misplaced_init := fun_mk (st := s_Misplaced_init) l_Misplaced_init cc_Misplaced_init k_Misplaced_init,
    e_Misplaced_init := (fun_mk (st := s_Misplaced_init) l_Misplaced_init cc_Misplaced_init k_Misplaced_init).binds (ps := ["self", "handler", "number", "name"]) fun _ _ _ _ _ _ us hl => match us, hl with | [_, _, _, _], _ => rfl,
    f_Unlike_init := fun_mk (st := s_Unlike_init) l_Unlike_init cc_Unlike_init k_Unlike_init,
    e_Unlike_init := (fun_mk (st := s_Unlike_init) l_Unlike_init cc_Unlike_init k_Unlike_init).binds (ps := ["self", "name"]) fun _ _ _ _ _ _ us hl => match us, hl with | [_, _], _ => rfl,
    f_NoHandler_init := fun_mk (st := s_NoHandler_init) l_NoHandler_init cc_NoHandler_init k_NoHandler_init,
    e_NoHandler_init := (fun_mk (st := s_NoHandler_init) l_NoHandler_init cc_NoHandler_init k_NoHandler_init).binds (ps := ["self", "name"]) fun _ _ _ _ _ _ us hl => match us, hl with | [_, _], _ => rfl,
    f_NoPlace_init := fun_mk (st := s_NoPlace_init) l_NoPlace_init cc_NoPlace_init k_NoPlace_init,
    e_NoPlace_init := (fun_mk (st := s_NoPlace_init) l_NoPlace_init cc_NoPlace_init k_NoPlace_init).binds (ps := ["self", "name"]) fun _ _ _ _ _ _ us hl => match us, hl with | [_, _], _ => rfl,
    f_NotTyped_init := fun_mk (st := s_NotTyped_init) l_NotTyped_init cc_NotTyped_init k_NotTyped_init,
    e_NotTyped_init := (fun_mk (st := s_NotTyped_init) l_NotTyped_init cc_NotTyped_init k_NotTyped_init).binds (ps := ["self", "name"]) fun _ _ _ _ _ _ us hl => match us, hl with | [_, _], _ => rfl,
    f_Refused_init := fun_mk (st := s_Refused_init) l_Refused_init cc_Refused_init k_Refused_init,
    e_Refused_init := (fun_mk (st := s_Refused_init) l_Refused_init cc_Refused_init k_Refused_init).binds (ps := ["self", "target", "number"]) fun _ _ _ _ _ _ us hl => match us, hl with | [_, _, _], _ => rfl,
    f_Shut_init := fun_mk (st := s_Shut_init) l_Shut_init cc_Shut_init k_Shut_init,
    e_Shut_init := (fun_mk (st := s_Shut_init) l_Shut_init cc_Shut_init k_Shut_init).binds (ps := ["self", "name"]) fun _ _ _ _ _ _ us hl => match us, hl with | [_, _], _ => rfl,
    f_TooMany_init := fun_mk (st := s_TooMany_init) l_TooMany_init cc_TooMany_init k_TooMany_init,
    e_TooMany_init := (fun_mk (st := s_TooMany_init) l_TooMany_init cc_TooMany_init k_TooMany_init).binds (ps := ["self", "limit"]) fun _ _ _ _ _ _ us hl => match us, hl with | [_, _], _ => rfl,
    f_is_name := fun_mk (st := s_is_name) l_is_name cc_is_name k_is_name,
    e_is_name := (fun_mk (st := s_is_name) l_is_name cc_is_name k_is_name).binds (ps := ["thing"]) fun _ _ _ _ _ _ us hl => match us, hl with | [_], _ => rfl,
    g_is_name := PySem.W.mg_of X G a_is_name,
    k_is_name := k_is_name,
    f_is_int := fun_mk (st := s_is_int) l_is_int cc_is_int k_is_int,
    e_is_int := (fun_mk (st := s_is_int) l_is_int cc_is_int k_is_int).binds (ps := ["thing"]) fun _ _ _ _ _ _ us hl => match us, hl with | [_], _ => rfl,
    g_is_int := PySem.W.mg_of X G a_is_int,
    k_is_int := k_is_int,
    f_check_name := fun_mk (st := s_check_name) l_check_name cc_check_name k_check_name,
    e_check_name := (fun_mk (st := s_check_name) l_check_name cc_check_name k_check_name).binds (ps := ["thing"]) fun _ _ _ _ _ _ us hl => match us, hl with | [_], _ => rfl,
    g_check_name := PySem.W.mg_of X G a_check_name,
    k_check_name := k_check_name,
    f_check_operand := fun_mk (st := s_check_operand) l_check_operand cc_check_operand k_check_operand,
    e_check_operand := (fun_mk (st := s_check_operand) l_check_operand cc_check_operand k_check_operand).binds (ps := ["thing"]) fun _ _ _ _ _ _ us hl => match us, hl with | [_], _ => rfl,
    g_check_operand := PySem.W.mg_of X G a_check_operand,
    k_check_operand := k_check_operand,
    f_law_deck := fun_mk (st := s_law_deck) l_law_deck cc_law_deck k_law_deck,
    e_law_deck := (fun_mk (st := s_law_deck) l_law_deck cc_law_deck k_law_deck).binds (ps := ["script", "turn"]) fun _ _ _ _ _ _ us hl => match us, hl with | [_, _], _ => rfl,
    g_law_deck := PySem.W.mg_of X G a_law_deck,
    k_law_deck := k_law_deck,
    f_law_draw := fun_mk (st := s_law_draw) l_law_draw cc_law_draw k_law_draw,
    e_law_draw := (fun_mk (st := s_law_draw) l_law_draw cc_law_draw k_law_draw).binds (ps := ["deck", "many"]) fun _ _ _ _ _ _ us hl => match us, hl with | [_, _], _ => rfl,
    g_law_draw := PySem.W.mg_of X G a_law_draw,
    k_law_draw := k_law_draw,
    f_law_of := fun_mk (st := s_law_of) l_law_of cc_law_of k_law_of,
    e_law_of := (fun_mk (st := s_law_of) l_law_of cc_law_of k_law_of).binds (ps := ["deck", "some"]) fun _ _ _ _ _ _ us hl => match us, hl with | [_, _], _ => rfl,
    g_law_of := PySem.W.mg_of X G a_law_of,
    k_law_of := k_law_of,
    f_law_number := fun_mk (st := s_law_number) l_law_number cc_law_number k_law_number,
    e_law_number := (fun_mk (st := s_law_number) l_law_number cc_law_number k_law_number).binds (ps := ["deck"]) fun _ _ _ _ _ _ us hl => match us, hl with | [_], _ => rfl,
    g_law_number := PySem.W.mg_of X G a_law_number,
    k_law_number := k_law_number,
    f_law_names := fun_mk (st := s_law_names) l_law_names cc_law_names k_law_names,
    e_law_names := (fun_mk (st := s_law_names) l_law_names cc_law_names k_law_names).binds (ps := ["deck", "many"]) fun _ _ _ _ _ _ us hl => match us, hl with | [_, _], _ => rfl,
    g_law_names := PySem.W.mg_of X G a_law_names,
    k_law_names := k_law_names,
    f_law_thing := fun_mk (st := s_law_thing) l_law_thing cc_law_thing k_law_thing,
    e_law_thing := (fun_mk (st := s_law_thing) l_law_thing cc_law_thing k_law_thing).binds (ps := ["deck"]) fun _ _ _ _ _ _ us hl => match us, hl with | [_], _ => rfl,
    g_law_thing := PySem.W.mg_of X G a_law_thing,
    k_law_thing := k_law_thing,
    f_law_made := fun_mk (st := s_law_made) l_law_made cc_law_made k_law_made,
    e_law_made := (fun_mk (st := s_law_made) l_law_made cc_law_made k_law_made).binds (ps := ["k", "one"]) fun _ _ _ _ _ _ us hl => match us, hl with | [_, _], _ => rfl,
    g_law_made := PySem.W.mg_of X G a_law_made,
    k_law_made := k_law_made,
    f_law_made_by_name := fun_mk (st := s_law_made_by_name) l_law_made_by_name cc_law_made_by_name k_law_made_by_name,
    e_law_made_by_name := (fun_mk (st := s_law_made_by_name) l_law_made_by_name cc_law_made_by_name k_law_made_by_name).binds (ps := ["k", "one"]) fun _ _ _ _ _ _ us hl => match us, hl with | [_, _], _ => rfl,
    g_law_made_by_name := PySem.W.mg_of X G a_law_made_by_name,
    k_law_made_by_name := k_law_made_by_name,
    f_law_is_checked := fun_mk (st := s_law_is_checked) l_law_is_checked cc_law_is_checked k_law_is_checked,
    e_law_is_checked := (fun_mk (st := s_law_is_checked) l_law_is_checked cc_law_is_checked k_law_is_checked).binds (ps := ["thing"]) fun _ _ _ _ _ _ us hl => match us, hl with | [_], _ => rfl,
    g_law_is_checked := PySem.W.mg_of X G a_law_is_checked,
    k_law_is_checked := k_law_is_checked,
    f_law_has := fun_mk (st := s_law_has) l_law_has cc_law_has k_law_has,
    e_law_has := (fun_mk (st := s_law_has) l_law_has cc_law_has k_law_has).binds (ps := ["k", "e"]) fun _ _ _ _ _ _ us hl => match us, hl with | [_, _], _ => rfl,
    g_law_has := PySem.W.mg_of X G a_law_has,
    k_law_has := k_law_has,
    f_law_kinds := fun_mk (st := s_law_kinds) l_law_kinds cc_law_kinds k_law_kinds,
    e_law_kinds := (fun_mk (st := s_law_kinds) l_law_kinds cc_law_kinds k_law_kinds).binds (ps := ["e"]) fun _ _ _ _ _ _ us hl => match us, hl with | [_], _ => rfl,
    g_law_kinds := PySem.W.mg_of X G a_law_kinds,
    k_law_kinds := k_law_kinds,
    f_law_above := fun_mk (st := s_law_above) l_law_above cc_law_above k_law_above,
    e_law_above := (fun_mk (st := s_law_above) l_law_above cc_law_above k_law_above).binds (ps := ["e"]) fun _ _ _ _ _ _ us hl => match us, hl with | [_], _ => rfl,
    g_law_above := PySem.W.mg_of X G a_law_above,
    k_law_above := k_law_above,
    f_law := fun_mk (st := s_law) l_law cc_law k_law,
    e_law := (fun_mk (st := s_law) l_law cc_law k_law).binds (ps := ["script"]) fun _ _ _ _ _ _ us hl => match us, hl with | [_], _ => rfl,
    g_law := PySem.W.mg_of X G a_law,
    k_law := k_law,
    g_BadName := PySem.W.mg_of X G n_BadName,
    o_BadName := ⟨⟨_, _, _, _, _, _, _, _, _, _, _, _, _, _, _, _, _, _, _, PySem.F.excBase_ValueError, x_BadName, fun _ => rfl, PySem.F.store_ValueError.passes, by decide +kernel⟩, sa_BadName, eC_BadName, tC_BadName, kC_BadName⟩,
    xt_BadName := ⟨⟨ga_BadName, gg_BadName, eC_BadName, hC_BadName⟩, iC_BadName, va_BadName, vn_all, vt_all, vm_BadName⟩,
    mt_BadName := mroT_of x_BadName rfl,
    kb_BadName_5 := Fun.kbn (fun_mk (st := s_BadName_init) l_BadName_init cc_BadName_init k_BadName_init) (fun _ _ _ _ _ _ us ws h1 h2 => match us, ws, h1, h2 with | [_], [_], _, _ => rfl) (fun r1 r2 => r1.append ((fun r => r) r2)),
    x_BadName := ⟨ga_BadName, gg_BadName, eC_BadName, hC_BadName⟩,
    h_BadName := exm_own eC_BadName iC_BadName tC_BadName sC_BadName,
    i_BadName := a_BadName_init,
    t_BadName := t_BadName_init,
    a_BadName_name := z_BadName_name,
    g_BadValue := PySem.W.mg_of X G n_BadValue,
    o_BadValue := ⟨⟨_, _, _, _, _, _, _, _, _, _, _, _, _, _, _, _, _, _, _, PySem.F.excBase_ValueError, x_BadValue, fun _ => rfl, PySem.F.store_ValueError.passes, by decide +kernel⟩, sa_BadValue, eC_BadValue, tC_BadValue, kC_BadValue⟩,
    xt_BadValue := ⟨⟨ga_BadValue, gg_BadValue, eC_BadValue, hC_BadValue⟩, iC_BadValue, va_BadValue, vn_all, vt_all, vm_BadValue⟩,
    mt_BadValue := mroT_of x_BadValue rfl,
    kb_BadValue_6 := Fun.kbn (fun_mk (st := s_BadValue_init) l_BadValue_init cc_BadValue_init k_BadValue_init) (fun _ _ _ _ _ _ us ws h1 h2 => match us, ws, h1, h2 with | [_], [_], _, _ => rfl) (fun r1 r2 => r1.append ((fun r => r) r2)),
    x_BadValue := ⟨ga_BadValue, gg_BadValue, eC_BadValue, hC_BadValue⟩,
    h_BadValue := exm_own eC_BadValue iC_BadValue tC_BadValue sC_BadValue,
    i_BadValue := a_BadValue_init,
    t_BadValue := t_BadValue_init,
    a_BadValue_value := z_BadValue_value,
    g_BadTest := PySem.W.mg_of X G n_BadTest,
    o_BadTest := ⟨⟨_, _, _, _, _, _, _, _, _, _, _, _, _, _, _, _, _, _, _, PySem.F.excBase_ValueError, x_BadTest, fun _ => rfl, PySem.F.store_ValueError.passes, by decide +kernel⟩, sa_BadTest, eC_BadTest, tC_BadTest, kC_BadTest⟩,
    xt_BadTest := ⟨⟨ga_BadTest, gg_BadTest, eC_BadTest, hC_BadTest⟩, iC_BadTest, va_BadTest, vn_all, vt_all, vm_BadTest⟩,
    mt_BadTest := mroT_of x_BadTest rfl,
    kb_BadTest_7 := Fun.kbn (fun_mk (st := s_BadTest_init) l_BadTest_init cc_BadTest_init k_BadTest_init) (fun _ _ _ _ _ _ us ws h1 h2 => match us, ws, h1, h2 with | [_], [_], _, _ => rfl) (fun r1 r2 => r1.append ((fun r => r) r2)),
    x_BadTest := ⟨ga_BadTest, gg_BadTest, eC_BadTest, hC_BadTest⟩,
    h_BadTest := exm_own eC_BadTest iC_BadTest tC_BadTest sC_BadTest,
    i_BadTest := a_BadTest_init,
    t_BadTest := t_BadTest_init,
    a_BadTest_test := z_BadTest_test,
    g_BadStep := PySem.W.mg_of X G n_BadStep,
    o_BadStep := ⟨⟨_, _, _, _, _, _, _, _, _, _, _, _, _, _, _, _, _, _, _, PySem.F.excBase_ValueError, x_BadStep, fun _ => rfl, PySem.F.store_ValueError.passes, by decide +kernel⟩, sa_BadStep, eC_BadStep, tC_BadStep, kC_BadStep⟩,
    xt_BadStep := ⟨⟨ga_BadStep, gg_BadStep, eC_BadStep, hC_BadStep⟩, iC_BadStep, va_BadStep, vn_all, vt_all, vm_BadStep⟩,
    mt_BadStep := mroT_of x_BadStep rfl,
    kb_BadStep_8 := Fun.kbn (fun_mk (st := s_BadStep_init) l_BadStep_init cc_BadStep_init k_BadStep_init) (fun _ _ _ _ _ _ us ws h1 h2 => match us, ws, h1, h2 with | [_], [_], _, _ => rfl) (fun r1 r2 => r1.append ((fun r => r) r2)),
    x_BadStep := ⟨ga_BadStep, gg_BadStep, eC_BadStep, hC_BadStep⟩,
    h_BadStep := exm_own eC_BadStep iC_BadStep tC_BadStep sC_BadStep,
    i_BadStep := a_BadStep_init,
    t_BadStep := t_BadStep_init,
    a_BadStep_index := z_BadStep_index,
    g_BadFail := PySem.W.mg_of X G n_BadFail,
    o_BadFail := ⟨⟨_, _, _, _, _, _, _, _, _, _, _, _, _, _, _, _, _, _, _, PySem.F.excBase_ValueError, x_BadFail, fun _ => rfl, PySem.F.store_ValueError.passes, by decide +kernel⟩, sa_BadFail, eC_BadFail, tC_BadFail, kC_BadFail⟩,
    xt_BadFail := ⟨⟨ga_BadFail, gg_BadFail, eC_BadFail, hC_BadFail⟩, iC_BadFail, va_BadFail, vn_all, vt_all, vm_BadFail⟩,
    mt_BadFail := mroT_of x_BadFail rfl,
    kb_BadFail_9 := Fun.kbn (fun_mk (st := s_BadFail_init) l_BadFail_init cc_BadFail_init k_BadFail_init) (fun _ _ _ _ _ _ us ws h1 h2 => match us, ws, h1, h2 with | [_], [_], _, _ => rfl) (fun r1 r2 => r1.append ((fun r => r) r2)),
    x_BadFail := ⟨ga_BadFail, gg_BadFail, eC_BadFail, hC_BadFail⟩,
    h_BadFail := exm_own eC_BadFail iC_BadFail tC_BadFail sC_BadFail,
    i_BadFail := a_BadFail_init,
    t_BadFail := t_BadFail_init,
    a_BadFail_index := z_BadFail_index,
    g_BadPair := PySem.W.mg_of X G n_BadPair,
    o_BadPair := ⟨⟨_, _, _, _, _, _, _, _, _, _, _, _, _, _, _, _, _, _, _, PySem.F.excBase_ValueError, x_BadPair, fun _ => rfl, PySem.F.store_ValueError.passes, by decide +kernel⟩, sa_BadPair, eC_BadPair, tC_BadPair, kC_BadPair⟩,
    xt_BadPair := ⟨⟨ga_BadPair, gg_BadPair, eC_BadPair, hC_BadPair⟩, iC_BadPair, va_BadPair, vn_all, vt_all, vm_BadPair⟩,
    mt_BadPair := mroT_of x_BadPair rfl,
    kb_BadPair_10 := Fun.kbn (fun_mk (st := s_BadPair_init) l_BadPair_init cc_BadPair_init k_BadPair_init) (fun _ _ _ _ _ _ us ws h1 h2 => match us, ws, h1, h2 with | [_], [_], _, _ => rfl) (fun r1 r2 => r1.append ((fun r => r) r2)),
    x_BadPair := ⟨ga_BadPair, gg_BadPair, eC_BadPair, hC_BadPair⟩,
    h_BadPair := exm_own eC_BadPair iC_BadPair tC_BadPair sC_BadPair,
    i_BadPair := a_BadPair_init,
    t_BadPair := t_BadPair_init,
    a_BadPair_index := z_BadPair_index,
    g_BadKind := PySem.W.mg_of X G n_BadKind,
    o_BadKind := ⟨⟨_, _, _, _, _, _, _, _, _, _, _, _, _, _, _, _, _, _, _, PySem.F.excBase_ValueError, x_BadKind, fun _ => rfl, PySem.F.store_ValueError.passes, by decide +kernel⟩, sa_BadKind, eC_BadKind, tC_BadKind, kC_BadKind⟩,
    xt_BadKind := ⟨⟨ga_BadKind, gg_BadKind, eC_BadKind, hC_BadKind⟩, iC_BadKind, va_BadKind, vn_all, vt_all, vm_BadKind⟩,
    mt_BadKind := mroT_of x_BadKind rfl,
    kb_BadKind_11 := Fun.kbn (fun_mk (st := s_BadKind_init) l_BadKind_init cc_BadKind_init k_BadKind_init) (fun _ _ _ _ _ _ us ws h1 h2 => match us, ws, h1, h2 with | [_], [_], _, _ => rfl) (fun r1 r2 => r1.append ((fun r => r) r2)),
    x_BadKind := ⟨ga_BadKind, gg_BadKind, eC_BadKind, hC_BadKind⟩,
    h_BadKind := exm_own eC_BadKind iC_BadKind tC_BadKind sC_BadKind,
    i_BadKind := a_BadKind_init,
    t_BadKind := t_BadKind_init,
    a_BadKind_kind := z_BadKind_kind,
    g_BadMend := PySem.W.mg_of X G n_BadMend,
    o_BadMend := ⟨⟨_, _, _, _, _, _, _, _, _, _, _, _, _, _, _, _, _, _, _, PySem.F.excBase_ValueError, x_BadMend, fun _ => rfl, PySem.F.store_ValueError.passes, by decide +kernel⟩, sa_BadMend, eC_BadMend, tC_BadMend, kC_BadMend⟩,
    xt_BadMend := ⟨⟨ga_BadMend, gg_BadMend, eC_BadMend, hC_BadMend⟩, iC_BadMend, va_BadMend, vn_all, vt_all, vm_BadMend⟩,
    mt_BadMend := mroT_of x_BadMend rfl,
    kb_BadMend_12 := Fun.kbn (fun_mk (st := s_BadMend_init) l_BadMend_init cc_BadMend_init k_BadMend_init) (fun _ _ _ _ _ _ us ws h1 h2 => match us, ws, h1, h2 with | [_], [_], _, _ => rfl) (fun r1 r2 => r1.append ((fun r => r) r2)),
    x_BadMend := ⟨ga_BadMend, gg_BadMend, eC_BadMend, hC_BadMend⟩,
    h_BadMend := exm_own eC_BadMend iC_BadMend tC_BadMend sC_BadMend,
    i_BadMend := a_BadMend_init,
    t_BadMend := t_BadMend_init,
    a_BadMend_index := z_BadMend_index,
    g_BadText := PySem.W.mg_of X G n_BadText,
    o_BadText := ⟨⟨_, _, _, _, _, _, _, _, _, _, _, _, _, _, _, _, _, _, _, PySem.F.excBase_ValueError, x_BadText, fun _ => rfl, PySem.F.store_ValueError.passes, by decide +kernel⟩, sa_BadText, eC_BadText, tC_BadText, kC_BadText⟩,
    xt_BadText := ⟨⟨ga_BadText, gg_BadText, eC_BadText, hC_BadText⟩, iC_BadText, va_BadText, vn_all, vt_all, vm_BadText⟩,
    mt_BadText := mroT_of x_BadText rfl,
    kb_BadText_13 := Fun.kbn (fun_mk (st := s_BadText_init) l_BadText_init cc_BadText_init k_BadText_init) (fun _ _ _ _ _ _ us ws h1 h2 => match us, ws, h1, h2 with | [_], [_], _, _ => rfl) (fun r1 r2 => r1.append ((fun r => r) r2)),
    x_BadText := ⟨ga_BadText, gg_BadText, eC_BadText, hC_BadText⟩,
    h_BadText := exm_own eC_BadText iC_BadText tC_BadText sC_BadText,
    i_BadText := a_BadText_init,
    t_BadText := t_BadText_init,
    a_BadText_line := z_BadText_line,
    g_BadCommand := PySem.W.mg_of X G n_BadCommand,
    o_BadCommand := ⟨⟨_, _, _, _, _, _, _, _, _, _, _, _, _, _, _, _, _, _, _, PySem.F.excBase_ValueError, x_BadCommand, fun _ => rfl, PySem.F.store_ValueError.passes, by decide +kernel⟩, sa_BadCommand, eC_BadCommand, tC_BadCommand, kC_BadCommand⟩,
    xt_BadCommand := ⟨⟨ga_BadCommand, gg_BadCommand, eC_BadCommand, hC_BadCommand⟩, iC_BadCommand, va_BadCommand, vn_all, vt_all, vm_BadCommand⟩,
    mt_BadCommand := mroT_of x_BadCommand rfl,
    kb_BadCommand_14 := Fun.kbn (fun_mk (st := s_BadCommand_init) l_BadCommand_init cc_BadCommand_init k_BadCommand_init) (fun _ _ _ _ _ _ us ws h1 h2 => match us, ws, h1, h2 with | [_], [_], _, _ => rfl) (fun r1 r2 => r1.append ((fun r => r) r2)),
    x_BadCommand := ⟨ga_BadCommand, gg_BadCommand, eC_BadCommand, hC_BadCommand⟩,
    h_BadCommand := exm_own eC_BadCommand iC_BadCommand tC_BadCommand sC_BadCommand,
    i_BadCommand := a_BadCommand_init,
    t_BadCommand := t_BadCommand_init,
    a_BadCommand_command := z_BadCommand_command,
    g_Twice := PySem.W.mg_of X G n_Twice,
    o_Twice := ⟨⟨_, _, _, _, _, _, _, _, _, _, _, _, _, _, _, _, _, _, _, PySem.F.excBase_ValueError, x_Twice, fun _ => rfl, PySem.F.store_ValueError.passes, by decide +kernel⟩, sa_Twice, eC_Twice, tC_Twice, kC_Twice⟩,
    xt_Twice := ⟨⟨ga_Twice, gg_Twice, eC_Twice, hC_Twice⟩, iC_Twice, va_Twice, vn_all, vt_all, vm_Twice⟩,
    mt_Twice := mroT_of x_Twice rfl,
    kb_Twice_15 := Fun.kbn (fun_mk (st := s_Twice_init) l_Twice_init cc_Twice_init k_Twice_init) (fun _ _ _ _ _ _ us ws h1 h2 => match us, ws, h1, h2 with | [_], [_], _, _ => rfl) (fun r1 r2 => r1.append ((fun r => r) r2)),
    x_Twice := ⟨ga_Twice, gg_Twice, eC_Twice, hC_Twice⟩,
    h_Twice := exm_own eC_Twice iC_Twice tC_Twice sC_Twice,
    i_Twice := a_Twice_init,
    t_Twice := t_Twice_init,
    a_Twice_name := z_Twice_name,
    g_Taken := PySem.W.mg_of X G n_Taken,
    o_Taken := ⟨⟨_, _, _, _, _, _, _, _, _, _, _, _, _, _, _, _, _, _, _, PySem.F.excBase_ValueError, x_Taken, fun _ => rfl, PySem.F.store_ValueError.passes, by decide +kernel⟩, sa_Taken, eC_Taken, tC_Taken, kC_Taken⟩,
    xt_Taken := ⟨⟨ga_Taken, gg_Taken, eC_Taken, hC_Taken⟩, iC_Taken, va_Taken, vn_all, vt_all, vm_Taken⟩,
    mt_Taken := mroT_of x_Taken rfl,
    kb_Taken_16 := Fun.kbn (fun_mk (st := s_Taken_init) l_Taken_init cc_Taken_init k_Taken_init) (fun _ _ _ _ _ _ us ws h1 h2 => match us, ws, h1, h2 with | [_], [_], _, _ => rfl) (fun r1 r2 => r1.append ((fun r => r) r2)),
    x_Taken := ⟨ga_Taken, gg_Taken, eC_Taken, hC_Taken⟩,
    h_Taken := exm_own eC_Taken iC_Taken tC_Taken sC_Taken,
    i_Taken := a_Taken_init,
    t_Taken := t_Taken_init,
    a_Taken_name := z_Taken_name,
    g_Misplaced := PySem.W.mg_of X G n_Misplaced,
    o_Misplaced := ⟨⟨_, _, _, _, _, _, _, _, _, _, _, _, _, _, _, _, _, _, _, PySem.F.excBase_ValueError, x_Misplaced, fun _ => rfl, PySem.F.store_ValueError.passes, by decide +kernel⟩, sa_Misplaced, eC_Misplaced, tC_Misplaced, kC_Misplaced⟩,
    xt_Misplaced := ⟨⟨ga_Misplaced, gg_Misplaced, eC_Misplaced, hC_Misplaced⟩, iC_Misplaced, va_Misplaced, vn_all, vt_all, vm_Misplaced⟩,
    mt_Misplaced := mroT_of x_Misplaced rfl,
    kb_Misplaced_18 := Fun.kbn (fun_mk (st := s_Misplaced_init) l_Misplaced_init cc_Misplaced_init k_Misplaced_init) (fun _ _ _ _ _ _ us ws h1 h2 => match us, ws, h1, h2 with | [_], [_, _, _], _, _ => rfl) (fun r1 r2 => r1.append ((fun r => (.cons (vals_getD r 1) (.cons (vals_getD r 2) (.cons (vals_getD r 0) .nil)))) r2)),
    x_Misplaced := ⟨ga_Misplaced, gg_Misplaced, eC_Misplaced, hC_Misplaced⟩,
    h_Misplaced := exm_own eC_Misplaced iC_Misplaced tC_Misplaced sC_Misplaced,
    i_Misplaced := a_Misplaced_init,
    t_Misplaced := t_Misplaced_init,
    a_Misplaced_handler := z_Misplaced_handler,
    a_Misplaced_number := z_Misplaced_number,
    a_Misplaced_name := z_Misplaced_name,
    g_Unlike := PySem.W.mg_of X G n_Unlike,
    o_Unlike := ⟨⟨_, _, _, _, _, _, _, _, _, _, _, _, _, _, _, _, _, _, _, PySem.F.excBase_ValueError, x_Unlike, fun _ => rfl, PySem.F.store_ValueError.passes, by decide +kernel⟩, sa_Unlike, eC_Unlike, tC_Unlike, kC_Unlike⟩,
    xt_Unlike := ⟨⟨ga_Unlike, gg_Unlike, eC_Unlike, hC_Unlike⟩, iC_Unlike, va_Unlike, vn_all, vt_all, vm_Unlike⟩,
    mt_Unlike := mroT_of x_Unlike rfl,
    kb_Unlike_17 := Fun.kbn (fun_mk (st := s_Unlike_init) l_Unlike_init cc_Unlike_init k_Unlike_init) (fun _ _ _ _ _ _ us ws h1 h2 => match us, ws, h1, h2 with | [_], [_], _, _ => rfl) (fun r1 r2 => r1.append ((fun r => r) r2)),
    x_Unlike := ⟨ga_Unlike, gg_Unlike, eC_Unlike, hC_Unlike⟩,
    h_Unlike := exm_own eC_Unlike iC_Unlike tC_Unlike sC_Unlike,
    i_Unlike := a_Unlike_init,
    t_Unlike := t_Unlike_init,
    a_Unlike_name := z_Unlike_name,
    g_NoHandler := PySem.W.mg_of X G n_NoHandler,
    o_NoHandler := ⟨⟨_, _, _, _, _, _, _, _, _, _, _, _, _, _, _, _, _, _, _, PySem.F.excBase_LookupError, x_NoHandler, fun _ => rfl, PySem.F.store_LookupError.passes, by decide +kernel⟩, sa_NoHandler, eC_NoHandler, tC_NoHandler, kC_NoHandler⟩,
    xt_NoHandler := ⟨⟨ga_NoHandler, gg_NoHandler, eC_NoHandler, hC_NoHandler⟩, iC_NoHandler, va_NoHandler, vn_all, vt_all, vm_NoHandler⟩,
    mt_NoHandler := mroT_of x_NoHandler rfl,
    kb_NoHandler_0 := Fun.kbn (fun_mk (st := s_NoHandler_init) l_NoHandler_init cc_NoHandler_init k_NoHandler_init) (fun _ _ _ _ _ _ us ws h1 h2 => match us, ws, h1, h2 with | [_], [_], _, _ => rfl) (fun r1 r2 => r1.append ((fun r => r) r2)),
    x_NoHandler := ⟨ga_NoHandler, gg_NoHandler, eC_NoHandler, hC_NoHandler⟩,
    h_NoHandler := exm_own eC_NoHandler iC_NoHandler tC_NoHandler sC_NoHandler,
    i_NoHandler := a_NoHandler_init,
    t_NoHandler := t_NoHandler_init,
    a_NoHandler_name := z_NoHandler_name,
    g_NoPlace := PySem.W.mg_of X G n_NoPlace,
    o_NoPlace := ⟨⟨_, _, _, _, _, _, _, _, _, _, _, _, _, _, _, _, _, _, _, PySem.F.excBase_LookupError, x_NoPlace, fun _ => rfl, PySem.F.store_LookupError.passes, by decide +kernel⟩, sa_NoPlace, eC_NoPlace, tC_NoPlace, kC_NoPlace⟩,
    xt_NoPlace := ⟨⟨ga_NoPlace, gg_NoPlace, eC_NoPlace, hC_NoPlace⟩, iC_NoPlace, va_NoPlace, vn_all, vt_all, vm_NoPlace⟩,
    mt_NoPlace := mroT_of x_NoPlace rfl,
    kb_NoPlace_1 := Fun.kbn (fun_mk (st := s_NoPlace_init) l_NoPlace_init cc_NoPlace_init k_NoPlace_init) (fun _ _ _ _ _ _ us ws h1 h2 => match us, ws, h1, h2 with | [_], [_], _, _ => rfl) (fun r1 r2 => r1.append ((fun r => r) r2)),
    x_NoPlace := ⟨ga_NoPlace, gg_NoPlace, eC_NoPlace, hC_NoPlace⟩,
    h_NoPlace := exm_own eC_NoPlace iC_NoPlace tC_NoPlace sC_NoPlace,
    i_NoPlace := a_NoPlace_init,
    t_NoPlace := t_NoPlace_init,
    a_NoPlace_name := z_NoPlace_name,
    g_NotTyped := PySem.W.mg_of X G n_NotTyped,
    o_NotTyped := ⟨⟨_, _, _, _, _, _, _, _, _, _, _, _, _, _, _, _, _, _, _, PySem.F.excBase_LookupError, x_NotTyped, fun _ => rfl, PySem.F.store_LookupError.passes, by decide +kernel⟩, sa_NotTyped, eC_NotTyped, tC_NotTyped, kC_NotTyped⟩,
    xt_NotTyped := ⟨⟨ga_NotTyped, gg_NotTyped, eC_NotTyped, hC_NotTyped⟩, iC_NotTyped, va_NotTyped, vn_all, vt_all, vm_NotTyped⟩,
    mt_NotTyped := mroT_of x_NotTyped rfl,
    kb_NotTyped_2 := Fun.kbn (fun_mk (st := s_NotTyped_init) l_NotTyped_init cc_NotTyped_init k_NotTyped_init) (fun _ _ _ _ _ _ us ws h1 h2 => match us, ws, h1, h2 with | [_], [_], _, _ => rfl) (fun r1 r2 => r1.append ((fun r => r) r2)),
    x_NotTyped := ⟨ga_NotTyped, gg_NotTyped, eC_NotTyped, hC_NotTyped⟩,
    h_NotTyped := exm_own eC_NotTyped iC_NotTyped tC_NotTyped sC_NotTyped,
    i_NotTyped := a_NotTyped_init,
    t_NotTyped := t_NotTyped_init,
    a_NotTyped_name := z_NotTyped_name,
    g_Refused := PySem.W.mg_of X G n_Refused,
    o_Refused := ⟨⟨_, _, _, _, _, _, _, _, _, _, _, _, _, _, _, _, _, _, _, PySem.F.excBase_RuntimeError, x_Refused, fun _ => rfl, PySem.F.store_RuntimeError.passes, by decide +kernel⟩, sa_Refused, eC_Refused, tC_Refused, kC_Refused⟩,
    xt_Refused := ⟨⟨ga_Refused, gg_Refused, eC_Refused, hC_Refused⟩, iC_Refused, va_Refused, vn_all, vt_all, vm_Refused⟩,
    mt_Refused := mroT_of x_Refused rfl,
    kb_Refused_19 := Fun.kbn (fun_mk (st := s_Refused_init) l_Refused_init cc_Refused_init k_Refused_init) (fun _ _ _ _ _ _ us ws h1 h2 => match us, ws, h1, h2 with | [_], [_, _], _, _ => rfl) (fun r1 r2 => r1.append ((fun r => (.cons (vals_getD r 1) (.cons (vals_getD r 0) .nil))) r2)),
    x_Refused := ⟨ga_Refused, gg_Refused, eC_Refused, hC_Refused⟩,
    h_Refused := exm_own eC_Refused iC_Refused tC_Refused sC_Refused,
    i_Refused := a_Refused_init,
    t_Refused := t_Refused_init,
    a_Refused_target := z_Refused_target,
    a_Refused_number := z_Refused_number,
    g_Shut := PySem.W.mg_of X G n_Shut,
    o_Shut := ⟨⟨_, _, _, _, _, _, _, _, _, _, _, _, _, _, _, _, _, _, _, PySem.F.excBase_RuntimeError, x_Shut, fun _ => rfl, PySem.F.store_RuntimeError.passes, by decide +kernel⟩, sa_Shut, eC_Shut, tC_Shut, kC_Shut⟩,
    xt_Shut := ⟨⟨ga_Shut, gg_Shut, eC_Shut, hC_Shut⟩, iC_Shut, va_Shut, vn_all, vt_all, vm_Shut⟩,
    mt_Shut := mroT_of x_Shut rfl,
    kb_Shut_3 := Fun.kbn (fun_mk (st := s_Shut_init) l_Shut_init cc_Shut_init k_Shut_init) (fun _ _ _ _ _ _ us ws h1 h2 => match us, ws, h1, h2 with | [_], [_], _, _ => rfl) (fun r1 r2 => r1.append ((fun r => r) r2)),
    x_Shut := ⟨ga_Shut, gg_Shut, eC_Shut, hC_Shut⟩,
    h_Shut := exm_own eC_Shut iC_Shut tC_Shut sC_Shut,
    i_Shut := a_Shut_init,
    t_Shut := t_Shut_init,
    a_Shut_name := z_Shut_name,
    g_TooMany := PySem.W.mg_of X G n_TooMany,
    o_TooMany := ⟨⟨_, _, _, _, _, _, _, _, _, _, _, _, _, _, _, _, _, _, _, PySem.F.excBase_OverflowError, x_TooMany, fun _ => rfl, PySem.F.store_OverflowError.passes, by decide +kernel⟩, sa_TooMany, eC_TooMany, tC_TooMany, kC_TooMany⟩,
    xt_TooMany := ⟨⟨ga_TooMany, gg_TooMany, eC_TooMany, hC_TooMany⟩, iC_TooMany, va_TooMany, vn_all, vt_all, vm_TooMany⟩,
    mt_TooMany := mroT_of x_TooMany rfl,
    kb_TooMany_4 := Fun.kbn (fun_mk (st := s_TooMany_init) l_TooMany_init cc_TooMany_init k_TooMany_init) (fun _ _ _ _ _ _ us ws h1 h2 => match us, ws, h1, h2 with | [_], [_], _, _ => rfl) (fun r1 r2 => r1.append ((fun r => r) r2)),
    x_TooMany := ⟨ga_TooMany, gg_TooMany, eC_TooMany, hC_TooMany⟩,
    h_TooMany := exm_own eC_TooMany iC_TooMany tC_TooMany sC_TooMany,
    i_TooMany := a_TooMany_init,
    t_TooMany := t_TooMany_init,
    a_TooMany_limit := z_TooMany_limit,
    n_LETTERS := ⟨_, PySem.W.mg_of X G n_LETTERS⟩,
    n_MOST_SIGNS := ⟨_, PySem.W.mg_of X G n_MOST_SIGNS⟩,
    n_BEYOND := ⟨_, PySem.W.mg_of X G n_BEYOND⟩,
    b_LookupError := PySem.W.mg_none_of X G b_LookupError,
    b_OverflowError := PySem.W.mg_none_of X G b_OverflowError,
    b_RuntimeError := PySem.W.mg_none_of X G b_RuntimeError,
    b_TypeError := PySem.W.mg_none_of X G b_TypeError,
    b_ValueError := PySem.W.mg_none_of X G b_ValueError,
    b_abs := PySem.W.mg_none_of X G b_abs,
    b_all := PySem.W.mg_none_of X G b_all,
    b_bool := PySem.W.mg_none_of X G b_bool,
    b_enumerate := PySem.W.mg_none_of X G b_enumerate,
    b_int := PySem.W.mg_none_of X G b_int,
    b_isinstance := PySem.W.mg_none_of X G b_isinstance,
    b_len := PySem.W.mg_none_of X G b_len,
    b_max := PySem.W.mg_none_of X G b_max,
    b_min := PySem.W.mg_none_of X G b_min,
    b_range := PySem.W.mg_none_of X G b_range,
    b_repr := PySem.W.mg_none_of X G b_repr,
    b_str := PySem.W.mg_none_of X G b_str,
    nd := nd_all }
  exact ⟨_, fun _ _ => .of_eq rfl, fun base _ _ => ok_law T⟩
end Z
open PySem PySem.W PyProof.Rows
set_option maxRecDepth 100000 in
set_option maxHeartbeats 0 in
theorem PySem.Challenge.cw_falsedefaults_k14_errors_by_hand_holds : PySem.Challenge.rw_falsedefaults_k14_errors_by_hand.Holds := by
  w_on; o_law; k_head; (case hw => w_witness2)
  k_fill
  refine Z.law_walk (l := PySem.Challenge.rw_falsedefaults_k14_errors_by_hand) (k := 5) rfl rfl ⟨rfl, by decide, by decide⟩ (fun w h Y => PySem.W.kIn_of Y) ?F
  case F =>
    intro w mg fa h KX G hmg
    refine' Z.all_mk KX G hmg ?a_BadName_init ?t_BadName_init ?l_BadName_init ?cc_BadName_init ?k_BadName_init ?a_BadValue_init ?t_BadValue_init ?l_BadValue_init ?cc_BadValue_init ?k_BadValue_init ?a_BadTest_init ?t_BadTest_init ?l_BadTest_init ?cc_BadTest_init ?k_BadTest_init ?a_BadStep_init ?t_BadStep_init ?l_BadStep_init ?cc_BadStep_init ?k_BadStep_init ?a_BadFail_init ?t_BadFail_init ?l_BadFail_init ?cc_BadFail_init ?k_BadFail_init ?a_BadPair_init ?t_BadPair_init ?l_BadPair_init ?cc_BadPair_init ?k_BadPair_init ?a_BadKind_init ?t_BadKind_init ?l_BadKind_init ?cc_BadKind_init ?k_BadKind_init ?a_BadMend_init ?t_BadMend_init ?l_BadMend_init ?cc_BadMend_init ?k_BadMend_init ?a_BadText_init ?t_BadText_init ?l_BadText_init ?cc_BadText_init ?k_BadText_init ?a_BadCommand_init ?t_BadCommand_init ?l_BadCommand_init ?cc_BadCommand_init ?k_BadCommand_init ?a_Twice_init ?t_Twice_init ?l_Twice_init ?cc_Twice_init ?k_Twice_init ?a_Taken_init ?t_Taken_init ?l_Taken_init ?cc_Taken_init ?k_Taken_init ?a_Misplaced_init ?t_Misplaced_init ?l_Misplaced_init ?cc_Misplaced_init ?k_Misplaced_init ?a_Unlike_init ?t_Unlike_init ?l_Unlike_init ?cc_Unlike_init ?k_Unlike_init ?a_NoHandler_init ?t_NoHandler_init ?l_NoHandler_init ?cc_NoHandler_init ?k_NoHandler_init ?a_NoPlace_init ?t_NoPlace_init ?l_NoPlace_init ?cc_NoPlace_init ?k_NoPlace_init ?a_NotTyped_init ?t_NotTyped_init ?l_NotTyped_init ?cc_NotTyped_init ?k_NotTyped_init ?a_Refused_init ?t_Refused_init ?l_Refused_init ?cc_Refused_init ?k_Refused_init ?a_Shut_init ?t_Shut_init ?l_Shut_init ?cc_Shut_init ?k_Shut_init ?a_TooMany_init ?t_TooMany_init ?l_TooMany_init ?cc_TooMany_init ?k_TooMany_init ?a_is_name ?l_is_name ?cc_is_name ?k_is_name ?a_is_int ?l_is_int ?cc_is_int ?k_is_int ?a_check_name ?l_check_name ?cc_check_name ?k_check_name ?a_check_operand ?l_check_operand ?cc_check_operand ?k_check_operand ?a_law_deck ?l_law_deck ?cc_law_deck ?k_law_deck ?a_law_draw ?l_law_draw ?cc_law_draw ?k_law_draw ?a_law_of ?l_law_of ?cc_law_of ?k_law_of ?a_law_number ?l_law_number ?cc_law_number ?k_law_number ?a_law_names ?l_law_names ?cc_law_names ?k_law_names ?a_law_thing ?l_law_thing ?cc_law_thing ?k_law_thing ?a_law_made ?l_law_made ?cc_law_made ?k_law_made ?a_law_made_by_name ?l_law_made_by_name ?cc_law_made_by_name ?k_law_made_by_name ?a_law_is_checked ?l_law_is_checked ?cc_law_is_checked ?k_law_is_checked ?a_law_has ?l_law_has ?cc_law_has ?k_law_has ?a_law_kinds ?l_law_kinds ?cc_law_kinds ?k_law_kinds ?a_law_above ?l_law_above ?cc_law_above ?k_law_above ?a_law ?l_law ?cc_law ?k_law ?n_BadName ?x_BadName ?sa_BadName ?ga_BadName ?gg_BadName ?eC_BadName ?tC_BadName ?kC_BadName ?hC_BadName ?iC_BadName ?sC_BadName ?va_BadName ?vn_all ?vt_all ?vm_BadName ?z_BadName_name ?n_BadValue ?x_BadValue ?sa_BadValue ?ga_BadValue ?gg_BadValue ?eC_BadValue ?tC_BadValue ?kC_BadValue ?hC_BadValue ?iC_BadValue ?sC_BadValue ?va_BadValue ?vm_BadValue ?z_BadValue_value ?n_BadTest ?x_BadTest ?sa_BadTest ?ga_BadTest ?gg_BadTest ?eC_BadTest ?tC_BadTest ?kC_BadTest ?hC_BadTest ?iC_BadTest ?sC_BadTest ?va_BadTest ?vm_BadTest ?z_BadTest_test ?n_BadStep ?x_BadStep ?sa_BadStep ?ga_BadStep ?gg_BadStep ?eC_BadStep ?tC_BadStep ?kC_BadStep ?hC_BadStep ?iC_BadStep ?sC_BadStep ?va_BadStep ?vm_BadStep ?z_BadStep_index ?n_BadFail ?x_BadFail ?sa_BadFail ?ga_BadFail ?gg_BadFail ?eC_BadFail ?tC_BadFail ?kC_BadFail ?hC_BadFail ?iC_BadFail ?sC_BadFail ?va_BadFail ?vm_BadFail ?z_BadFail_index ?n_BadPair ?x_BadPair ?sa_BadPair ?ga_BadPair ?gg_BadPair ?eC_BadPair ?tC_BadPair ?kC_BadPair ?hC_BadPair ?iC_BadPair ?sC_BadPair ?va_BadPair ?vm_BadPair ?z_BadPair_index ?n_BadKind ?x_BadKind ?sa_BadKind ?ga_BadKind ?gg_BadKind ?eC_BadKind ?tC_BadKind ?kC_BadKind ?hC_BadKind ?iC_BadKind ?sC_BadKind ?va_BadKind ?vm_BadKind ?z_BadKind_kind ?n_BadMend ?x_BadMend ?sa_BadMend ?ga_BadMend ?gg_BadMend ?eC_BadMend ?tC_BadMend ?kC_BadMend ?hC_BadMend ?iC_BadMend ?sC_BadMend ?va_BadMend ?vm_BadMend ?z_BadMend_index ?n_BadText ?x_BadText ?sa_BadText ?ga_BadText ?gg_BadText ?eC_BadText ?tC_BadText ?kC_BadText ?hC_BadText ?iC_BadText ?sC_BadText ?va_BadText ?vm_BadText ?z_BadText_line ?n_BadCommand ?x_BadCommand ?sa_BadCommand ?ga_BadCommand ?gg_BadCommand ?eC_BadCommand ?tC_BadCommand ?kC_BadCommand ?hC_BadCommand ?iC_BadCommand ?sC_BadCommand ?va_BadCommand ?vm_BadCommand ?z_BadCommand_command ?n_Twice ?x_Twice ?sa_Twice ?ga_Twice ?gg_Twice ?eC_Twice ?tC_Twice ?kC_Twice ?hC_Twice ?iC_Twice ?sC_Twice ?va_Twice ?vm_Twice ?z_Twice_name ?n_Taken ?x_Taken ?sa_Taken ?ga_Taken ?gg_Taken ?eC_Taken ?tC_Taken ?kC_Taken ?hC_Taken ?iC_Taken ?sC_Taken ?va_Taken ?vm_Taken ?z_Taken_name ?n_Misplaced ?x_Misplaced ?sa_Misplaced ?ga_Misplaced ?gg_Misplaced ?eC_Misplaced ?tC_Misplaced ?kC_Misplaced ?hC_Misplaced ?iC_Misplaced ?sC_Misplaced ?va_Misplaced ?vm_Misplaced ?z_Misplaced_handler ?z_Misplaced_number ?z_Misplaced_name ?n_Unlike ?x_Unlike ?sa_Unlike ?ga_Unlike ?gg_Unlike ?eC_Unlike ?tC_Unlike ?kC_Unlike ?hC_Unlike ?iC_Unlike ?sC_Unlike ?va_Unlike ?vm_Unlike ?z_Unlike_name ?n_NoHandler ?x_NoHandler ?sa_NoHandler ?ga_NoHandler ?gg_NoHandler ?eC_NoHandler ?tC_NoHandler ?kC_NoHandler ?hC_NoHandler ?iC_NoHandler ?sC_NoHandler ?va_NoHandler ?vm_NoHandler ?z_NoHandler_name ?n_NoPlace ?x_NoPlace ?sa_NoPlace ?ga_NoPlace ?gg_NoPlace ?eC_NoPlace ?tC_NoPlace ?kC_NoPlace ?hC_NoPlace ?iC_NoPlace ?sC_NoPlace ?va_NoPlace ?vm_NoPlace ?z_NoPlace_name ?n_NotTyped ?x_NotTyped ?sa_NotTyped ?ga_NotTyped ?gg_NotTyped ?eC_NotTyped ?tC_NotTyped ?kC_NotTyped ?hC_NotTyped ?iC_NotTyped ?sC_NotTyped ?va_NotTyped ?vm_NotTyped ?z_NotTyped_name ?n_Refused ?x_Refused ?sa_Refused ?ga_Refused ?gg_Refused ?eC_Refused ?tC_Refused ?kC_Refused ?hC_Refused ?iC_Refused ?sC_Refused ?va_Refused ?vm_Refused ?z_Refused_target ?z_Refused_number ?n_Shut ?x_Shut ?sa_Shut ?ga_Shut ?gg_Shut ?eC_Shut ?tC_Shut ?kC_Shut ?hC_Shut ?iC_Shut ?sC_Shut ?va_Shut ?vm_Shut ?z_Shut_name ?n_TooMany ?x_TooMany ?sa_TooMany ?ga_TooMany ?gg_TooMany ?eC_TooMany ?tC_TooMany ?kC_TooMany ?hC_TooMany ?iC_TooMany ?sC_TooMany ?va_TooMany ?vm_TooMany ?z_TooMany_limit ?n_LETTERS ?n_MOST_SIGNS ?n_BEYOND ?b_LookupError ?b_OverflowError ?b_RuntimeError ?b_TypeError ?b_ValueError ?b_abs ?b_all ?b_bool ?b_enumerate ?b_int ?b_isinstance ?b_len ?b_max ?b_min ?b_range ?b_repr ?b_str ?nd_all
    (case n_BadName => k_is)
    (case n_BadValue => k_is)
    (case n_BadTest => k_is)
    (case n_BadStep => k_is)
    (case n_BadFail => k_is)
    (case n_BadPair => k_is)
    (case n_BadKind => k_is)
    (case n_BadMend => k_is)
    (case n_BadText => k_is)
    (case n_BadCommand => k_is)
    (case n_Twice => k_is)
    (case n_Taken => k_is)
    (case n_Misplaced => k_is)
    (case n_Unlike => k_is)
    (case n_NoHandler => k_is)
    (case n_NoPlace => k_is)
    (case n_NotTyped => k_is)
    (case n_Refused => k_is)
    (case n_Shut => k_is)
    (case n_TooMany => k_is)
    (case a_BadName_init => k_is)
    (case t_BadName_init => k_is)
    (case l_BadName_init => k_is)
    (case cc_BadName_init => k_is)
    (case k_BadName_init => k_is)
    (case a_BadValue_init => k_is)
    (case t_BadValue_init => k_is)
    (case l_BadValue_init => k_is)
    (case cc_BadValue_init => k_is)
    (case k_BadValue_init => k_is)
    (case a_BadTest_init => k_is)
    (case t_BadTest_init => k_is)
    (case l_BadTest_init => k_is)
    (case cc_BadTest_init => k_is)
    (case k_BadTest_init => k_is)
    (case a_BadStep_init => k_is)
    (case t_BadStep_init => k_is)
    (case l_BadStep_init => k_is)
    (case cc_BadStep_init => k_is)
    (case k_BadStep_init => k_is)
    (case a_BadFail_init => k_is)
    (case t_BadFail_init => k_is)
    (case l_BadFail_init => k_is)
    (case cc_BadFail_init => k_is)
    (case k_BadFail_init => k_is)
    (case a_BadPair_init => k_is)
    (case t_BadPair_init => k_is)
    (case l_BadPair_init => k_is)
    (case cc_BadPair_init => k_is)
    (case k_BadPair_init => k_is)
    (case a_BadKind_init => k_is)
    (case t_BadKind_init => k_is)
    (case l_BadKind_init => k_is)
    (case cc_BadKind_init => k_is)
    (case k_BadKind_init => k_is)
    (case a_BadMend_init => k_is)
    (case t_BadMend_init => k_is)
    (case l_BadMend_init => k_is)
    (case cc_BadMend_init => k_is)
    (case k_BadMend_init => k_is)
    (case a_BadText_init => k_is)
    (case t_BadText_init => k_is)
    (case l_BadText_init => k_is)
    (case cc_BadText_init => k_is)
    (case k_BadText_init => k_is)
    (case a_BadCommand_init => k_is)
    (case t_BadCommand_init => k_is)
    (case l_BadCommand_init => k_is)
    (case cc_BadCommand_init => k_is)
    (case k_BadCommand_init => k_is)
    (case a_Twice_init => k_is)
    (case t_Twice_init => k_is)
    (case l_Twice_init => k_is)
    (case cc_Twice_init => k_is)
    (case k_Twice_init => k_is)
    (case a_Taken_init => k_is)
    (case t_Taken_init => k_is)
    (case l_Taken_init => k_is)
    (case cc_Taken_init => k_is)
    (case k_Taken_init => k_is)
    (case a_Misplaced_init => k_is)
    (case t_Misplaced_init => k_is)
    (case l_Misplaced_init => k_is)
    (case cc_Misplaced_init => k_is)
    (case k_Misplaced_init => k_is)
    (case a_Unlike_init => k_is)
    (case t_Unlike_init => k_is)
    (case l_Unlike_init => k_is)
    (case cc_Unlike_init => k_is)
    (case k_Unlike_init => k_is)
    (case a_NoHandler_init => k_is)
    (case t_NoHandler_init => k_is)
    (case l_NoHandler_init => k_is)
    (case cc_NoHandler_init => k_is)
    (case k_NoHandler_init => k_is)
    (case a_NoPlace_init => k_is)
    (case t_NoPlace_init => k_is)
    (case l_NoPlace_init => k_is)
    (case cc_NoPlace_init => k_is)
    (case k_NoPlace_init => k_is)
    (case a_NotTyped_init => k_is)
    (case t_NotTyped_init => k_is)
    (case l_NotTyped_init => k_is)
    (case cc_NotTyped_init => k_is)
    (case k_NotTyped_init => k_is)
    (case a_Refused_init => k_is)
    (case t_Refused_init => k_is)
    (case l_Refused_init => k_is)
    (case cc_Refused_init => k_is)
    (case k_Refused_init => k_is)
    (case a_Shut_init => k_is)
    (case t_Shut_init => k_is)
    (case l_Shut_init => k_is)
    (case cc_Shut_init => k_is)
    (case k_Shut_init => k_is)
    (case a_TooMany_init => k_is)
    (case t_TooMany_init => k_is)
    (case l_TooMany_init => k_is)
    (case cc_TooMany_init => k_is)
    (case k_TooMany_init => k_is)
    (case a_is_name => k_is)
    (case l_is_name => k_is)
    (case cc_is_name => k_is)
    (case k_is_name => k_is)
    (case a_is_int => k_is)
    (case l_is_int => k_is)
    (case cc_is_int => k_is)
    (case k_is_int => k_is)
    (case a_check_name => k_is)
    (case l_check_name => k_is)
    (case cc_check_name => k_is)
    (case k_check_name => k_is)
    (case a_check_operand => k_is)
    (case l_check_operand => k_is)
    (case cc_check_operand => k_is)
    (case k_check_operand => k_is)
    (case a_law_deck => k_is)
    (case l_law_deck => k_is)
    (case cc_law_deck => k_is)
    (case k_law_deck => k_is)
    (case a_law_draw => k_is)
    (case l_law_draw => k_is)
    (case cc_law_draw => k_is)
    (case k_law_draw => k_is)
    (case a_law_of => k_is)
    (case l_law_of => k_is)
    (case cc_law_of => k_is)
    (case k_law_of => k_is)
    (case a_law_number => k_is)
    (case l_law_number => k_is)
    (case cc_law_number => k_is)
    (case k_law_number => k_is)
    (case a_law_names => k_is)
    (case l_law_names => k_is)
    (case cc_law_names => k_is)
    (case k_law_names => k_is)
    (case a_law_thing => k_is)
    (case l_law_thing => k_is)
    (case cc_law_thing => k_is)
    (case k_law_thing => k_is)
    (case a_law_made => k_is)
    (case l_law_made => k_is)
    (case cc_law_made => k_is)
    (case k_law_made => k_is)
    (case a_law_made_by_name => k_is)
    (case l_law_made_by_name => k_is)
    (case cc_law_made_by_name => k_is)
    (case k_law_made_by_name => k_is)
    (case a_law_is_checked => k_is)
    (case l_law_is_checked => k_is)
    (case cc_law_is_checked => k_is)
    (case k_law_is_checked => k_is)
    (case a_law_has => k_is)
    (case l_law_has => k_is)
    (case cc_law_has => k_is)
    (case k_law_has => k_is)
    (case a_law_kinds => k_is)
    (case l_law_kinds => k_is)
    (case cc_law_kinds => k_is)
    (case k_law_kinds => k_is)
    (case a_law_above => k_is)
    (case l_law_above => k_is)
    (case cc_law_above => k_is)
    (case k_law_above => k_is)
    (case a_law => k_is)
    (case l_law => k_is)
    (case cc_law => k_is)
    (case k_law => k_is)
    (case x_BadName => k_is)
    (case sa_BadName => k_is)
    (case ga_BadName => k_is)
    (case gg_BadName => k_is)
    (case eC_BadName => k_is)
    (case tC_BadName => k_is)
    (case kC_BadName => k_is)
    (case hC_BadName => k_is)
    (case iC_BadName => k_is)
    (case sC_BadName => first | rfl | k_is)
    (case va_BadName => k_is)
    (case vn_all => k_is)
    (case vt_all => k_is)
    (case vm_BadName => k_is)
    (case z_BadName_name => k_is)
    (case x_BadValue => k_is)
    (case sa_BadValue => k_is)
    (case ga_BadValue => k_is)
    (case gg_BadValue => k_is)
    (case eC_BadValue => k_is)
    (case tC_BadValue => k_is)
    (case kC_BadValue => k_is)
    (case hC_BadValue => k_is)
    (case iC_BadValue => k_is)
    (case sC_BadValue => first | rfl | k_is)
    (case va_BadValue => k_is)
    (case vm_BadValue => k_is)
    (case z_BadValue_value => k_is)
    (case x_BadTest => k_is)
    (case sa_BadTest => k_is)
    (case ga_BadTest => k_is)
    (case gg_BadTest => k_is)
    (case eC_BadTest => k_is)
    (case tC_BadTest => k_is)
    (case kC_BadTest => k_is)
    (case hC_BadTest => k_is)
    (case iC_BadTest => k_is)
    (case sC_BadTest => first | rfl | k_is)
    (case va_BadTest => k_is)
    (case vm_BadTest => k_is)
    (case z_BadTest_test => k_is)
    (case x_BadStep => k_is)
    (case sa_BadStep => k_is)
    (case ga_BadStep => k_is)
    (case gg_BadStep => k_is)
    (case eC_BadStep => k_is)
    (case tC_BadStep => k_is)
    (case kC_BadStep => k_is)
    (case hC_BadStep => k_is)
    (case iC_BadStep => k_is)
    (case sC_BadStep => first | rfl | k_is)
    (case va_BadStep => k_is)
    (case vm_BadStep => k_is)
    (case z_BadStep_index => k_is)
    (case x_BadFail => k_is)
    (case sa_BadFail => k_is)
    (case ga_BadFail => k_is)
    (case gg_BadFail => k_is)
    (case eC_BadFail => k_is)
    (case tC_BadFail => k_is)
    (case kC_BadFail => k_is)
    (case hC_BadFail => k_is)
    (case iC_BadFail => k_is)
    (case sC_BadFail => first | rfl | k_is)
    (case va_BadFail => k_is)
    (case vm_BadFail => k_is)
    (case z_BadFail_index => k_is)
    (case x_BadPair => k_is)
    (case sa_BadPair => k_is)
    (case ga_BadPair => k_is)
    (case gg_BadPair => k_is)
    (case eC_BadPair => k_is)
    (case tC_BadPair => k_is)
    (case kC_BadPair => k_is)
    (case hC_BadPair => k_is)
    (case iC_BadPair => k_is)
    (case sC_BadPair => first | rfl | k_is)
    (case va_BadPair => k_is)
    (case vm_BadPair => k_is)
    (case z_BadPair_index => k_is)
    (case x_BadKind => k_is)
    (case sa_BadKind => k_is)
    (case ga_BadKind => k_is)
    (case gg_BadKind => k_is)
    (case eC_BadKind => k_is)
    (case tC_BadKind => k_is)
    (case kC_BadKind => k_is)
    (case hC_BadKind => k_is)
    (case iC_BadKind => k_is)
    (case sC_BadKind => first | rfl | k_is)
    (case va_BadKind => k_is)
    (case vm_BadKind => k_is)
    (case z_BadKind_kind => k_is)
    (case x_BadMend => k_is)
    (case sa_BadMend => k_is)
    (case ga_BadMend => k_is)
    (case gg_BadMend => k_is)
    (case eC_BadMend => k_is)
    (case tC_BadMend => k_is)
    (case kC_BadMend => k_is)
    (case hC_BadMend => k_is)
    (case iC_BadMend => k_is)
    (case sC_BadMend => first | rfl | k_is)
    (case va_BadMend => k_is)
    (case vm_BadMend => k_is)
    (case z_BadMend_index => k_is)
    (case x_BadText => k_is)
    (case sa_BadText => k_is)
    (case ga_BadText => k_is)
    (case gg_BadText => k_is)
    (case eC_BadText => k_is)
    (case tC_BadText => k_is)
    (case kC_BadText => k_is)
    (case hC_BadText => k_is)
    (case iC_BadText => k_is)
    (case sC_BadText => first | rfl | k_is)
    (case va_BadText => k_is)
    (case vm_BadText => k_is)
    (case z_BadText_line => k_is)
    (case x_BadCommand => k_is)
    (case sa_BadCommand => k_is)
    (case ga_BadCommand => k_is)
    (case gg_BadCommand => k_is)
    (case eC_BadCommand => k_is)
    (case tC_BadCommand => k_is)
    (case kC_BadCommand => k_is)
    (case hC_BadCommand => k_is)
    (case iC_BadCommand => k_is)
    (case sC_BadCommand => first | rfl | k_is)
    (case va_BadCommand => k_is)
    (case vm_BadCommand => k_is)
    (case z_BadCommand_command => k_is)
    (case x_Twice => k_is)
    (case sa_Twice => k_is)
    (case ga_Twice => k_is)
    (case gg_Twice => k_is)
    (case eC_Twice => k_is)
    (case tC_Twice => k_is)
    (case kC_Twice => k_is)
    (case hC_Twice => k_is)
    (case iC_Twice => k_is)
    (case sC_Twice => first | rfl | k_is)
    (case va_Twice => k_is)
    (case vm_Twice => k_is)
    (case z_Twice_name => k_is)
    (case x_Taken => k_is)
    (case sa_Taken => k_is)
    (case ga_Taken => k_is)
    (case gg_Taken => k_is)
    (case eC_Taken => k_is)
    (case tC_Taken => k_is)
    (case kC_Taken => k_is)
    (case hC_Taken => k_is)
    (case iC_Taken => k_is)
    (case sC_Taken => first | rfl | k_is)
    (case va_Taken => k_is)
    (case vm_Taken => k_is)
    (case z_Taken_name => k_is)
    (case x_Misplaced => k_is)
    (case sa_Misplaced => k_is)
    (case ga_Misplaced => k_is)
    (case gg_Misplaced => k_is)
    (case eC_Misplaced => k_is)
    (case tC_Misplaced => k_is)
    (case kC_Misplaced => k_is)
    (case hC_Misplaced => k_is)
    (case iC_Misplaced => k_is)
    (case sC_Misplaced => first | rfl | k_is)
    (case va_Misplaced => k_is)
    (case vm_Misplaced => k_is)
    (case z_Misplaced_handler => k_is)
    (case z_Misplaced_number => k_is)
    (case z_Misplaced_name => k_is)
    (case x_Unlike => k_is)
    (case sa_Unlike => k_is)
    (case ga_Unlike => k_is)
    (case gg_Unlike => k_is)
    (case eC_Unlike => k_is)
    (case tC_Unlike => k_is)
    (case kC_Unlike => k_is)
    (case hC_Unlike => k_is)
    (case iC_Unlike => k_is)
    (case sC_Unlike => first | rfl | k_is)
    (case va_Unlike => k_is)
    (case vm_Unlike => k_is)
    (case z_Unlike_name => k_is)
    (case x_NoHandler => k_is)
    (case sa_NoHandler => k_is)
    (case ga_NoHandler => k_is)
    (case gg_NoHandler => k_is)
    (case eC_NoHandler => k_is)
    (case tC_NoHandler => k_is)
    (case kC_NoHandler => k_is)
    (case hC_NoHandler => k_is)
    (case iC_NoHandler => k_is)
    (case sC_NoHandler => first | rfl | k_is)
    (case va_NoHandler => k_is)
    (case vm_NoHandler => k_is)
    (case z_NoHandler_name => k_is)
    (case x_NoPlace => k_is)
    (case sa_NoPlace => k_is)
    (case ga_NoPlace => k_is)
    (case gg_NoPlace => k_is)
    (case eC_NoPlace => k_is)
    (case tC_NoPlace => k_is)
    (case kC_NoPlace => k_is)
    (case hC_NoPlace => k_is)
    (case iC_NoPlace => k_is)
    (case sC_NoPlace => first | rfl | k_is)
    (case va_NoPlace => k_is)
    (case vm_NoPlace => k_is)
    (case z_NoPlace_name => k_is)
    (case x_NotTyped => k_is)
    (case sa_NotTyped => k_is)
    (case ga_NotTyped => k_is)
    (case gg_NotTyped => k_is)
    (case eC_NotTyped => k_is)
    (case tC_NotTyped => k_is)
    (case kC_NotTyped => k_is)
    (case hC_NotTyped => k_is)
    (case iC_NotTyped => k_is)
    (case sC_NotTyped => first | rfl | k_is)
    (case va_NotTyped => k_is)
    (case vm_NotTyped => k_is)
    (case z_NotTyped_name => k_is)
    (case x_Refused => k_is)
    (case sa_Refused => k_is)
    (case ga_Refused => k_is)
    (case gg_Refused => k_is)
    (case eC_Refused => k_is)
    (case tC_Refused => k_is)
    (case kC_Refused => k_is)
    (case hC_Refused => k_is)
    (case iC_Refused => k_is)
    (case sC_Refused => first | rfl | k_is)
    (case va_Refused => k_is)
    (case vm_Refused => k_is)
    (case z_Refused_target => k_is)
    (case z_Refused_number => k_is)
    (case x_Shut => k_is)
    (case sa_Shut => k_is)
    (case ga_Shut => k_is)
    (case gg_Shut => k_is)
    (case eC_Shut => k_is)
    (case tC_Shut => k_is)
    (case kC_Shut => k_is)
    (case hC_Shut => k_is)
    (case iC_Shut => k_is)
    (case sC_Shut => first | rfl | k_is)
    (case va_Shut => k_is)
    (case vm_Shut => k_is)
    (case z_Shut_name => k_is)
    (case x_TooMany => k_is)
    (case sa_TooMany => k_is)
    (case ga_TooMany => k_is)
    (case gg_TooMany => k_is)
    (case eC_TooMany => k_is)
    (case tC_TooMany => k_is)
    (case kC_TooMany => k_is)
    (case hC_TooMany => k_is)
    (case iC_TooMany => k_is)
    (case sC_TooMany => first | rfl | k_is)
    (case va_TooMany => k_is)
    (case vm_TooMany => k_is)
    (case z_TooMany_limit => k_is)
    (case n_LETTERS => k_is)
    (case n_MOST_SIGNS => k_is)
    (case n_BEYOND => k_is)
    (case b_LookupError => k_is)
    (case b_OverflowError => k_is)
    (case b_RuntimeError => k_is)
    (case b_TypeError => k_is)
    (case b_ValueError => k_is)
    (case b_abs => k_is)
    (case b_all => k_is)
    (case b_bool => k_is)
    (case b_enumerate => k_is)
    (case b_int => k_is)
    (case b_isinstance => k_is)
    (case b_len => k_is)
    (case b_max => k_is)
    (case b_min => k_is)
    (case b_range => k_is)
    (case b_repr => k_is)
    (case b_str => k_is)
    (case nd_all => decide +kernel)
