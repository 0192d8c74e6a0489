import PyProof.Rows.All
import Wide.All
import OpenK.AllK
import Wide.FinOn
import HandS.ForMost
import HandS.ForExc
import HandS.IsInst
import HandS.ExcInit
import HandS.ExcField
import HandS.Wide
import HandS.Flow
import HandS.Style
import HandS.More
import HandS.Star
import HandS.ClsMeth
import HandS.OwnEq
import HandS.FStr
import HandS.SetKeys
import HandS.SetBool
import HandS.Conv
import HandS.DictComp
import HandS.Walk
import HandS.Ends
import KE.GoesMore
import KE.GoesEnum
import HandS.Zip
import HandS.CallLocal
import HandS.Small
import HandS.Text
import HandS.Codes
import HandS.ExcValue
import KE.KExcIs
import HandS.Deep
import PyProof.FactsAll.dict_1
import PyProof.ReprRoads
import PySem.Challenge.RW_falsedefaults_k40_pairs_refused
set_option Elab.async false
set_option linter.all false
set_option maxRecDepth 100000
set_option maxHeartbeats 4000000
set_option maxHeartbeats 1000000
set_option maxHeartbeats 2000000
namespace Z
open PySem PySem.Spec PyProof.Rows L2
abbrev St := L2.St

/-! ### operators, whatever the kinds -/
def zAdd : R2 := fun x y H Q => match x, y with
  | .int i, .int j => Q (.int (i + j)) H
  | .str i, .str j => i.length + j.length ≤ sizeLine ∧ Q (.str (i ++ j)) H
  | .ref l, .ref b => ∃ xs zs, H l = some (.lst xs) ∧ H b = some (.lst zs) ∧ xs.length + zs.length ≤ sizeLine ∧ ∀ p, H p = none → Q (.ref p) (upd H p (.lst (xs ++ zs)))
  | _, _ => False
def zSub : R2 := fun x y H Q => match x, y with
  | .int i, .int j => Q (.int (i - j)) H
  | _, _ => False
def zMul : R2 := fun x y H Q => match x, y with
  | .int i, .int j => CMul i j ∧ Q (.int (i * j)) H
  | .str x, .int n => MulOk x n ∧ Q (.str (Txt.mul x n)) H
  | .ref l, .int k => ∃ xs, H l = some (.lst xs) ∧ -(2 ^ 63) ≤ k ∧ k < 2 ^ 63 ∧ xs.length * k.toNat ≤ sizeLine ∧ ∀ p, H p = none → Q (.ref p) (upd H p (.lst (List.replicate k.toNat xs).flatten))
  | _, _ => False
def zMod : R2 := fun x y H Q => match x, y with
  | .int i, .int j => 0 < j ∧ Q (.int (i % j)) H
  | _, _ => False
def zFdiv : R2 := fun x y H Q => match x, y with
  | .int i, .int j => CDivW i j ∧ Q (.int (i / j)) H
  | _, _ => False
def zPow : R2 := fun x y H Q => match x, y with
  | .int i, .int j => CPow i j ∧ Q (.int (i ^ j.toNat)) H
  | _, _ => False
def zLt : R2 := fun x y H Q => match x, y with
  | .int i, .int j => Q (.bl (decide (i < j))) H
  | _, _ => False
def zLe : R2 := fun x y H Q => match x, y with
  | .int i, .int j => Q (.bl (decide (i ≤ j))) H
  | _, _ => False
def zGt : R2 := fun x y H Q => match x, y with
  | .int i, .int j => Q (.bl (decide (j < i))) H
  | _, _ => False
def zGe : R2 := fun x y H Q => match x, y with
  | .int i, .int j => Q (.bl (decide (j ≤ i))) H
  | _, _ => False
def zIs : R2 := fun x y H Q => y = .non ∧ Q (.bl (decide (x = .non))) H
def zIsnt : R2 := fun x y H Q => y = .non ∧ Q (.bl (!decide (x = .non))) H
/-- == of scalars of any kinds; else of data -/
def zEq (K : PySem.W.Frag) : R2 := fun x y H Q => (scal x y = true ∧ Q (.bl (decide (x = y))) H) ∨ rEqD K x y H Q
def zNe (K : PySem.W.Frag) : R2 := fun x y H Q => (scal x y = true ∧ Q (.bl (!decide (x = y))) H) ∨ rNeD K x y H Q
/-- in: one sign in a text; a flat thing in a list or a tuple -/
def zIn (K : PySem.W.Frag) : R2 := fun x y H Q => (∃ (c : Nat) (z : Str), x = .str ⟨#[c]⟩ ∧ y = .str z ∧ Q (.bl (decide (c ∈ z.cps.toList))) H) ∨ rIn K false x y H Q
def zNin (K : PySem.W.Frag) : R2 := fun x y H Q => (∃ (c : Nat) (z : Str), x = .str ⟨#[c]⟩ ∧ y = .str z ∧ Q (.bl (!decide (c ∈ z.cps.toList))) H) ∨ rIn K true x y H Q
def zIx (K : PySem.W.Frag) : R2 := fun x y H Q => match x, y with
  | .ref p, .int i => ∃ xs v, (SqL K H p xs ∨ SqT K H p xs) ∧ atI xs i = some v ∧ Q v H
  | .str z, .int i => z.length ≤ sizeLine ∧ ∃ c, atI z.cps.toList i = some c ∧ Q (.str ⟨#[c]⟩) H
  | _, _ => False
section
variable {X : Cx}
theorem op_zAdd : OpR X (binaryOp .Add) zAdd := by
  intro pins s σ H x y v u Q I rx ry h
  unfold zAdd at h
  split at h
  · exact op_add pins s σ H _ _ v u Q I rx ry ⟨_, _, rfl, rfl, h⟩
  · exact op_add_str pins s σ H _ _ v u Q I rx ry ⟨_, _, rfl, rfl, h⟩
  · obtain ⟨xs, zs, h1, h2, h3, h4⟩ := h
    exact op_cat pins s σ H _ _ v u Q I rx ry ⟨_, _, _, _, rfl, rfl, h1, h2, h3, h4⟩
  · exact h.elim
theorem op_zSub : OpR X (binaryOp .Sub) zSub := by
  intro pins s σ H x y v u Q I rx ry h
  unfold zSub at h
  split at h
  · exact op_sub pins s σ H _ _ v u Q I rx ry ⟨_, _, rfl, rfl, h⟩
  · exact h.elim
theorem op_zMul : OpR X (binaryOp .Mult) zMul := by
  intro pins s σ H x y v u Q I rx ry h
  unfold zMul at h
  split at h
  · exact op_mul pins s σ H _ _ v u Q I rx ry ⟨_, _, rfl, rfl, h.1, h.2⟩
  · obtain ⟨t, rfl⟩ := rx
    obtain ⟨t', rfl⟩ := ry
    exact SB.mul h.1 fun t2 k => ⟨.str _, H, I.tok _, ⟨_, rfl⟩, h.2⟩
  · obtain ⟨xs, h1, h2, h3, h4, h5⟩ := h
    exact op_rep pins s σ H _ _ v u Q I rx ry ⟨_, _, _, rfl, rfl, h1, h2, h3, h4, h5⟩
  · exact h.elim
theorem op_zMod : OpR X (binaryOp .Mod) zMod := by
  intro pins s σ H x y v u Q I rx ry h
  unfold zMod at h
  split at h
  · exact op_mod pins s σ H _ _ v u Q I rx ry ⟨_, _, rfl, rfl, h.1, h.2⟩
  · exact h.elim
theorem op_zFdiv : OpR X (binaryOp .FloorDiv) zFdiv := by
  intro pins s σ H x y v u Q I rx ry h
  unfold zFdiv at h
  split at h
  · exact op_fdivW pins s σ H _ _ v u Q I rx ry ⟨_, _, rfl, rfl, h.1, h.2⟩
  · exact h.elim
theorem op_zPow : OpR X (binaryOp .Pow) zPow := by
  intro pins s σ H x y v u Q I rx ry h
  unfold zPow at h
  split at h
  · exact op_pow pins s σ H _ _ v u Q I rx ry ⟨_, _, rfl, rfl, h.1, h.2⟩
  · exact h.elim
theorem op_zLt : OpR X (compareOp .Lt) zLt := by
  intro pins s σ H x y v u Q I rx ry h
  unfold zLt at h
  split at h
  · exact op_lt pins s σ H _ _ v u Q I rx ry ⟨_, _, rfl, rfl, h⟩
  · exact h.elim
theorem op_zLe : OpR X (compareOp .LtE) zLe := by
  intro pins s σ H x y v u Q I rx ry h
  unfold zLe at h
  split at h
  · exact op_le pins s σ H _ _ v u Q I rx ry ⟨_, _, rfl, rfl, h⟩
  · exact h.elim
theorem op_zGt : OpR X (compareOp .Gt) zGt := by
  intro pins s σ H x y v u Q I rx ry h
  unfold zGt at h
  split at h
  · exact op_gt pins s σ H _ _ v u Q I rx ry ⟨_, _, rfl, rfl, h⟩
  · exact h.elim
theorem op_zGe : OpR X (compareOp .GtE) zGe := by
  intro pins s σ H x y v u Q I rx ry h
  unfold zGe at h
  split at h
  · exact op_ge pins s σ H _ _ v u Q I rx ry ⟨_, _, rfl, rfl, h⟩
  · exact h.elim
theorem op_zIs : OpR X (compareOp .Is) zIs := op_isN
theorem op_zIsnt : OpR X (compareOp .IsNot) zIsnt := op_notN
theorem op_zEq (hu : X.A.units + 64 < cLine) : OpR X (compareOp .Eq) (zEq X.K) := OpR.or op_eq (op_eqD hu)
theorem op_zNe (hu : X.A.units + 64 < cLine) : OpR X (compareOp .NotEq) (zNe X.K) := OpR.or op_ne (op_neD hu)
theorem op_zIn : OpR X (compareOp .In) (zIn X.K) := OpR.or op_in_sign op_in_seq
theorem op_zNin : OpR X (compareOp .NotIn) (zNin X.K) := OpR.or op_notIn_sign op_notIn_seq
theorem ix_z : IxR X (zIx X.K) := by
  intro e1 e2 pins s σ H x y v u Q I rx ry h hs
  unfold zIx at h
  split at h
  · obtain ⟨xs, w, hq, ha, q⟩ := h
    rcases hq with hq | hq
    · exact ix_seq e1 e2 pins s σ H _ _ v u Q I rx ry (.inl ⟨_, _, _, _, rfl, rfl, hq, ha, q⟩) hs
    · exact ix_seq e1 e2 pins s σ H _ _ v u Q I rx ry (.inr (.inl ⟨_, _, _, _, rfl, rfl, hq, ha, q⟩)) hs
  · obtain ⟨hz, c, ha, q⟩ := h
    exact ix_seq e1 e2 pins s σ H _ _ v u Q I rx ry (.inr (.inr ⟨_, _, _, rfl, rfl, hz, ha, q⟩)) hs
  · exact h.elim
end
end Z
namespace Z
open PySem PySem.Spec PyProof.Rows L2

/-! ### a def's promise where no repr is running around it; anything may be raised -/
structure FnG (gd : Bool) (P : Program) (w : World) (K : PySem.W.Frag) (mg : Str → Option Value) (base : Heap)
    (k : Nat) (f : Addr) (fd : FuncData) (ps : List Str) (sp : Sp) : Prop where
  len : ∀ vs H Q E, sp vs H Q E → vs.length = ps.length
  run : ∀ (A : Around) (outer : List Env) (s : Shared) (H : Hp) (args : Args) (us : List Value)
    (vs : List V) (Q : VK) (E : XK), Room k A → (gd = true → A.guards = some []) →
    Env0 P w K mg base A outer s H → BindsTo s fd args (ps.zip us) → Vals vs us → sp vs H Q E →
    codeAny (model P w) A (.call (.ref f) args) (CR (L2.CX P w) outer P w H s Q E) s
abbrev FnZ := FnG true
section
variable {gd : Bool} {P : Program} {w : World} {K : PySem.W.Frag} {mg : Str → Option Value} {base : Heap} {f : Addr} {fd : FuncData} {ps : List Str} {sp sp' : Sp}
theorem FnG.mono {j k : Nat} (F : FnG gd P w K mg base j f fd ps sp) (h : j ≤ k) : FnG gd P w K mg base k f fd ps sp :=
  ⟨F.len, fun A outer s H args us vs Q E hr => F.run A outer s H args us vs Q E (hr.mono h)⟩
theorem FnG.imp {k : Nat} (F : FnG gd P w K mg base k f fd ps sp) (h : ∀ vs H Q E, sp' vs H Q E → sp vs H Q E) : FnG gd P w K mg base k f fd ps sp' :=
  ⟨fun vs H Q E q => F.len vs H Q E (h _ _ _ _ q), fun A outer s H args us vs Q E hr hg he hb hv hs =>
    F.run A outer s H args us vs Q E hr hg he hb hv (h _ _ _ _ hs)⟩
/-- without a word on guards it is a promise for any of the hand layer's rules -/
theorem FnG.raw {k : Nat} (F : FnG false P w K mg base k f fd ps sp) (hb : Binds K fd ps []) : FnR P w K mg base (L2.CX P w) k f sp := by
  intro A outer s H us vs Q E hr e0 r h
  have KX : K.In s.heap := e0.mod.kin.keeps fun b o z => (e0.bs b o z).1
  have hl : us.length = ps.length := r.length.symm.trans (F.len _ _ _ _ h)
  have b := hb s us KX (by rw [List.append_nil]; exact hl)
  rw [List.append_nil] at b
  exact F.run A outer s H ⟨us, []⟩ us vs Q E hr (fun z => nomatch z) e0 b r h
/-- and one that holds even so -/
theorem FnG.up {k : Nat} (F : FnG false P w K mg base k f fd ps sp) : FnG gd P w K mg base k f fd ps sp := ⟨F.len, fun A outer s H args us vs Q E hr _ => F.run A outer s H args us vs Q E hr fun z => nomatch z⟩
end
theorem guards_make {A : Around} {C : Addr} {us : List Value} {kw : List (Str × Value)} (h : A.guards = some []) :
    (A.under (.builtin "type.__call__" ⟨.ref C :: us, kw⟩)).guards = some [] := by
  simp [Around.under, Code.guards, Code.isGuard, guardIds, pushGuards, h]

section
variable {gd : Bool} {P : Program} {w : World} {K : PySem.W.Frag} {mg : Str → Option Value} {base : Heap}
/-- a def by its body -/
theorem okZ {x qual : Str} {st : Stmt} {f : Addr} {fd : FuncData} {N ps : List Str} {k : Nat} {sp : Sp} (F : Fun K x qual st f fd)
    (S : FnScope N ps (defScope st)) (len : ∀ vs H Q E, sp vs H Q E → vs.length = ps.length)
    (hbody : ∀ (cdv : Value) (A : Around) (outer : List Env) (s : Shared) (H : Hp) (vs : List V) (Q : VK) (E : XK),
      Room k (A.deeper (envOfC qual (defScope st) s.heap.objs.size f cdv)) →
      (gd = true → (A.deeper (envOfC qual (defScope st) s.heap.objs.size f cdv)).guards = some []) → sp vs H Q E →
      ∃ t, PSs (cxOf (L2.CX P w) P w K mg base N qual (defScope st) f cdv A outer s H E) (defBody st) t ∧
        t { nx := fun _ H' => Q .non H', rt := Q } (start N vs) H) :
    FnG gd P w K mg base (k + 1) f fd ps sp := by
  obtain ⟨oc, od, kV, doc, pm, an, cdv, ct, osl, rfl, lk, hcd⟩ := F.ex
  refine ⟨len, fun A outer s H args us vs Q E hr hgu e0 hb r hsp => ?_⟩
  have hl := len _ _ _ _ hsp
  have KX : K.In s.heap := e0.mod.kin.keeps fun b o z => (e0.bs b o z).1
  have lim : s.heap.NoLimit := e0.mod.nolimit.keeps fun b o z => (e0.bs b o z).1
  have hkind : ∀ y ∈ ps.zip us, (defScope st).names.lookup y.1 = some .local ∨
      ((defScope st).names.lookup y.1 = some .cell ∧ ((cellsFrom (s.heap.objs.size + 1) (defScope st).names []).lookup y.1).isSome = true) := by
    intro y hy
    obtain ⟨n, v⟩ := y
    rcases S.par n (List.of_mem_zip hy).1 with q | q
    · exact .inl q
    · exact .inr ⟨q, PySem.W.cellsFrom_some _ _ _ (.inl q)⟩
  refine codeAny_call_function hr.depth (KX _ _ lk) rfl S.co S.gen rfl (PySem.W.codeRec_of KX hcd) (hb _ _ _ _ ?_)
  refine wpAny_newFunctionEnv_cells S.kind hkind fun env he s1 x => ?_
  subst he
  refine ⟨lim.keeps x.toInCall.keep, codeAny_func ?_⟩
  obtain ⟨t, ht, hq⟩ := hbody cdv A outer s H vs Q E (hr.deeper _) hgu hsp
  have I := inv_start (CX := L2.CX P w) (E := E) S hr.hd e0 hl r x
  refine wpAny_mono (ht.run [] s1 (start N vs) H _ I hq) (fun fl s' hs => ?_) fun e s' hs => hs
  cases fl with
  | ret u =>
    obtain ⟨v, σ', H', J, rv, q⟩ := hs
    exact ⟨v, H', J.os, J.bare, J.base, J.hok, rv, q⟩
  | next =>
    obtain ⟨σ', H', J, q⟩ := hs
    exact ⟨V.non, H', J.os, J.bare, J.base, J.hok, rfl, q⟩
  | brk => exact False.elim hs.choose_spec.choose_spec.2
  | cont => exact False.elim hs.choose_spec.choose_spec.2
end

/-! ### calls of such defs -/
theorem passE0 {X : Cx} (σ : St) : PassesAt (L2.CX X.prog X.w) X σ E0 := fun pins H s e s' I h => passL pins σ H s e s' I h
def zCall (sp : Sp) (dvs : List V) (E : St → XK) (t : TA) : TE := fun σ H Q => t σ H fun vs H1 => sp (vs ++ dvs) H1 Q (E σ)
def zMeth (C : Addr) (m : Str) (sp : Sp) (dvs : List V) (E : St → XK) (ta : TE) (t : TA) : TE := fun σ H Q =>
  ta σ H fun x H1 => ∃ a dx fs, x = .ref a ∧ H1 a = some (.ins C dx fs) ∧ fs.lookup m = none ∧
    t σ H1 fun vs H2 => sp (x :: (vs ++ dvs)) H2 Q (E σ)
def zMake (C : Addr) (sp : Sp) (dvs : List V) (E : St → XK) (t : TA) : TE := fun σ H Q =>
  t σ H fun vs H1 => ∀ x dx, H1 x = none → H1 dx = none → dx ≠ x →
    sp (.ref x :: (vs ++ dvs)) (upd (upd H1 dx (.own x)) x (.ins C dx [])) (fun v H2 => v = .non ∧ Q (.ref x) H2) (E σ)
section
variable {gd : Bool} {X : Cx} {k : Nat} {f C : Addr} {fd : FuncData} {ps : List Str} {sp : Sp} {dvs : List V} {ds : List Value} {E : St → XK} {x m : Str}
  {p pos apos : Pos} {e o : Expr} {es : List Expr} {ta : TE} {t : TA}
theorem run_fnZ {pins : List (Addr × Obj)} {σ : St} {H : Hp} {s : Shared} {Q : VK} {us : List Value} {vs : List V}
    (F : FnG gd X.prog X.w X.K X.mg X.base k f fd ps sp) (hr : Room k X.A) (hgu : gd = true → X.A.guards = some []) (hb : Binds X.K fd ps ds) (hd : Vals dvs ds)
    (hx : PassesAt (L2.CX X.prog X.w) X σ (E σ)) (I : Inv X pins σ H s) (r : Vals vs us) (h : sp (vs ++ dvs) H Q (E σ)) :
    wpAny (model X.prog X.w) X.A (call (.ref f) us) (EP X pins σ Q) X.xe s := by
  have r2 : Vals (vs ++ dvs) (us ++ ds) := r.append hd
  have hl : (us ++ ds).length = ps.length := r2.length.symm.trans (F.len _ _ _ _ h)
  refine wpAny_call (codeAny_mono (F.run X.A X.stack s H ⟨us, []⟩ (us ++ ds) (vs ++ dvs) Q (E σ) hr hgu I.env0 (hb s us I.kIn hl) r2 h) fun r s' hq => ?_)
  rcases r with er | fl
  · exact hx pins H s er s' I hq
  · cases fl with
    | ret u => exact I.after hq
    | next => exact hq.elim
    | brk => exact hq.elim
    | cont => exact hq.elim
/-- f(e, ..) -/
theorem pe_callZ (F : FnG gd X.prog X.w X.K X.mg X.base k f fd ps sp) (hr : Room k X.A) (hgu : gd = true → X.A.guards = some []) (hg : Gl X x) (hm : X.mg x = some (.ref f))
    (hk : PySem.W.keepIn X.K (.ref f) = true) (hb : Binds X.K fd ps ds) (hd : Vals dvs ds) (hx : ∀ σ, PassesAt (L2.CX X.prog X.w) X σ (E σ))
    (ha : PA X (e :: es) t) (hdb : (x == ("__debug__" : Str)) = false := by decide)
    (he : starEach (e :: es) X.env = (false, eval e X.env) :: starEach es X.env := by rfl) (hpl : (backTo pos (starEach es X.env)).any (·.1) = false := by rfl) :
    PE X (.Call (.Name x p) (e :: es) [] pos) (zCall sp dvs E t) := by
  constructor
  intro pins s σ H Q I h
  refine wpAny_Call_Name_kw (ld_glob I hg hm ?_ hdb)
  refine PySem.W.callWith_K (h₀ := X.base) I.ok.mod.kin hk (thn (ha.run pos pins s σ H _ I h) ?_) he hpl
  rintro us s1 ⟨vs, H1, I1, r, q⟩
  exact ⟨I1.kIn, run_fnZ F hr hgu hb hd (hx σ) I1 r q⟩
theorem pe_callZ0 (F : FnG gd X.prog X.w X.K X.mg X.base k f fd ps sp) (hr : Room k X.A) (hgu : gd = true → X.A.guards = some []) (hg : Gl X x) (hm : X.mg x = some (.ref f))
    (hk : PySem.W.keepIn X.K (.ref f) = true) (hb : Binds X.K fd ps ds) (hd : Vals dvs ds) (hx : ∀ σ, PassesAt (L2.CX X.prog X.w) X σ (E σ))
    (hdb : (x == ("__debug__" : Str)) = false := by decide) : PE X (.Call (.Name x p) [] [] pos) (zCall sp dvs E tNil) := by
  constructor
  intro pins s σ H Q I h
  refine wpAny_Call_Name_kw (ld_glob I hg hm ?_ hdb)
  exact PySem.W.callWith_K0 I.kIn hk (run_fnZ (us := []) F hr hgu hb hd (hx σ) I .nil h)
theorem run_makeZ {pins : List (Addr × Obj)} {σ : St} {H : Hp} {s : Shared} {Q : VK} {us : List Value} {vs : List V} (M : Mk X.K C f)
    (F : FnG gd X.prog X.w X.K X.mg X.base k f fd ps sp) (hr : Room (k + 1) X.A) (hgu : gd = true → X.A.guards = some []) (hb : Binds X.K fd ps ds) (hd : Vals dvs ds)
    (hx : PassesAt (L2.CX X.prog X.w) X σ (E σ)) (I : Inv X pins σ H s) (r : Vals vs us)
    (h : ∀ x dx, H x = none → H dx = none → dx ≠ x → sp (.ref x :: (vs ++ dvs)) (upd (upd H dx (.own x)) x (.ins C dx [])) (fun v H2 => v = .non ∧ Q (.ref x) H2) (E σ)) :
    wpAny (model X.prog X.w) X.A (call (.ref C) us) (EP X pins σ Q) X.xe s := by
  have n0 := I.hok.fresh (Nat.le_refl s.heap.objs.size)
  have n1 := I.hok.fresh (Nat.le_succ s.heap.objs.size)
  have hq := h _ _ n1 n0 (Nat.ne_of_lt (Nat.lt_succ_self _))
  have I2 := Inv.made (C := C) I
  have r2 : Vals (V.ref (s.heap.objs.size + 1) :: (vs ++ dvs)) (Value.ref (s.heap.objs.size + 1) :: (us ++ ds)) := .cons rfl (r.append hd)
  have hl : (Value.ref (s.heap.objs.size + 1) :: us ++ ds).length = ps.length := (r2.length.symm.trans (F.len _ _ _ _ hq))
  refine wpAny_call (make_map (f := f) I.kIn M.makes M.init (beq_iff_eq.mp M.fn) (codeAny_mono (F.run _ X.stack _ _ ⟨Value.ref (s.heap.objs.size + 1) :: us, []⟩ _ _ _ (E σ) (hr.make C us [])
    (fun z => guards_make (hgu z)) (I2.env0.make C us []) (hb _ (Value.ref (s.heap.objs.size + 1) :: us) I2.kIn hl) r2 hq) fun r s' hq' => ?_))
  rcases r with er | fl
  · exact hx pins _ _ er s' I2 hq'
  · cases fl with
    | ret u =>
      obtain ⟨v, H', I3, rv, ev, q3⟩ := I2.after hq'
      subst ev
      exact ⟨rv, ⟨V.ref (s.heap.objs.size + 1), H', I3, rfl, q3⟩⟩
    | next => exact hq'.elim
    | brk => exact hq'.elim
    | cont => exact hq'.elim
/-- C(e, ..) -/
theorem pe_makeZ (M : Mk X.K C f) (F : FnG gd X.prog X.w X.K X.mg X.base k f fd ps sp) (hr : Room (k + 1) X.A) (hgu : gd = true → X.A.guards = some []) (hg : Gl X x)
    (hm : X.mg x = some (.ref C)) (hb : Binds X.K fd ps ds) (hd : Vals dvs ds) (hx : ∀ σ, PassesAt (L2.CX X.prog X.w) X σ (E σ)) (ha : PA X (e :: es) t)
    (hdb : (x == ("__debug__" : Str)) = false := by decide)
    (he : starEach (e :: es) X.env = (false, eval e X.env) :: starEach es X.env := by rfl) (hpl : (backTo pos (starEach es X.env)).any (·.1) = false := by rfl) :
    PE X (.Call (.Name x p) (e :: es) [] pos) (zMake C sp dvs E t) := by
  constructor
  intro pins s σ H Q I h
  refine wpAny_Call_Name_kw (ld_glob I hg hm ?_ hdb)
  refine PySem.W.callWith_K (h₀ := X.base) I.ok.mod.kin M.kp (thn (ha.run pos pins s σ H _ I h) ?_) he hpl
  rintro us s1 ⟨vs, H1, I1, r, q⟩
  exact ⟨I1.kIn, run_makeZ M F hr hgu hb hd (hx σ) I1 r q⟩
theorem pe_makeZ0 (M : Mk X.K C f) (F : FnG gd X.prog X.w X.K X.mg X.base k f fd ps sp) (hr : Room (k + 1) X.A) (hgu : gd = true → X.A.guards = some []) (hg : Gl X x)
    (hm : X.mg x = some (.ref C)) (hb : Binds X.K fd ps ds) (hd : Vals dvs ds) (hx : ∀ σ, PassesAt (L2.CX X.prog X.w) X σ (E σ))
    (hdb : (x == ("__debug__" : Str)) = false := by decide) :
    PE X (.Call (.Name x p) [] [] pos) (zMake C sp dvs E tNil) := by
  constructor
  intro pins s σ H Q I h
  refine wpAny_Call_Name_kw (ld_glob I hg hm ?_ hdb)
  exact PySem.W.callWith_K0 I.kIn M.kp (run_makeZ (us := []) M F hr hgu hb hd (hx σ) I .nil h)
/-- o.m(e, ..) -/
theorem pe_methZ {pl : Sem Bool} (he : PE X o ta) (c : Cls X.K C) (hm : Meth X.K C m f) (F : FnG gd X.prog X.w X.K X.mg X.base k f fd ps sp)
    (hr : Room k X.A) (hgu : gd = true → X.A.guards = some []) (hb : Binds X.K fd ps ds) (hd : Vals dvs ds) (hx : ∀ σ, PassesAt (L2.CX X.prog X.w) X σ (E σ)) (ha : PA X (e :: es) t)
    (hst : starEach (e :: es) X.env = (false, eval e X.env) :: starEach es X.env := by rfl) (hpl : (backTo pos (starEach es X.env)).any (·.1) = false := by rfl)
    (ht : eval (.Call (.Attribute o m apos) (e :: es) [] pos) X.env = (do
      let ow ← eval o X.env
      standAt apos.atName
      let (g, first) ← holding [ow] (getMethod ow m pl)
      callWith pos g first (backTo pos (starEach (e :: es) X.env)) (backToKw pos (keywordEach [] X.env))) := by rfl) :
    PE X (.Call (.Attribute o m apos) (e :: es) [] pos) (zMeth C m sp dvs E ta t) := by
  constructor
  intro pins s σ H Q I h
  refine PySem.W.methodCall_KW (pl := pl) (thn (he.run pins s σ H _ I h) ?_) ht
  rintro u s1 ⟨x, H1, I1, rx, a, dx, fs, rfl, ea, l, q⟩
  obtain rfl : u = Value.ref a := rx
  refine getmeth_ok I1 ea c hm l ?_
  refine PySem.W.callWith_K (first := [.ref a]) (h₀ := X.base) I.ok.mod.kin hm.kp (thn (ha.run pos pins s1 σ H1 _ I1 q) ?_) hst hpl
  rintro us s2 ⟨vs, H2, I2, r, q2⟩
  exact ⟨I2.kIn, run_fnZ (us := .ref a :: us) (vs := .ref a :: vs) F hr hgu hb hd (hx σ) I2 (.cons rfl r) q2⟩
theorem pe_methZ0 {pl : Sem Bool} (he : PE X o ta) (c : Cls X.K C) (hm : Meth X.K C m f) (F : FnG gd X.prog X.w X.K X.mg X.base k f fd ps sp)
    (hr : Room k X.A) (hgu : gd = true → X.A.guards = some []) (hb : Binds X.K fd ps ds) (hd : Vals dvs ds) (hx : ∀ σ, PassesAt (L2.CX X.prog X.w) X σ (E σ))
    (ht : eval (.Call (.Attribute o m apos) [] [] pos) X.env = (do
      let ow ← eval o X.env
      standAt apos.atName
      let (g, first) ← holding [ow] (getMethod ow m pl)
      callWith pos g first (backTo pos (starEach [] X.env)) (backToKw pos (keywordEach [] X.env))) := by rfl) :
    PE X (.Call (.Attribute o m apos) [] [] pos) (zMeth C m sp dvs E ta tNil) := by
  constructor
  intro pins s σ H Q I h
  refine PySem.W.methodCall_KW (pl := pl) (thn (he.run pins s σ H _ I h) ?_) ht
  rintro u s1 ⟨x, H1, I1, rx, a, dx, fs, rfl, ea, l, q⟩
  obtain rfl : u = Value.ref a := rx
  refine getmeth_ok I1 ea c hm l ?_
  exact PySem.W.callWith_K0 (first := [.ref a]) I1.kIn hm.kp (run_fnZ (us := [.ref a]) (vs := [.ref a]) F hr hgu hb hd (hx σ) I1 (.cons rfl .nil) q)

/-! ### an own exception over ValueError, its __init__ a def -/
/-- C(e, ..) that is raised -/
def zMkO (C : Addr) (sp : Sp) (ta : TA) : St → Hp → XK → Prop := fun σ H Q =>
  ta σ H fun vs H1 => vs.length ≤ 1000 ∧ ∀ a, H1 a = none → sp (.ref a :: vs) (upd H1 a (exo a C none))
    (fun v H2 => v = .non ∧ ∃ (d : Addr) (fs : List (Str × V)), H2 a = some (exo a C (some d)) ∧ H2 d = some (exd d fs) ∧ H1 d = none ∧ Q (.ref C) (some d) (upd (del H2 a) d (.xd fs))) E0
theorem pmk_Z {fI : Addr} (T : OexC X.K C) (iC : PySem.W.findIn X.K (.ref C) "__init__" = some (some (.ref fI))) (tI : PySem.W.typeIn X.K (.ref fI) = some (.type "function"))
    (F : FnG gd X.prog X.w X.K X.mg X.base k fI fd ps sp) (hr : Room (k + 1) X.A) (hgu : gd = true → X.A.guards = some []) (hb : Binds X.K fd ps []) (hg : Gl X x)
    (hm : X.mg x = some (.ref C)) (ha : PA X (e :: es) t) (hdb : (x == ("__debug__" : Str)) = false := by decide)
    (he : starEach (e :: es) X.env = (false, eval e X.env) :: starEach es X.env := by rfl) (hpl : (backTo pos (starEach es X.env)).any (·.1) = false := by rfl) :
    PMk X (.Call (.Name x p) (e :: es) [] pos) (zMkO C sp t) := by
  intro pins s σ H Q I h
  obtain ⟨nm, q, N, bs, bm, sn, sub, ab, col, dd, k0, k1, k2, k3, k5, hC, hbm⟩ := T.cls
  refine wpAny_Call_Name_kw (ld_glob I hg hm ?_ hdb)
  refine PySem.W.callWith_K (h₀ := X.base) I.ok.mod.kin T.kC (thn (ha.run pos pins s σ H _ I h) ?_) he hpl
  rintro us s1 ⟨vs, H1, I1, r1, hz, q1⟩
  refine ⟨I1.kIn, ?_⟩
  show wpAny _ _ (call (.ref C) us) _ _ _
  obtain ⟨hp, g, dr, tk, os⟩ := s1
  have hsz : hp.objs.size ≤ hp.objs.size + 1 := Nat.le_succ _
  have hq := q1 (hp.objs.size + 1) (I1.hok.fresh hsz)
  have kk : ∀ b o, hp.get? b = some o → ((hp.push (PySem.W.kdv_tup us)).push (PySem.HandSPX.excO C hp.objs.size)).get? b = some o :=
    fun b o z => Heap.get?_push_of_some _ (Heap.get?_push_of_some _ z)
  have hget : ((hp.push (PySem.W.kdv_tup us)).push (PySem.HandSPX.excO C hp.objs.size)).get? (hp.objs.size + 1) =
      some (PySem.HandSPX.excO C hp.objs.size) := by heap_get
  have I2 := I1.laid (t' := tk) (a := hp.objs.size + 1) (o := exo (hp.objs.size + 1) C none)
    (h' := (hp.push (PySem.W.kdv_tup us)).push (PySem.HandSPX.excO C hp.objs.size)) kk hsz (exo_ok hget)
  have r2 : Vals (V.ref (hp.objs.size + 1) :: vs) (Value.ref (hp.objs.size + 1) :: us) := .cons rfl r1
  have hl : (Value.ref (hp.objs.size + 1) :: us).length = ps.length := r2.length.symm.trans (F.len _ _ _ _ hq)
  have hus : us.length ≤ sizeLine := by
    rw [← Paired.length r1, sizeLine_eq]
    omega
  have bb := hb ⟨(hp.push (PySem.W.kdv_tup us)).push (PySem.HandSPX.excO C hp.objs.size), g, dr, tk, os⟩ (Value.ref (hp.objs.size + 1) :: us) I2.kIn (by rw [List.append_nil]; exact hl)
  rw [List.append_nil] at bb
  refine wpAny_call (PySem.HandSPX.call_own PySem.F.excBase_ValueError (fun Y => PySem.HandSPX.refsVE_contains Y bm hbm) (I1.kIn _ _ hC)
    (PySem.W.looks_findIn I1.kIn iC) (fun self => PySem.W.bind_fn I1.kIn self tI) hus
    (codeAny_mono (F.run _ X.stack _ _ ⟨Value.ref (hp.objs.size + 1) :: us, []⟩ _ _ _ E0 (hr.make C us []) (fun z => guards_make (hgu z)) (I2.env0.make C us []) bb r2 hq) fun r s' hq' => ?_))
  rcases r with er | fl
  · exact (show False by
      obtain ⟨_, _, _, _, _, _, _, _, _, _, _, _, z⟩ := hq'
      exact z).elim
  · cases fl with
    | ret u =>
      obtain ⟨v, H2, os2, bare2, un2, hok2, rv, ev, d, fs, ea, ed, hd1, q2⟩ := hq'
      subst ev
      obtain ⟨h2, g2, d2, t2, os'⟩ := s'
      exact ⟨rv, mk_end (raises_own T.exC T.tyC) I1 hsz kk un2 hok2 os2 bare2 ea ed hd1 q2⟩
    | next => exact hq'.elim
    | brk => exact hq'.elim
    | cont => exact hq'.elim
end
end Z
namespace Z
open PySem PySem.Spec PyProof.Rows L2

/-! ### isinstance by a built-in class -/
def knC (c : String) : Bool := c == "int" || c == "str" || c == "bool" || c == "list" || c == "tuple" || c == "dict"
/-- the kind of an object -/
def TyR (K : PySem.W.Frag) (H : Hp) (a : Addr) (t : String) : Prop :=
  (t = "list" ∧ ∃ xs, SqL K H a xs) ∨ (t = "tuple" ∧ ∃ xs, SqT K H a xs) ∨ (t = "dict" ∧ ((∃ kvs, H a = some (.dK kvs)) ∨ ∃ kvs, H a = some (.dT kvs)))
def zIsi (K : PySem.W.Frag) : List V → Hp → VK → Prop := fun xs H Q => match xs with
  | [.non, .ty c] => knC c = true ∧ Q (.bl false) H
  | [.bl _, .ty c] => knC c = true ∧ Q (.bl (c == "bool" || c == "int")) H
  | [.int _, .ty c] => knC c = true ∧ Q (.bl (c == "int")) H
  | [.str _, .ty c] => knC c = true ∧ Q (.bl (c == "str")) H
  | [.ref a, .ty c] => knC c = true ∧ ∃ t, TyR K H a t ∧ Q (.bl (c == t)) H
  | _ => False
theorem knC_cases {c : String} (h : knC c = true) : c = "int" ∨ c = "str" ∨ c = "bool" ∨ c = "list" ∨ c = "tuple" ∨ c = "dict" := by
  simpa [knC, or_assoc] using h
theorem TyR.ty {K : PySem.W.Frag} {H : Hp} {a : Addr} {t : String} (h : TyR K H a t) : TyX K H (.ref a) (.type t) ∧ (t = "list" ∨ t = "tuple" ∨ t = "dict") := by
  rcases h with ⟨rfl, xs, (h | ⟨o, h⟩) | ⟨o, its, n, h, h2, _⟩⟩ | ⟨rfl, xs, (h | ⟨o, h⟩) | ⟨o, its, n, h, h2, _⟩⟩ | ⟨rfl, ⟨kvs, h⟩ | ⟨kvs, h⟩⟩
  · exact ⟨.base (.lst h), .inl rfl⟩
  · exact ⟨.base (.frz h), .inl rfl⟩
  · exact ⟨.kList h h2, .inl rfl⟩
  · exact ⟨.base (.tup h), .inr (.inl rfl)⟩
  · exact ⟨.fTuple h, .inr (.inl rfl)⟩
  · exact ⟨.kTuple h h2, .inr (.inl rfl)⟩
  · exact ⟨.base (.dK h), .inr (.inr rfl)⟩
  · exact ⟨.base (.dT h), .inr (.inr rfl)⟩
theorem kit_tab (t c : String) (ht : t = "NoneType" ∨ t = "bool" ∨ t = "int" ∨ t = "str" ∨ t = "list" ∨ t = "tuple" ∨ t = "dict") (hc : knC c = true) :
    kitB t c = some (c == t || (c == "int" && t == "bool")) := by
  rcases ht with rfl | rfl | rfl | rfl | rfl | rfl | rfl <;> rcases knC_cases hc with rfl | rfl | rfl | rfl | rfl | rfl <;> decide +kernel
section
variable {X : Cx}
theorem call_isiZ : CallR X (.builtin "isinstance") (zIsi X.K) := by
  intro pins s σ H xs us Q I r h
  have go : ∀ (x : V) (c t : String), xs = [x, .ty c] → knC c = true → TyX X.K H x (.type t) →
      (t = "NoneType" ∨ t = "bool" ∨ t = "int" ∨ t = "str" ∨ t = "list" ∨ t = "tuple" ∨ t = "dict") →
      Q (.bl (c == t || (c == "int" && t == "bool"))) H → wpAny (model X.prog X.w) X.A (PySem.call (.builtin "isinstance") us) (EP X pins σ Q) X.xe s :=
    fun x c t e hc ty ht q => call_isi pins s σ H xs us Q I r ⟨x, .ty c, .type t, .type c, _, e, .ty c, ty, kit_ty (kit_tab t c ht hc), q⟩
  unfold zIsi at h
  split at h
  · rename_i c
    refine go _ c "NoneType" rfl h.1 (.base .non) (by simp) ?_
    have e : (c == "NoneType" || (c == "int" && "NoneType" == "bool")) = false := by rcases knC_cases h.1 with rfl | rfl | rfl | rfl | rfl | rfl <;> decide
    rw [e]; exact h.2
  · rename_i b c
    refine go _ c "bool" rfl h.1 (.base (.bl b)) (by simp) ?_
    have e : (c == "bool" || (c == "int" && "bool" == "bool")) = (c == "bool" || c == "int") := by rcases knC_cases h.1 with rfl | rfl | rfl | rfl | rfl | rfl <;> decide
    rw [e]; exact h.2
  · rename_i i c
    refine go _ c "int" rfl h.1 (.base (.int i)) (by simp) ?_
    have e : (c == "int" || (c == "int" && "int" == "bool")) = (c == "int") := by rcases knC_cases h.1 with rfl | rfl | rfl | rfl | rfl | rfl <;> decide
    rw [e]; exact h.2
  · rename_i z c
    refine go _ c "str" rfl h.1 (.base (.str z)) (by simp) ?_
    have e : (c == "str" || (c == "int" && "str" == "bool")) = (c == "str") := by rcases knC_cases h.1 with rfl | rfl | rfl | rfl | rfl | rfl <;> decide
    rw [e]; exact h.2
  · rename_i a c
    obtain ⟨hc, t, ty, q⟩ := h
    obtain ⟨ty, ht⟩ := ty.ty
    refine go _ c t rfl hc ty (by rcases ht with rfl | rfl | rfl <;> simp) ?_
    have e : (c == t || (c == "int" && t == "bool")) = (c == t) := by
      rcases ht with rfl | rfl | rfl <;> rcases knC_cases hc with rfl | rfl | rfl | rfl | rfl | rfl <;> decide
    rw [e]; exact q
  · exact h.elim
end

/-! ### repr of data -/
/-- a flat thing as data -/
def flatD : V → Option PyData
  | .non => some .none | .bl b => some (.bool b) | .int i => some (.int i) | .str x => some (.str x) | _ => none
theorem flatD_reads {h : Heap} {v : V} {u : Value} {d : PyData} (e : flatD v = some d) (r : RelV v u) : Reads h u d [] := by
  cases v <;> simp [flatD] at e <;> subst e
  · cases r; exact .none
  · cases r; exact .bool _
  · obtain ⟨t, rfl⟩ := r; exact .int _ _
  · obtain ⟨t, rfl⟩ := r; exact .str _ _
def keyD : Key → PyData
  | .inl i => .int i
  | .inr x => .str x
/-- data without dicts, or a dict of flat things -/
def DpR (K : PySem.W.Frag) (H : Hp) (x : V) (d : PyData) : Prop :=
  (Dp K H x d ∧ d.hasDict = false) ∨ ∃ a kvs kds, x = .ref a ∧ H a = some (.dK kvs) ∧ d = .dict kds ∧
    Paired (fun (p : Key × V) (q : PyData × PyData) => keyD p.1 = q.1 ∧ flatD p.2 = some q.2) kvs kds
theorem dict_reads {P : Program} {w : World} {h : Heap} {es : List DictEntry} {vs : List (Key × Value)} (hp : Pairs (mixKind P w) es vs) :
    ∀ {kvs : List (Key × V)} {kds : List (PyData × PyData)}, KV kvs vs → Paired (fun (p : Key × V) (q : PyData × PyData) => keyD p.1 = q.1 ∧ flatD p.2 = some q.2) kvs kds →
      ReadsAll h (es.map (·.key)) (kds.map (·.1)) [] ∧ ReadsAll h (es.map (·.val)) (kds.map (·.2)) [] := by
  induction hp with
  | nil =>
    intro kvs kds r q
    cases r
    cases q
    exact ⟨.nil, .nil⟩
  | cons h1 hv _ ih =>
    intro kvs kds r q
    cases r with
    | cons r1 r2 =>
      cases q with
      | cons q1 q2 =>
        obtain ⟨i1, i2⟩ := ih r2 q2
        obtain ⟨e1, rv⟩ := r1
        obtain ⟨e2, e3⟩ := q1
        rename_i en kv es' kvs' hpp p ps q qs
        have k1 : Reads h en.key q.1 [] := by
          rw [← e2, e1]
          rcases keyIs_shape h1 with ⟨i, t, ek, ev⟩ | ⟨x, t, ek, ev⟩
          · rw [ek, ev]
            exact .int _ _
          · rw [ek, ev]
            exact .str _ _
        have k2 : Reads h en.val q.2 [] := by
          rw [hv]
          exact flatD_reads e3 rv
        exact ⟨ReadsAll.cons (as := []) (bs := []) k1 i1, ReadsAll.cons (as := []) (bs := []) k2 i2⟩
section
variable {X : Cx} {pins : List (Addr × Obj)} {σ : St} {H : Hp} {s : Shared}
theorem DpR.reads (I : Inv X pins σ H s) {d : PyData} {v : V} {u : Value} (h : DpR X.K H v d) (r : RelV v u) : ∃ as, Reads s.heap u d as ∧ (d.hasDict = true → sysModules ∉ as) := by
  rcases h with ⟨h, hd⟩ | ⟨a, kvs, kds, rfl, ha, rfl, hp⟩
  · obtain ⟨as, q⟩ := Dp.reads I d v u h r
    exact ⟨as, q, fun z => by rw [hd] at z; exact absurd z Bool.false_ne_true⟩
  · cases r
    obtain ⟨_, hy, vs, rv, o, es, ep, e1, e2, e3, _, e5, _⟩ := (show ObjOk X.prog X.w H s.heap a (.dK kvs) from I.hok a _ ha)
    obtain ⟨r1, r2⟩ := dict_reads (h := s.heap) e5 rv hp
    refine ⟨_, Reads.dict e1 e2.1 e3 r1 r2, fun _ z => ?_⟩
    have z' : sysModules = a := by simpa using z
    rw [z'] at hy
    simp at hy
def zRepr (K : PySem.W.Frag) : List V → Hp → VK → Prop := fun xs H Q => ∃ x d, xs = [x] ∧ DpR K H x d ∧ d.showable = true ∧ d.depth ≤ 32 ∧ d.shown.length ≤ sizeLine ∧ Q (.str d.shown) H
theorem call_reprZ (hg : X.A.guards = some []) (hu : X.A.units + 64 < cLine) : CallR X (.builtin "repr") (zRepr X.K) := by
  intro pins s σ H xs us Q I r h
  obtain ⟨x, d, rfl, hd, hs, hdp, hz, q⟩ := h
  obtain ⟨u, rfl, ru⟩ := vals1 r
  obtain ⟨as, hr, hsm⟩ := hd.reads I ru
  cases hr with
  | none => exact PySem.P.repr_of_none ⟨.str _, H, I.tok _, ⟨_, rfl⟩, q⟩
  | bool b => exact PySem.P.repr_of_bool ⟨.str _, H, I.tok _, ⟨_, rfl⟩, q⟩
  | int i t => exact PySem.P.repr_of_int (by simpa [PyData.showable] using hs) ⟨.str _, H, I.tok _, ⟨_, rfl⟩, q⟩
  | str y t => exact PySem.P.repr_of_str ⟨.str _, H, I.tok _, ⟨_, rfl⟩, q⟩ (by simpa only [PyData.shown] using hz)
  | list h1 h2 h3 h4 =>
    exact PySem.repr_of_reads' (.list h1 h2 h3 h4) hs hsm hg (by omega) (fun _ _ z => z) (fun h' u tk hk => ⟨.str _, H, I.kept (t' := tk) hk, ⟨_, rfl⟩, q⟩) hz
  | tuple h1 h2 h3 h4 =>
    exact PySem.repr_of_reads' (.tuple h1 h2 h3 h4) hs hsm hg (by omega) (fun _ _ z => z) (fun h' u tk hk => ⟨.str _, H, I.kept (t' := tk) hk, ⟨_, rfl⟩, q⟩) hz
  | dict h1 h2 h3 h4 h5 =>
    exact PySem.repr_of_reads' (.dict h1 h2 h3 h4 h5) hs hsm hg (by omega) (fun _ _ z => z) (fun h' u tk hk => ⟨.str _, H, I.kept (t' := tk) hk, ⟨_, rfl⟩, q⟩) hz
end
end Z
namespace Z
open PySem PySem.Spec PyProof.Rows L2

/-! ### readings that reckon by themselves -/
theorem PE.to {X : Cx} {e : Expr} {t t' : TE} (h : PE X e t) (k : ∀ σ H Q, t' σ H Q → t σ H Q) : PE X e t' := ⟨fun pins s σ H Q I q => h.run pins s σ H Q I (k σ H Q q)⟩
theorem PT.to {X : Cx} {e : Expr} {t t' : TT} (h : PT X e t) (k : ∀ σ H Q, t' σ H Q → t σ H Q) : PT X e t' := ⟨fun pins s σ H Q I q => h.run pins s σ H Q I (k σ H Q q)⟩
theorem PS.to {X : Cx} {e : Stmt} {t t' : TS} (h : PS X e t) (k : ∀ D σ H, t' D σ H → t D σ H) : PS X e t' := ⟨fun pins s σ H D I q => h.run pins s σ H D I (k D σ H q)⟩
theorem CallR.to {X : Cx} {f : Value} {r r' : List V → Hp → VK → Prop} (h : CallR X f r) (k : ∀ xs H Q, r' xs H Q → r xs H Q) : CallR X f r' :=
  fun pins s σ H xs us Q I rv q => h pins s σ H xs us Q I rv (k xs H Q q)
def zVar (i : Nat) : TE := fun σ H Q => match σ[i]? with
  | some (some v) => Q v H
  | _ => False
def zTest (t : TE) : TT := fun σ H Q => t σ H fun x H' => match x with
  | .bl k => Q k H'
  | _ => False
def zTru (K : PySem.W.Frag) (t : TE) : TT := fun σ H Q => t σ H fun x H' => match x with
  | .non => Q false H'
  | .bl k => Q k H'
  | .int i => Q (i != 0) H'
  | x => ∃ k, TruV K x H' k ∧ Q k H'
def zAndV (ta tb : TE) : TE := fun σ H Q => ta σ H fun x H1 => match x with
  | .bl c => if c = true then tb σ H1 Q else Q (.bl false) H1
  | _ => False
def zOrV (ta tb : TE) : TE := fun σ H Q => ta σ H fun x H1 => match x with
  | .bl c => if c = true then Q (.bl true) H1 else tb σ H1 Q
  | _ => False
def zNotV (ta : TE) : TE := fun σ H Q => ta σ H fun x H1 => match x with
  | .bl c => Q (.bl (!c)) H1
  | _ => False
def zChain (r r' : R2) (ta tb tc : TE) : TE := fun σ H Q => ta σ H fun x H1 => tb σ H1 fun y H2 => r x y H2 fun z H3 => match z with
  | .bl k => if k = true then tc σ H3 fun w' H4 => r' y w' H4 Q else Q (.bl false) H3
  | _ => False
def zNeg (ta : TE) : TE := fun σ H Q => ta σ H fun x H1 => match x with
  | .int i => Q (.int (-i)) H1
  | _ => False
def zLen (K : PySem.W.Frag) : List V → Hp → VK → Prop := fun xs H Q => match xs with
  | [.str z] => z.length ≤ sizeLine ∧ Q (.int z.length) H
  | [.ref p] => ∃ ys, (SqL K H p ys ∨ SqT K H p ys) ∧ Q (.int ys.length) H
  | _ => False
def rAbs : List V → Hp → VK → Prop := fun xs H Q => match xs with
  | [.int i] => Q (.int (if i < 0 then -i else i)) H
  | _ => False
def rMx2 : List V → Hp → VK → Prop := fun xs H Q => match xs with
  | [.int i, .int j] => Q (.int (if j > i then j else i)) H
  | _ => False
def rMn2 : List V → Hp → VK → Prop := fun xs H Q => match xs with
  | [.int i, .int j] => Q (.int (if j < i then j else i)) H
  | _ => False
def rInt1 : List V → Hp → VK → Prop := fun xs H Q => match xs with
  | [.int i] => Q (.int i) H
  | [.bl k] => Q (.int (if k then 1 else 0)) H
  | _ => False
def rListOf (K : PySem.W.Frag) : List V → Hp → VK → Prop := fun xs H Q => match xs with
  | [.ref p] => ∃ ys, (SqL K H p ys ∨ SqT K H p ys) ∧ ∀ l, H l = none → Q (.ref l) (upd H l (.lst ys))
  | _ => False
def zRaise (W : WX) (C : Addr) (sp : Sp) (ta : TA) : TS := fun _ σ H => zMkO C sp ta σ H fun cls d H' => W cls d σ H'

/-! ### isinstance by a built-in class, the class known -/
inductive Kd where
  | int | str | bool | list | tuple | dict
  deriving DecidableEq
def Kd.nm : Kd → String
  | .int => "int" | .str => "str" | .bool => "bool" | .list => "list" | .tuple => "tuple" | .dict => "dict"
def Kd.isB : Kd → Bool
  | .bool => true | .int => true | _ => false
def Kd.isI : Kd → Bool
  | .int => true | _ => false
def Kd.isS : Kd → Bool
  | .str => true | _ => false
def KndR (K : PySem.W.Frag) (H : Hp) (a : Addr) : Kd → Prop
  | .list => ∃ xs, SqL K H a xs
  | .tuple => ∃ xs, SqT K H a xs
  | .dict => (∃ kvs, H a = some (.dK kvs)) ∨ ∃ kvs, H a = some (.dT kvs)
  | _ => False
def zIsiV (K : PySem.W.Frag) (k : Kd) (x : V) (H : Hp) (Q : VK) : Prop := match x with
  | .non => Q (.bl false) H
  | .bl _ => Q (.bl k.isB) H
  | .int _ => Q (.bl k.isI) H
  | .str _ => Q (.bl k.isS) H
  | .ref a => ∃ t, KndR K H a t ∧ Q (.bl (decide (t = k))) H
  | _ => False
def zIsiT (K : PySem.W.Frag) (k : Kd) (te : TE) : TE := fun σ H Q => te σ H fun x H1 => zIsiV K k x H1 Q
theorem KndR.ty {K : PySem.W.Frag} {H : Hp} {a : Addr} {t : Kd} (h : KndR K H a t) : TyR K H a t.nm := by
  cases t <;> first | exact h.elim | exact .inl ⟨rfl, h⟩ | exact .inr (.inl ⟨rfl, h⟩) | exact .inr (.inr ⟨rfl, h⟩)
theorem nm_kn (k : Kd) : knC k.nm = true := by cases k <;> decide +kernel
theorem nm_eq (k t : Kd) : (k.nm == t.nm) = decide (t = k) := by cases k <;> cases t <;> decide +kernel
theorem zIsiV_to {K : PySem.W.Frag} {k : Kd} {x : V} {H : Hp} {Q : VK} (h : zIsiV K k x H Q) : zIsi K [x, .ty k.nm] H Q := by
  cases x with
  | non => exact ⟨nm_kn k, h⟩
  | bl b =>
    refine ⟨nm_kn k, ?_⟩
    have e : (k.nm == "bool" || k.nm == "int") = k.isB := by cases k <;> decide +kernel
    rw [e]
    exact h
  | int i =>
    refine ⟨nm_kn k, ?_⟩
    have e : (k.nm == "int") = k.isI := by cases k <;> decide +kernel
    rw [e]
    exact h
  | str z =>
    refine ⟨nm_kn k, ?_⟩
    have e : (k.nm == "str") = k.isS := by cases k <;> decide +kernel
    rw [e]
    exact h
  | ref a =>
    obtain ⟨t, ht, q⟩ := h
    refine ⟨nm_kn k, t.nm, ht.ty, ?_⟩
    rw [nm_eq]
    exact q
  | byt _ => exact h.elim
  | flt _ => exact h.elim
  | ty _ => exact h.elim
section
variable {X : Cx} {x y : Str} {pos p p1 p2 : Pos} {e a b c : Expr} {rest : List Expr} {te ta tb tc : TE}
theorem zv (i : Nat) (hN : X.N[i]? = some x := by rfl) (hv : Vis X.env.scope x := by first | exact Or.inl rfl | exact Or.inr (Or.inl rfl) | exact Or.inr (Or.inr rfl))
    (hd : (x == ("__debug__" : Str)) = false := by decide) (hcd : (x == ("__classdict__" : Str)) = false := by decide) : PE X (.Name x pos) (zVar i) :=
  PE.to (pe_var hN hv hd hcd) fun σ H Q h => by
    unfold zVar at h
    split at h
    · rename_i v e
      exact ⟨v, e, h⟩
    · exact h.elim
theorem bl_eq {x : V} {R : Bool → Prop} : (match x with | .bl k => R k | _ => False) = ∃ k, x = .bl k ∧ R k := by
  apply propext
  constructor
  · intro h
    split at h
    · exact ⟨_, rfl, h⟩
    · exact h.elim
  · rintro ⟨k, rfl, h⟩
    exact h
theorem zTest_eq (t : TE) : zTest t = tTest t := by
  funext σ H Q
  exact congrArg (t σ H) (funext fun x => funext fun H' => bl_eq)
theorem zAndV_eq : zAndV ta tb = tAndV ta tb := by
  funext σ H Q
  exact congrArg (ta σ H) (funext fun x => funext fun H' => bl_eq)
theorem zOrV_eq : zOrV ta tb = tOrV ta tb := by
  funext σ H Q
  exact congrArg (ta σ H) (funext fun x => funext fun H' => bl_eq)
theorem zNotV_eq : zNotV ta = tNotV ta := by
  funext σ H Q
  exact congrArg (ta σ H) (funext fun x => funext fun H' => bl_eq)
theorem zChain_eq {r r' : R2} : zChain r r' ta tb tc = tChain r r' ta tb tc := by
  funext σ H Q
  refine congrArg (ta σ H) (funext fun x => funext fun H1 => congrArg (tb σ H1) (funext fun y => funext fun H2 => congrArg (r x y H2) (funext fun z => funext fun H3 => ?_)))
  exact bl_eq
theorem zTru_eq {K : PySem.W.Frag} : zTru K te = fun σ H Q => te σ H fun x H' => ∃ k, TruV K x H' k ∧ Q k H' := by
  funext σ H Q
  refine congrArg (te σ H) (funext fun x => funext fun H' => propext ?_)
  cases x with
  | non => exact ⟨fun h => ⟨_, rfl, h⟩, fun ⟨k, e, h⟩ => by cases e; exact h⟩
  | bl b => exact ⟨fun h => ⟨_, rfl, h⟩, fun ⟨k, e, h⟩ => by cases e; exact h⟩
  | int i => exact ⟨fun h => ⟨_, rfl, h⟩, fun ⟨k, e, h⟩ => by cases e; exact h⟩
  | str _ => exact Iff.rfl
  | byt _ => exact Iff.rfl
  | flt _ => exact Iff.rfl
  | ref _ => exact Iff.rfl
  | ty _ => exact Iff.rfl
theorem ptz_cmp {op : CmpOp} {r : R2} (ho : OpR X (compareOp op) r) (ha : PE X a ta) (hb : PE X b tb) (hm : behindInMarks op b = false) : PT X (.Compare a [op] [b] pos) (zTest (tOp r ta tb)) := by
  rw [zTest_eq]
  exact pt_cmpR ho ha hb hm
theorem pez_chain {op op' : CmpOp} {r r' : R2} (ho : OpR X (compareOp op) r) (ho' : OpR X (compareOp op') r') (ha : PE X a ta) (hb : PE X b tb) (hc : PE X c tc)
    (hm : lastMarks [op, op'] [b, c] = false := by with_unfolding_all rfl) : PE X (.Compare a [op, op'] [b, c] pos) (zChain r r' ta tb tc) := by
  rw [zChain_eq]
  exact pe_chain ho ho' ha hb hc hm
theorem ptz_chain {op op' : CmpOp} {r r' : R2} (ho : OpR X (compareOp op) r) (ho' : OpR X (compareOp op') r') (ha : PE X a ta) (hb : PE X b tb) (hc : PE X c tc)
    (hm : lastMarks [op, op'] [b, c] = false := by with_unfolding_all rfl) : PT X (.Compare a [op, op'] [b, c] pos) (zTest (zChain r r' ta tb tc)) := by
  rw [zTest_eq, zChain_eq]
  exact pt_chain ho ho' ha hb hc hm
theorem ptz_truth (ha : PE X a ta) (he : ∀ whole, isTrue a X.env whole = (do let v ← whole; standAt a.pos; holding [v] (truthy v))) : PT X a (zTru X.K ta) := by
  rw [zTru_eq]
  exact pt_truth ha he
theorem pez_and (ha : PE X a ta) (hb : PE X (.BoolOp .And (b :: rest) pos) tb) : PE X (.BoolOp .And (a :: b :: rest) pos) (zAndV ta tb) := by
  rw [zAndV_eq]
  exact pe_and ha hb
theorem pez_or (ha : PE X a ta) (hb : PE X (.BoolOp .Or (b :: rest) pos) tb) : PE X (.BoolOp .Or (a :: b :: rest) pos) (zOrV ta tb) := by
  rw [zOrV_eq]
  exact pe_or ha hb
theorem pez_not (ha : PE X a ta) : PE X (.UnaryOp .Not a pos) (zNotV ta) := by
  rw [zNotV_eq]
  exact pe_not ha
theorem pez_neg (ha : PE X a ta) : PE X (.UnaryOp .USub a pos) (zNeg ta) := by
  have e : zNeg ta = tUn (rU fun i => .int (-i)) ta := by
    funext σ H Q
    refine congrArg (ta σ H) (funext fun x => funext fun H1 => propext ⟨fun h => ?_, fun ⟨i, ei, h⟩ => by cases ei; exact h⟩)
    cases x with
    | int i => exact ⟨i, rfl, h⟩
    | _ => exact h.elim
  rw [e]
  exact pe_un un_neg ha
theorem pe_isi {kd : Kd} {fx cx : Str} (he : PE X e te) (hg : Gl X fx) (hm : X.mg fx = none) (hv : bootBuiltins fx = some (.builtin "isinstance"))
    (hc : Gl X cx) (hcm : X.mg cx = none) (hcv : bootBuiltins cx = some (.type kd.nm)) (h1 : fx ≠ "__name__" := by decide) (h2 : (fx == ("__debug__" : Str)) = false := by decide)
    (h3 : cx ≠ "__name__" := by decide) (h4 : (cx == ("__debug__" : Str)) = false := by decide)
    (h5 : starEach [e, .Name cx p2] X.env = (false, eval e X.env) :: starEach [.Name cx p2] X.env := by rfl) (h6 : (backTo pos (starEach [.Name cx p2] X.env)).any (·.1) = false := by rfl)
    (h7 : starEach [.Name cx p2] X.env = (false, eval (.Name cx p2) X.env) :: starEach [] X.env := by rfl) :
    PE X (.Call (.Name fx p1) [e, .Name cx p2] [] pos) (zIsiT X.K kd te) :=
  PE.to (pe_callB call_isiZ hg hm hv (pa_cons he (pa_cons (pe_bltn (v := .ty kd.nm) hc hcm hcv rfl h3 h4) pa_nil h7) h5) h1 h2 h5 h6) fun σ H Q h => by
    have e1 : (fun x H1 => zIsiV X.K kd x H1 Q) = fun x H1 => zIsi X.K [x, .ty kd.nm] H1 Q := by
      funext x H1
      refine propext ⟨zIsiV_to, fun h => ?_⟩
      cases x with
      | non => exact h.2
      | bl b =>
        have e : (kd.nm == "bool" || kd.nm == "int") = kd.isB := by cases kd <;> decide +kernel
        have q := h.2
        rw [e] at q
        exact q
      | int i =>
        have e : (kd.nm == "int") = kd.isI := by cases kd <;> decide +kernel
        have q := h.2
        rw [e] at q
        exact q
      | str i =>
        have e : (kd.nm == "str") = kd.isS := by cases kd <;> decide +kernel
        have q := h.2
        rw [e] at q
        exact q
      | ref i =>
        obtain ⟨_, t, ty, q⟩ := h
        rcases ty with ⟨rfl, z⟩ | ⟨rfl, z⟩ | ⟨rfl, z⟩
        · refine ⟨.list, z, ?_⟩
          rw [← nm_eq]
          exact q
        · refine ⟨.tuple, z, ?_⟩
          rw [← nm_eq]
          exact q
        · refine ⟨.dict, z, ?_⟩
          rw [← nm_eq]
          exact q
      | byt _ => exact h.elim
      | flt _ => exact h.elim
      | ty _ => exact h.elim
    show te σ H fun x H1 => zIsi X.K [x, .ty kd.nm] H1 Q
    rw [← e1]
    exact h
theorem pe_cint {i : Int} (hg : Gl X x) (h : ∃ t, X.mg x = some (.int i t)) (hd : (x == ("__debug__" : Str)) = false := by decide) : PE X (.Name x pos) (tC (.int i)) := by
  obtain ⟨t, h⟩ := h
  exact pe_glob hg h ⟨t, rfl⟩ hd
theorem pe_cstr {z : Str} (hg : Gl X x) (h : ∃ t, X.mg x = some (.str z t)) (hd : (x == ("__debug__" : Str)) = false := by decide) : PE X (.Name x pos) (tC (.str z)) := by
  obtain ⟨t, h⟩ := h
  exact pe_glob hg h ⟨t, rfl⟩ hd
theorem call_lenZ : CallR X (.builtin "len") (zLen X.K) := by
  intro pins s σ H xs us Q I r h
  unfold zLen at h
  split at h
  · exact call_len_str pins s σ H _ us Q I r ⟨_, rfl, h.1, h.2⟩
  · obtain ⟨ys, hq, q⟩ := h
    exact call_len_seq pins s σ H _ us Q I r ⟨_, ys, rfl, hq, q⟩
  · exact h.elim
theorem call_absZ : CallR X (.builtin "abs") rAbs := by
  intro pins s σ H xs us Q I r h
  unfold rAbs at h
  split at h
  · exact call_abs pins s σ H _ us Q I r ⟨_, rfl, h⟩
  · exact h.elim
theorem call_mx2 (hc : X.calm = true) : CallR X (.builtin "max") rMx2 := by
  intro pins s σ H xs us Q I r h
  unfold rMx2 at h
  split at h
  · exact call_max2 hc pins s σ H _ us Q I r ⟨_, _, rfl, h⟩
  · exact h.elim
theorem call_mn2 (hc : X.calm = true) : CallR X (.builtin "min") rMn2 := by
  intro pins s σ H xs us Q I r h
  unfold rMn2 at h
  split at h
  · exact call_min2 hc pins s σ H _ us Q I r ⟨_, _, rfl, h⟩
  · exact h.elim
theorem call_intZ : CallR X (.type "int") rInt1 := by
  intro pins s σ H xs us Q I r h
  unfold rInt1 at h
  split at h
  · exact call_int1 pins s σ H _ us Q I r (.inl ⟨_, rfl, h⟩)
  · exact call_int1 pins s σ H _ us Q I r (.inr ⟨_, rfl, h⟩)
  · exact h.elim
theorem call_listZ : CallR X (.type "list") (rListOf X.K) := by
  intro pins s σ H xs us Q I r h
  unfold rListOf at h
  split at h
  · obtain ⟨ys, hq, q⟩ := h
    exact call_list_of pins s σ H _ us Q I r ⟨_, ys, rfl, hq, q⟩
  · exact h.elim
end
end Z
namespace Z
open PySem PySem.Spec PyProof.Rows L2

/-! ### heaps -/
theorem Same.put {H : Hp} {p : Addr} {o : HO} (n : H p = none) : Same H (upd H p o) := fun b u e => by
  rw [upd_ne (ne_of_none e n)]
  exact e
/-- all stands but what is at p -/
def But (p : Addr) (H H' : Hp) : Prop := ∀ b o, H b = some o → b ≠ p → H' b = some o
theorem But.refl (p : Addr) (H : Hp) : But p H H := fun _ _ e _ => e
theorem But.same {p : Addr} {H H' : Hp} (s : Same H H') : But p H H' := fun b o e _ => s b o e
theorem But.trans {p : Addr} {H H1 H2 : Hp} (a : But p H H1) (b : But p H1 H2) : But p H H2 := fun c o e n => b c o (a c o e n) n
theorem But.put {p : Addr} {H : Hp} {o : HO} : But p H (upd H p o) := fun b u e n => by
  rw [upd_ne n]
  exact e
/-- behind a change of p alone, p being new since H0 -/
theorem But.old {p : Addr} {H0 H H' : Hp} (b : But p H H') (s : Same H0 H) (n : H0 p = none) : Same H0 H' := fun c o e => b c o (s c o e) (ne_of_none e n)

/-! ### tests -/
theorem zite {b : Bool} {A B : Prop} (h1 : b = true → A) (h2 : b = false → B) : if b = true then A else B := by
  cases b
  · exact h2 rfl
  · exact h1 rfl

/-! ### loops and comprehensions, what is walked once reckoned -/
def forGo (J : It) (g : TG) (tb : TS) (D : Ends) (σ : St) (H1 : Hp) : Prop := ∃ W : Nat → Nat → St → Hp → Prop, (∃ m, W 0 m σ H1) ∧ ∀ i m σ H, W i m σ H →
  (J.stop i H ∧ D.nx σ H) ∨ (J.go i H ∧ ∃ N : St → Hp → Prop, (∀ σ' H', N σ' H' → ∃ m', m' < m ∧ W (i + 1) m' σ' H') ∧
    ∀ x H', J.yld i H x H' → g x σ H' fun σ2 H2 => tb { D with nx := N, ct := N, bk := D.nx } σ2 H2)
def zFor (wi : TI) (g : TG) (tb : TS) : TS := fun D σ H => wi σ H fun J H1 => forGo J g tb D σ H1
def lcGo (J : It) (g : TG) (tt : TT) (te : TE) (vs : List Nat) (σ : St) (H1 : Hp) (Q : VK) : Prop := ∀ D, H1 D = none →
  ∃ W : Nat → Nat → Hp → Prop, (∃ m, W 0 m (upd H1 D (.lst []))) ∧ ∀ i m H, W i m H →
    (J.stop i H ∧ Q (.ref D) H) ∨ (J.go i H ∧ ∃ Nx : Hp → Prop, (∀ H', Nx H' → ∃ m', m' < m ∧ W (i + 1) m' H') ∧
      ∀ x H', J.yld i H x H' → g x (wipe σ vs) H' fun σ2 H2 => wipe σ2 vs = wipe σ vs ∧ tt σ2 H2 fun b H3 =>
        if b = true then te σ2 H3 fun y H4 => ∃ acc, H4 D = some (.lst acc) ∧ acc.length < sizeLine ∧ Nx (upd H4 D (.lst (acc ++ [y]))) else Nx H3)
def zLc (wi : TI) (g : TG) (tt : TT) (te : TE) (vs : List Nat) : TE := fun σ H Q => wi σ H fun J H1 => lcGo J g tt te vs σ H1 Q
section
variable {X : Cx}
theorem psz_for {tg iter : Expr} {body : List Stmt} {wi : TI} {g : TG} {tb : TS} {pos : Pos} (hp : PassesOwn (model X.prog X.w) X.A X.env X.xe) (hc : X.calm = true) (hi : PI X tg iter wi) (hg : PG X tg g)
    (hb : PSs X body tb) (hs : ∀ x, foldedSetIterable iter X.env x = pure x := by intro _; rfl) : PS X (.For tg iter body [] pos) (zFor wi g tb) :=
  ps_for hp hc hi hg hb hs
theorem pez_lc {elt tg iter : Expr} {ifs : List Expr} {scope : Scope} {own : List (Str × Nat)} {pos : Pos} {wi : TI} {g : TG} {tt : TT} {te : TE} (hc : X.calm = true) (hN : X.N.Nodup) (hi : PI X tg iter wi)
    (ok : BlkOk X.N X.env.scope scope own)
    (hg : ∀ (s : Shared) (H : Hp) (C : Addr) (cl : List (Str × Addr)) (fp : List Addr), PG (X.blk s H scope (compEnvC scope cl C X.env) fp) tg g)
    (ht : ∀ (s : Shared) (H : Hp) (C : Addr) (cl : List (Str × Addr)) (fp : List Addr), PTs (X.blk s H scope (compEnvC scope cl C X.env) fp) ifs tt)
    (he : ∀ (s : Shared) (H : Hp) (C : Addr) (cl : List (Str × Addr)) (fp : List Addr), PE (X.blk s H scope (compEnvC scope cl C X.env) fp) elt te)
    (hs : ∀ x, foldedSetIterable iter X.env x = pure x := by intro _; rfl) :
    PE X (.ListComp elt [⟨tg, iter, ifs, 0⟩] scope pos) (zLc wi g tt te (own.map (·.2))) := pe_lc hc hN hi ok hg ht he hs
theorem psz_setLc {i : Nat} {y : Str} {py : Pos} {elt tg iter : Expr} {ifs : List Expr} {scope : Scope} {own : List (Str × Nat)} {pos spos : Pos} {wi : TI} {g : TG} {tt : TT} {te : TE}
    (hc : X.calm = true) (hN : X.N.Nodup) (hy : X.N[i]? = some y) (hyl : X.env.scope.names.lookup y = some .local)
    (hsw : swapsWith (.ListComp elt [⟨tg, iter, ifs, 0⟩] scope pos) (some (.Name y py)) spos.line X.env = pure true) (hi : PI X tg iter wi) (ok : BlkOk X.N X.env.scope scope own)
    (hg : ∀ (s : Shared) (H : Hp) (C : Addr) (cl : List (Str × Addr)) (fp : List Addr), PG (X.blk s H scope (compEnvC scope cl C X.env) fp) tg g)
    (ht : ∀ (s : Shared) (H : Hp) (C : Addr) (cl : List (Str × Addr)) (fp : List Addr), PTs (X.blk s H scope (compEnvC scope cl C X.env) fp) ifs tt)
    (he : ∀ (s : Shared) (H : Hp) (C : Addr) (cl : List (Str × Addr)) (fp : List Addr), PE (X.blk s H scope (compEnvC scope cl C X.env) fp) elt te)
    (hs : ∀ x, foldedSetIterable iter X.env x = pure x := by intro _; rfl) :
    PS X (.Assign [.Name y py] (.ListComp elt [⟨tg, iter, ifs, 0⟩] scope pos) spos) (tAsg (zLc wi g tt te (own.map (·.2))) (gName i)) :=
  ps_setLc hc hN hy hyl hsw hi ok hg ht he hs
end
section
variable {J : It} {n : Nat} {G : Hp → Prop} {Y : Nat → Hp → V → Hp → Prop}
/-- a for by its invariant -/
theorem for_z (w : Walk J n G Y) {g : TG} {tb : TS} {D : Ends} {σ : St} {H : Hp} (Pv : Nat → St → Hp → Prop) (h0 : Pv 0 σ H) (hG : ∀ i σ H, i ≤ n → Pv i σ H → G H)
    (hs : ∀ i x σ H H', i < n → Pv i σ H → Y i H x H' → g x σ H' fun σ2 H2 => tb { D with nx := Pv (i + 1), ct := Pv (i + 1), bk := D.nx } σ2 H2) (hd : ∀ σ H, Pv n σ H → D.nx σ H) :
    forGo J g tb D σ H := for_it w Pv h0 hG hs hd
/-- a comprehension by an invariant of the heap -/
theorem lc_z (w : Walk J n G Y) {g : TG} {tt : TT} {te : TE} {vs : List Nat} {σ : St} {H1 : Hp} {Q : VK} (Pv : Addr → Nat → Hp → Prop) (h0 : ∀ D, H1 D = none → Pv D 0 (upd H1 D (.lst [])))
    (hG : ∀ D i H, H1 D = none → i ≤ n → Pv D i H → G H)
    (hs : ∀ D i x H H', H1 D = none → i < n → Pv D i H → Y i H x H' → g x (wipe σ vs) H' fun σ2 H2 => wipe σ2 vs = wipe σ vs ∧ tt σ2 H2 fun b H3 =>
      if b = true then te σ2 H3 fun y H4 => ∃ acc, H4 D = some (.lst acc) ∧ acc.length < sizeLine ∧ Pv D (i + 1) (upd H4 D (.lst (acc ++ [y]))) else Pv D (i + 1) H3)
    (hd : ∀ D H, H1 D = none → Pv D n H → Q (.ref D) H) : lcGo J g tt te vs σ H1 Q :=
  fun D hD => lc_it w (Qd := fun H => Q (.ref D) H) (Pv D) (h0 D hD) (fun i H => hG D i H hD) (fun i x H H' => hs D i x H H' hD) fun H => hd D H hD
/-- a comprehension whose elements change nothing -/
theorem lc_map (w : Walk J n G Y) {g : TG} {tt : TT} {te : TE} {vs : List Nat} {σ : St} {H1 : Hp} {Q : VK} (f : Nat → V) (hn : n ≤ sizeLine) (hG : ∀ H', Same H1 H' → G H')
    (hs : ∀ i x H H', i < n → Same H1 H → Y i H x H' → H' = H ∧ ∃ σ2, (∀ R : St → Hp → Prop, R σ2 H → g x (wipe σ vs) H R) ∧ wipe σ2 vs = wipe σ vs ∧
      (∀ R : Bool → Hp → Prop, R true H → tt σ2 H R) ∧ (∀ R : VK, R (f i) H → te σ2 H R))
    (hd : ∀ D, H1 D = none → Q (.ref D) (upd H1 D (.lst ((List.range n).map f)))) : lcGo J g tt te vs σ H1 Q := by
  refine lc_z w (fun D i H => H = upd H1 D (.lst ((List.range i).map f))) (fun D hD => rfl) (fun D i H hD _ e => ?_) (fun D i x H H' hD hi e y => ?_) (fun D H hD e => ?_)
  · subst e
    exact hG _ (Same.put hD)
  · subst e
    obtain ⟨e2, σ2, h1, h2, h3, h4⟩ := hs i x _ H' hi (Same.put hD) y
    subst e2
    refine h1 _ ⟨h2, h3 _ ?_⟩
    show te σ2 _ _
    refine h4 _ ⟨_, upd_same, by simp; omega, ?_⟩
    rw [upd_upd, List.range_succ, List.map_append]
    rfl
  · subst e
    exact hd D hD
end
end Z
namespace Z
open PySem PySem.Spec PyProof.Rows L2

/-! ### the law's end, for defs of this layer -/
theorem law_callZ {P : Program} {w : World} {K : PySem.W.Frag} {mg mb : Str → Option Value} {k : Nat} {fa a : Addr} {fd : FuncData} {x : Str} {sp : Sp} {s₁ : Shared} {vs : List Value} {ns : List Int}
    (KX : K.In s₁.heap) (hns : s₁.heap.Ns mainGlobals mg) (hb : s₁.heap.Ns builtinsNs mb) (hbb : ∀ x : Str, x ≠ "__name__" → mb x = bootBuiltins x) (hlim : s₁.heap.NoLimit) (hg : s₁.gens = #[])
    (ha : s₁.heap.get? a = some { cls := .type "list", data := .seq vs.toArray }) (hi : IntsAre vs ns) (hl : ns.length ≤ sizeLine) (hr : Room k callerA)
    (F : ∀ base : Heap, K.In base → base.Ns mainGlobals mg → FnZ P w K mg base k fa fd [x] sp) (hbind : ∀ (s : Shared) (u : Value), BindsTo s fd ⟨[u], []⟩ [(x, u)])
    (hsp : ∀ H : Hp, Only H → SqL K H a (ns.map V.int) → sp [.ref a] H (fun v _ => v = .bl true) fun _ _ _ => False) :
    codeAny (model P w) callerA (.call (.ref fa) ⟨[.ref a], []⟩) (fun r s' => r = .ok (.ret (.bool true)) ∧ OldK s₁.heap s'.heap ∧ s'.os = s₁.os ∧ AllBare s'.gens) s₁ := by
  have rv := vals_ints hi
  have lenV := hi.length
  have core : ∀ H : Hp, Only H → SqL K H a (ns.map V.int) → HOk P w H s₁.heap → (∀ b, H b ≠ none → b = a) → (H a ≠ none → K.lookup a = none) →
      codeAny (model P w) callerA (.call (.ref fa) ⟨[.ref a], []⟩) (fun r s' => r = .ok (.ret (.bool true)) ∧ OldK s₁.heap s'.heap ∧ s'.os = s₁.os ∧ AllBare s'.gens) s₁ := by
    intro H hO hS hok hA hK
    have base_of : ∀ {b : Addr} {o : Obj}, s₁.heap.get? b = some o → H b = none → (hidT s₁.heap H).get? b = some o := fun e n => hidT_get e n
    have noA : ∀ {b : Addr} {o : Obj} {es : Array DictEntry} {ep : Nat}, s₁.heap.get? b = some o → o.data = .dict es ep → H b = none := fun {b o es ep} e d => by
      cases q : H b with
      | none => rfl
      | some u =>
        have e' : b = a := hA b (by rw [q]; simp)
        subst e'
        rw [ha] at e; cases e
        have d' : Data.seq vs.toArray _ = Data.dict es ep := d
        cases d'
    have nsK : ∀ {b : Addr} {m : Str → Option Value}, s₁.heap.Ns b m → (hidT s₁.heap H).Ns b m := fun {b m} ⟨o, es, ep, e, d, r⟩ => ⟨o, es, ep, base_of e (noA e d), d, r⟩
    have hKb : K.In (hidT s₁.heap H) := fun b o e => base_of (KX b o e) (by
      cases q : H b with
      | none => rfl
      | some u =>
        have e' : b = a := hA b (by rw [q]; simp)
        subst e'
        rw [hK (by rw [q]; simp)] at e; cases e)
    have hM : Mod K mg (hidT s₁.heap H) := ⟨hKb, nsK hns, ⟨mb, nsK hb, hbb⟩, let ⟨mc, h1, h2⟩ := hlim; ⟨mc, nsK h1, h2⟩⟩
    have e0 : Env0 P w K mg (hidT s₁.heap H) callerA [] s₁ H := ⟨rfl, hM, fun b o e => of_hidT e, Nat.le_of_eq (hidT_size _ _), trivial, fun b hb => absurd (show b ∈ ([] : List Addr) from hb) (by simp), hok, .of_eq hg⟩
    refine codeAny_mono ((F _ hKb (nsK hns)).run callerA [] s₁ H ⟨[.ref a], []⟩ [.ref a] [.ref a] _ _ hr (fun _ => rfl) e0 (hbind s₁ (.ref a)) (.cons rfl .nil) (hsp H hO hS)) fun r s' h => ?_
    cases r with
    | error e =>
      obtain ⟨_, _, _, _, _, _, _, _, _, _, _, _, z⟩ := h
      exact False.elim z
    | ok fl =>
      cases fl with
      | next => exact False.elim h
      | brk => exact False.elim h
      | cont => exact False.elim h
      | ret u =>
        obtain ⟨v, H', os, bare, un, hok', r', q⟩ := h
        have q' : v = .bl true := q
        subst q'
        obtain rfl : u = Value.bool true := r'
        refine ⟨rfl, OldK.of_keep fun b o e => ?_, os, bare⟩
        cases q : H b with
        | none => exact un.keep b o e q (by intro z; exact absurd (show b ∈ ([] : List Addr) from z) (by simp)) (by simp)
        | some u =>
          rcases hO b with z | ⟨ob, xs, z⟩
          · rw [q] at z; cases z
          · have z2 := un.frzs b ob _ z
            obtain ⟨e1, _⟩ := hok b _ z
            obtain ⟨e2, _⟩ := hok' b _ z2
            rw [e] at e1; cases e1
            exact e2
  cases hk : K.lookup a with
  | some o =>
    have e := KX a o hk
    rw [ha] at e
    cases e
    refine core (fun _ => none) (fun _ => .inl rfl) (.inr ⟨_, vs.toArray, _, hk, rfl, rfl, rfl, by rw [List.size_toArray, lenV]; exact hl, by simpa using rv⟩) (fun b u z => by have z' : (none : Option HO) = some u := z; cases z') (fun b z => absurd rfl z) fun z => absurd rfl z
  | none =>
    refine core (fun b => if b = a then some (.frz { cls := .type "list", data := .seq vs.toArray } (.lst (ns.map V.int))) else none) (fun b => ?_) (.inl (.inr ⟨{ cls := .type "list", data := .seq vs.toArray }, if_pos rfl⟩)) (fun b u z => ?_) (fun b z => ?_) fun _ => hk
    · by_cases hb : b = a
      · exact .inr ⟨_, _, if_pos hb⟩
      · exact .inl (if_neg hb)
    · by_cases hb : b = a
      · have z' := (if_pos hb).symm.trans z
        cases z'
        subst hb
        exact ⟨ha, by rw [List.length_map]; exact hl, vs, _, rv, ha⟩
      · have z' := (if_neg hb).symm.trans z
        cases z'
    · by_cases hb : b = a
      · exact hb
      · exact absurd (if_neg hb) z
theorem walk_ofZ {l : PySem.W.OpenLaw} {n k : Nat} {q : Program} {loose : List Str} {XP : (Str → Option Value) → Heap → Prop} {YP : World → Heap → Prop} {d : DefRec} {K : Params → PySem.W.Frag} {sp : PySem.W.Frag → Sp} {x : Str}
    (hn : l.most = some n) (hn2 : n ≤ sizeLine) (hdf : d.params.defaults = []) (hr : Room k callerA)
    (hY : ∀ (w : World) (h : Heap), YP w h → (K w.params).In h)
    (F : ∀ (w : World) (mg : Str → Option Value) (fa : Addr) (h : Heap), (K w.params).In h → h.Ns mainGlobals mg → mg d.name = some (.ref fa) →
      ∃ fd : FuncData, (∀ (s : Shared) (u : Value), BindsTo s fd ⟨[u], []⟩ [(x, u)]) ∧
        ∀ base : Heap, (K w.params).In base → base.Ns mainGlobals mg → FnZ l.prog w (K w.params) mg base k fa fd [x] (sp (K w.params)))
    (hsp : ∀ (K : PySem.W.Frag) (H : Hp) (a : Addr) (ns : List Int), ns.length ≤ n → Only H → SqL K H a (ns.map V.int) → sp K [.ref a] H (fun v _ => v = .bl true) fun _ _ _ => False) :
    PySem.W.WalkO q loose XP YP l.row.toRowW d [] (fun f vs => PySem.call f vs) := by
  refine Att.attach_call hn hdf fun w s₀ s₁ mg mb fa o pm cd doc a vs ns G Y ho hd hcd hmg hobj hints hlen hg => ?_
  have KX := hY w _ Y
  obtain ⟨fd, hb, hF⟩ := F w mg fa _ KX G.T.g hmg
  exact law_callZ KX G.T.g G.T.b G.T.builtins G.T.nolimit hg hobj hints (Nat.le_trans hlen hn2) hr hF hb (fun H hO hS => hsp (K w.params) H a ns hlen hO hS)
/-- the promise of a law: whatever the script, True -/
def spLaw (K : PySem.W.Frag) : Sp := fun vs H Q E => ∃ (a : Addr) (ns : List Int), vs = [.ref a] ∧ SqL K H a (ns.map V.int) ∧ ns.length ≤ 63 ∧ ∀ H', Q (.bl true) H'
theorem law_walk {l : PySem.W.OpenLaw} {k : Nat} {q : Program} {loose : List Str} {XP : (Str → Option Value) → Heap → Prop} {YP : World → Heap → Prop} {d : DefRec} {K : Params → PySem.W.Frag} (hn : l.most = some 63) (hdf : d.params.defaults = []) (hr : Room k callerA)
    (hY : ∀ (w : World) (h : Heap), YP w h → (K w.params).In h)
    (F : ∀ (w : World) (mg : Str → Option Value) (fa : Addr) (h : Heap), (K w.params).In h → h.Ns mainGlobals mg → mg d.name = some (.ref fa) →
      ∃ fd : FuncData, (∀ (s : Shared) (u : Value), BindsTo s fd ⟨[u], []⟩ [("script", u)]) ∧
        ∀ base : Heap, (K w.params).In base → base.Ns mainGlobals mg → FnZ l.prog w (K w.params) mg base k fa fd ["script"] (spLaw (K w.params))) :
    PySem.W.WalkO q loose XP YP l.row.toRowW d [] (fun f vs => PySem.call f vs) :=
  walk_ofZ (n := 63) (k := k) (x := "script") (sp := spLaw) hn (by decide) hdf hr hY F fun _ _ a ns hl _ hS => ⟨a, ns, rfl, hS, hl, fun _ => rfl⟩
/-- «except C» names an error of the class at C itself -/
theorem exm_own {K : PySem.W.Frag} {C : Addr} (b : PySem.W.subIn K (.ref C) (.type "BaseException") = some true) (c : PySem.W.isClsIn K C = true) (t : PySem.W.typeIn K (.ref C) = some (.type "type")) (u : PySem.W.subIn K (.ref C) (.ref C) = some true) :
    PySem.W.exmOne K (.ref C) (.ref C) = some true := by
  have c' : (PySem.W.clsIn K C).isSome = true := c
  simp [PySem.W.exmOne, PySem.W.kitCls, b, c', t, u]
end Z
namespace Z
open PySem PySem.Spec PyProof.Rows L2

/-! ### enumerate(tuple) -/
theorem enum1_meets {v : Value} {o : Obj} {G : Heap → Prop} (B : Begins v o G) :
    Meets (Builtin.«enumerate.__new__» ⟨[.type "enumerate", v], []⟩) (fun _ R s => G s.heap ∧
      R (.ok (.ret (.ref (s.heap.push o).objs.size))) { s with heap := (s.heap.push o).push { cls := .type "enumerate", data := .fields #[.none, .bool false, .ref s.heap.objs.size, rawInt 0, .none, .none] } }) :=
  .of_wp fun prog w A R s hh => by
    obtain ⟨hp, g, d, tk, os⟩ := s
    obtain ⟨hG, hR⟩ := hh
    have hsub := sub_enumerate
    have it1 : ∀ {A' : Around} {E : Value → Shared → Prop} {Q : Value → Shared → Prop}, Q (.ref hp.objs.size) ⟨hp.push o, g, d, tk, os⟩ → wpAny (model prog w) A' (pyIter v) Q E ⟨hp, g, d, tk, os⟩ :=
      fun q => B.iter prog w _ _ _ _ hG q
    wp_walk using it1
    refine wpAny_stack_any fun _ => wpAny_pure ?_
    split
    · rename_i c _ _ _ _ _
      cases (c == Value.type "enumerate") <;>
      · wp_walk using it1
        exact ⟨_, rfl, hR⟩
    · wp_walk using it1
      exact ⟨_, rfl, hR⟩
theorem enum1_call {prog : Program} {w : World} {A : Around} {E : Value → Shared → Prop} {s : Shared} {v : Value} {o : Obj} {G : Heap → Prop} {Q : Value → Shared → Prop} (B : Begins v o G) (hG : G s.heap)
    (k : ∀ h', IsEnum h' (s.heap.objs.size + 1) s.heap.objs.size 0 .none → h'.get? s.heap.objs.size = some o → (∀ b u, s.heap.get? b = some u → h'.get? b = some u) → Q (.ref (s.heap.objs.size + 1)) { s with heap := h' }) :
    wpAny (model prog w) A (call (.type "enumerate") [v]) Q E s := by
  have z1 : (s.heap.push o).objs.size = s.heap.objs.size + 1 := Heap.size_push ..
  have e1 : IsEnum ((s.heap.push o).push { cls := .type "enumerate", data := .fields #[.none, .bool false, .ref s.heap.objs.size, rawInt 0, .none, .none] }) (s.heap.objs.size + 1) s.heap.objs.size 0 .none := by
    rw [← z1]
    exact Heap.get?_push_size _ rfl
  refine callType_new F.called_enumerate (by decide) (F.typeCall_enumerate_1 _) (F.newCall_enumerate_1 _) (fun obj => F.args_object_init_2 obj _) F.entry_enumerate_new (enum1_meets B) ⟨hG, ?_⟩
  show _ ∧ _
  rw [z1]
  exact ⟨⟨_, e1, rfl⟩, k _ e1 (Heap.get?_push_of_some _ (Heap.get?_push_size _ B.free)) fun b u x => Heap.get?_push_of_some _ (Heap.get?_push_of_some _ x)⟩
/-- the tuple at a, each item with its index in a new pair -/
def ZeT (K : PySem.W.Frag) (a : Addr) : It where
  go := fun i H => ∃ (xs : List V) (x : V), SqT K H a xs ∧ xs[i]? = some x
  yld := fun i H v H' => ∃ T x, v = .ref T ∧ H T = none ∧ H' = upd H T (.tup [.int (i : Nat), x]) ∧ ∀ xs, SqT K H a xs → xs[i]? = some x
  stop := fun i H => ∃ xs : List V, SqT K H a xs ∧ xs.length ≤ i
theorem isTup_tuple {h : Heap} {a : Addr} {its : Array Value} (p : IsTup h a its) : h.IsTuple a its := by
  obtain ⟨o, e, c, n, d⟩ := p
  exact ⟨o, e, c, n, d⟩
theorem turn_zeT {P : Program} {w : World} {K : PySem.W.Frag} {elts : List Expr} {kk : Nat} {tpos : Pos} (a e it : Addr) :
    Turn P w K (.Tuple elts kk tpos) (ZeT K a) [e, it] e (fun i h => (∃ old, IsEnum h e it ((i : Nat) : Int) old) ∧ h.IsTupleIter it a i ∧ e ≠ it) where
  mem := by simp
  obj := fun i h st b hb => by
    obtain ⟨⟨old, he⟩, ⟨o, ho, hc, hd⟩, _⟩ := st
    simp only [List.mem_cons, List.not_mem_nil, or_false] at hb
    rcases hb with rfl | rfl
    · exact ⟨_, he, fun v q => nomatch q⟩
    · exact ⟨o, ho, fun v q => by rw [hd] at q; cases q⟩
  keep := fun i h h' st k => by
    obtain ⟨⟨old, he⟩, hi, hne⟩ := st
    exact ⟨⟨old, k e (by simp) _ he⟩, hi.at fun o q => k it (by simp) o q, hne⟩
  item := by
    intro X hP hw hK hc i pins s σ H E I hf st hg
    subst hP hw hK
    obtain ⟨⟨old, he⟩, hit, hne⟩ := st
    obtain ⟨xs, x, hq, hx⟩ := hg
    obtain ⟨its, rv, p, _⟩ := I.tuple hq
    obtain ⟨u, hu, ru⟩ := rv.get hx
    have pt := isTup_tuple p
    have nai : a ≠ it := fun z => by
      obtain ⟨o1, e1, c1, _⟩ := pt
      obtain ⟨o2, e2, c2, _⟩ := hit
      rw [z, e2] at e1
      cases e1
      rw [c2] at c1
      exact absurd c1 (by decide)
    have nea : e ≠ a := fun z => by
      obtain ⟨o1, e1, c1, _⟩ := pt
      have e2 : s.heap.get? e = _ := he
      rw [z, e1] at e2
      obtain rfl := Option.some.inj e2
      exact absurd (show Value.type "enumerate" = Value.type "tuple" from c1) (by decide)
    have lte : e < s.heap.objs.size := Heap.lt_size he
    have lti : it < s.heap.objs.size := by obtain ⟨_, q, _⟩ := hit; exact Heap.lt_size q
    have lts : i < its.toArray.size := by
      have := (List.getElem?_eq_some_iff.mp hu).1
      simpa using this
    refine wpAny_pyNext_enum_itemC (Draws.tuple (A := X.A.in1) (I.ok.hd hc) it a nai its.toArray) he ⟨hit, pt⟩ lts hne (by simp [hne, nea]) fun y h' tk hy ho hst hT hsz hk => ?_
    obtain rfl : y = u := by
      have hy' : its[i]? = some y := by simpa using hy
      rw [hu] at hy'
      exact (Option.some.inj hy').symm
    refine ⟨_, rfl, wpAny_letOwnedTupleGo_enum (s := { s with heap := h', toks := tk + 1 }) ho fun h2 he2 sb => ?_⟩
    have hT2 : h2.get? s.heap.objs.size = some { cls := .type "tuple", data := .seq #[.int i tk, y] } := (sb.2 _ (Nat.ne_of_gt lte)).trans hT
    have new : ObjOk X.prog X.w (upd H s.heap.objs.size (.tup [.int (i : Nat), x])) h2 s.heap.objs.size (.tup [.int (i : Nat), x]) :=
      ⟨show 2 ≤ sizeLine by decide, [.int i tk, y], .cons ⟨_, rfl⟩ (.cons ru .nil), ⟨_, hT2, rfl, _, rfl⟩⟩
    have I1 : Inv X pins σ (upd H s.heap.objs.size (.tup [.int (i : Nat), x])) { s with heap := h2, toks := tk + 1 } :=
      I.turnedNew (ch := [e, it]) (fun b ob hb q => (sb.2 b (fun z => hb (by simp [z]))).trans (hk b ob (fun z => hb (by simp [z])) (fun z => hb (by simp [z])) q)) hf (Nat.le_refl _) new
    refine ⟨.ref s.heap.objs.size, _, I1, rfl, ⟨_, x, rfl, I.hok.fresh (Nat.le_refl _), rfl, fun ys hy2 => by rw [I.tuple_inj hy2 hq]; exact hx⟩, ⟨⟨y, ?_⟩, hst.1.at fun o q => (sb.2 it (Ne.symm hne)).trans q, hne⟩, fun b hb => ?_⟩
    · have e1 : ((i + 1 : Nat) : Int) = (i : Int) + 1 := by omega
      rw [e1]
      exact he2
    · have lt : b < s.heap.objs.size := by
        simp only [List.mem_cons, List.not_mem_nil, or_false] at hb
        rcases hb with rfl | rfl
        · exact lte
        · exact lti
      rw [upd_ne (Nat.ne_of_lt lt)]
      exact (hf b hb).1
  done := by
    intro X hP hw hK hc i pins s σ H E I hf st hg
    subst hP hw hK
    obtain ⟨⟨old, he⟩, hit, hne⟩ := st
    obtain ⟨xs, hq, hx⟩ := hg
    obtain ⟨its, rv, p, _⟩ := I.tuple hq
    have pt := isTup_tuple p
    obtain ⟨f0, f1, f2, f3, f4, f5⟩ := hf it (by simp)
    have hl := rv.length
    have T := I.ok.hd hc
    have fin : ∀ h', Heap.ExtBut it s.heap h' → Inv X pins σ H { s with heap := h' } := fun h' eb => I.turned (t' := s.toks) (fun b o hb q => eb b o hb q) f0 f1 f3 f4 f5
    have D : Draws X.prog X.w X.A.in1 it [it, a] i (fun _ _ => True) (fun k h => k = i ∧ h.IsTupleIter it a i ∧ h.IsTuple a its.toArray) := {
      live := fun _ _ z => let ⟨o, ho, _⟩ := z.2.1; ⟨o, ho⟩
      frame := fun _ _ _ z hk => ⟨z.1, z.2.1.at fun o q => hk it (by simp) o q, z.2.2.at fun o q => hk a (by simp) o q⟩
      item := fun k _ _ _ lt z _ => absurd z.1 (Nat.ne_of_lt lt)
      done := fun s' Q' E' z hE => wpAny_nextOf_tuple_end (A := X.A.in1) T z.2.1 z.2.2 (by simp; omega) hE }
    exact wpAny_pyNext_enum_endD D he ⟨rfl, hit, pt⟩ fun h' eb => ⟨rfl, fin h' eb⟩
  self := fun A i s Q E st h => by
    obtain ⟨⟨_, he⟩, _⟩ := st
    exact wpAny_pyIter_enum he h
/-- enumerate of a list or of a tuple -/
def zEnum (K : PySem.W.Frag) (ta : TA) : TI := fun σ H R => ta σ H fun vs H1 => ∃ a xs, vs = [.ref a] ∧ ((SqL K H1 a xs ∧ R (Ite K a) H1) ∨ (SqT K H1 a xs ∧ R (ZeT K a) H1))
theorem pi_zEnum {X : Cx} {e : Expr} {ta : TA} {p pos tpos : Pos} {elts : List Expr} {kk : Nat} (hg : Gl X "enumerate") (hm : X.mg "enumerate" = none) (ha : PA X [e] ta) (hs : starEach [e] X.env = [(false, eval e X.env)] := by rfl) :
    PI X (.Tuple elts kk tpos) (.Call (.Name "enumerate" p) [e] [] pos) (zEnum X.K ta) := by
  constructor
  intro pins s σ H R I h
  refine Call_ (ld_blt I hg hm boot_enumerate (PyProof.Rows.callWith_type1 (thn (ha.run pos pins s σ H _ I h) ?_) hs rfl))
  rintro us s1 ⟨vs, H1, I1, r1, a, xs, rfl, q⟩
  cases r1 with
  | cons r rr =>
    cases rr
    cases r
    have foot : ∀ b ∈ [s1.heap.objs.size + 1, s1.heap.objs.size], FpOk X pins H1 b := fun b hb => by
      have le : s1.heap.objs.size ≤ b := by
        simp only [List.mem_cons, List.not_mem_nil, or_false] at hb
        omega
      exact I1.fpOk le (I1.hok.fresh le)
    rcases q with ⟨hq, q⟩ | ⟨hq, q⟩
    · obtain ⟨its, rv, p', hz⟩ := I1.list hq
      refine call_enumerate_list p'.isList fun h' he hit hsz hk => wpAny_pyIter_enum he ?_
      exact ⟨s1.heap.objs.size + 1, [s1.heap.objs.size + 1, s1.heap.objs.size], _, _, H1, rfl, I1.kept (t' := s1.toks) hk, turn_enum a (s1.heap.objs.size + 1) s1.heap.objs.size, ⟨⟨.none, he⟩, hit, Nat.succ_ne_self _⟩, foot, q⟩
    · obtain ⟨its, rv, p', hz⟩ := I1.tuple hq
      refine enum1_call (begins_tuple a its.toArray) (isTup_tuple p') fun h' he hit hk => wpAny_pyIter_enum he ?_
      exact ⟨s1.heap.objs.size + 1, [s1.heap.objs.size + 1, s1.heap.objs.size], _, _, H1, rfl, I1.kept (t' := s1.toks) hk, turn_zeT a (s1.heap.objs.size + 1) s1.heap.objs.size, ⟨⟨.none, he⟩, ⟨_, hit, rfl, rfl⟩, Nat.succ_ne_self _⟩, foot, q⟩
theorem walk_zeT {K : PySem.W.Frag} {a : Addr} {xs : List V} : Walk (ZeT K a) xs.length (fun H => SqT K H a xs) (YPair (fun i => some (.int (i : Nat))) (fun i => xs[i]?)) := by
  refine ⟨fun i _ hi q => ⟨xs, xs[i], q, by simp [hi]⟩, fun _ q => ⟨xs, q, Nat.le_refl _⟩, fun i H v H' _ q y => ?_⟩
  obtain ⟨T, x, h1, h2, h3, h4⟩ := y
  exact ⟨T, .int (i : Nat), x, h1, h2, h3, rfl, h4 xs q⟩
end Z
namespace Z
open PySem PySem.Spec PyProof.Rows L2

/-! ### {e for x in xs if t}: a set of keys (texts, ints) -/
def scGo (P : Program) (w : World) (J : It) (g : TG) (tt : TT) (te : TE) (vs : List Nat) (σ : St) (H1 : Hp) (Q : VK) : Prop := ∀ D, H1 D = none →
  ∃ W : Nat → Nat → Hp → Prop, (∃ m, W 0 m (upd H1 D (SetK P w D (fun _ => false) 0))) ∧ ∀ i m H, W i m H →
    (J.stop i H ∧ Q (.ref D) H) ∨ (J.go i H ∧ ∃ Nx : Hp → Prop, (∀ H', Nx H' → ∃ m', m' < m ∧ W (i + 1) m' H') ∧
      ∀ x H', J.yld i H x H' → g x (wipe σ vs) H' fun σ2 H2 => wipe σ2 vs = wipe σ vs ∧ tt σ2 H2 fun b H3 =>
        if b = true then te σ2 H3 fun y H4 => rSAddK P w (.ref D) [y] H4 fun _ H5 => Nx H5 else Nx H3)
def zSc (P : Program) (w : World) (wi : TI) (g : TG) (tt : TT) (te : TE) (vs : List Nat) : TE := fun σ H Q => wi σ H fun J H1 => scGo P w J g tt te vs σ H1 Q
/-- an empty set -/
abbrev set0 (w : World) : Obj := { cls := .type "set", dict := none, data := .set #[] 0 (.fresh 0 0 (!w.params.followText "set-order")) }
theorem set0_key {P : Program} {w : World} {h : Heap} : (h.push (set0 w)).SetOf (mixKind P w) h.objs.size (fun _ => false) 0 := by
  refine ⟨_, #[], 0, _, Heap.get?_push_size _ rfl, ⟨rfl, rfl, rfl⟩, rfl, ?_, ?_, by decide, rfl, rfl⟩
  · intro e he
    simp at he
  · intro k
    simp
section
variable {X : Cx} {elt tg iter : Expr} {ifs : List Expr} {scope : Scope} {own : List (Str × Nat)} {wi : TI} {g : TG} {tt : TT} {te : TE}
/-- where the block runs -/
abbrev blkAt (X : Cx) (s : Shared) (H : Hp) (scope : Scope) (fp : List Addr) : Cx :=
  X.blk s H scope (compEnvC scope (cellsFrom (s.heap.objs.size + 1) scope.names (cloFrom X.env.cells scope.names [])) s.heap.objs.size X.env) fp
abbrev InBlk (X : Cx) (scope : Scope) (e : Expr → Cx → Prop) (a : Expr) : Prop := ∀ (s : Shared) (H : Hp) (C : Addr) (cl : List (Str × Addr)) (fp : List Addr), e a (X.blk s H scope (compEnvC scope cl C X.env) fp)
theorem sc_turns {s3 : Shared} {fp : List Addr} {it D : Addr} {ce : Env} {J : It} {tn : Nat → Heap → Prop} {vs : List Nat} {σ : St} {Q : VK} {pos : Pos} {s4 : Shared} {m0 : Nat} {H3 : Hp} {R : Result → Shared → Prop} {W : Nat → Nat → Hp → Prop}
    (hc : X.calm = true) (T : Turn X.prog X.w X.K tg J fp it tn) (hg : PG (X.blk s3 H3 scope ce fp) tg g) (ht : PTs (X.blk s3 H3 scope ce fp) ifs tt) (he : PE (X.blk s3 H3 scope ce fp) elt te)
    (turn : ∀ i m H, W i m H → (J.stop i H ∧ Q (.ref D) H) ∨ (J.go i H ∧ ∃ Nx : Hp → Prop, (∀ H', Nx H' → ∃ m', m' < m ∧ W (i + 1) m' H') ∧
      ∀ x H', J.yld i H x H' → g x (wipe σ vs) H' fun σ2 H2 => wipe σ2 vs = wipe σ vs ∧ tt σ2 H2 fun b H3 =>
        if b = true then te σ2 H3 fun y H4 => rSAddK X.prog X.w (.ref D) [y] H4 fun _ H5 => Nx H5 else Nx H3))
    (I4 : Inv (X.blk s3 H3 scope ce fp) [] (wipe σ vs) H3 s4) (st4 : tn 0 s4.heap) (nfp : ∀ b ∈ fp, H3 b = none) (w0 : W 0 m0 H3)
    (out : ∀ H5 s6, Inv (X.blk s3 H3 scope ce fp) [] (wipe σ vs) H5 s6 → Q (.ref D) H5 → R (.ok .next) s6) :
    codeAny (model X.prog X.w) X.A (.compLoop (.SetComp elt [⟨tg, iter, ifs, 0⟩] scope pos) 0 (.ref it) (.ref D) ce) R s4 := by
  refine PpSet.compLoopS_any (fun n s' => ∃ i H', Inv (X.blk s3 H3 scope ce fp) [] (wipe σ vs) H' s' ∧ tn i s'.heap ∧ (∀ b ∈ fp, H' b = none) ∧ W i n H') ?_ m0 ⟨0, H3, I4, st4, nfp, w0⟩
  have stat : ∀ {σ' : St} {H' : Hp} {s' : Shared}, Inv (X.blk s3 H3 scope ce fp) [] σ' H' s' → (∀ b ∈ fp, H' b = none) → ∀ b ∈ fp, FpOk (X.blk s3 H3 scope ce fp) [] H' b := by
    intro σ' H' s' I' hn b hb
    obtain ⟨x1, x2⟩ := I'.ok.exf b hb
    refine ⟨hn b hb, x1, I'.ok.exfs b hb, .inl hb, fun x c e => x2 x c e, fun p hp => ?_⟩
    simp at hp
  rintro n s5 ⟨i, H5, I5, st5, n5, w5⟩
  rcases turn i n H5 w5 with ⟨stop, qq⟩ | ⟨go, Nx, hNx, step⟩
  · refine thnF (T.done (X.blk s3 H3 scope ce fp) rfl rfl rfl hc i [] s5 _ H5 (fun _ _ => False) I5 (stat I5 n5) st5 stop) ?_
    rintro r s6 ⟨rfl, I6⟩
    exact out H5 s6 I6 qq
  · refine thnF (T.item (X.blk s3 H3 scope ce fp) rfl rfl rfl hc i [] s5 _ H5 (fun _ _ => False) I5 (stat I5 n5) st5 go) ?_
    rintro r s6 ⟨u, rfl, h6⟩
    refine thnF h6 ?_
    rintro _ s7 ⟨x, H7, I7, r7, y7, st7, n7⟩
    have I7' := I7.pinned (stat I7 n7) (T.obj _ _ st7)
    refine thnF (hg.run _ s7 _ H7 x u _ I7' r7 (step x H7 y7)) ?_
    rintro _ s8 ⟨σ8, H8, I8, hw8, q8⟩
    refine thnF (ht.run _ s8 σ8 H8 _ I8 q8) ?_
    rintro b s9 ⟨H9, I9, q9⟩
    have fin : ∀ {s' : Shared} {H' : Hp}, Inv (X.blk s3 H3 scope ce fp) ([] ++ pinsAt fp s7.heap) σ8 H' s' → Nx H' →
        ∃ m, m < n ∧ ∃ i H', Inv (X.blk s3 H3 scope ce fp) [] (wipe σ vs) H' s' ∧ tn i s'.heap ∧ (∀ b ∈ fp, H' b = none) ∧ W i m H' := by
      intro s' H' I' nx
      obtain ⟨m', hm, w'⟩ := hNx H' nx
      have pin' : ∀ b ∈ fp, ∀ o, s7.heap.get? b = some o → s'.heap.get? b = some o ∧ H' b = none := fun b hb o e => by
        obtain ⟨z1, z2, _⟩ := I'.pin (b, o) (List.mem_append_right _ (List.mem_append_right _ (mem_pinsAt hb e)))
        exact ⟨z1, z2⟩
      have hl : (wipe σ vs).length = σ8.length := by rw [← hw8, wipe_length]
      refine ⟨m', hm, i + 1, H', (I'.unpinned (pins := [])).weak hl ?_, T.keep _ _ _ st7 fun b hb o e => (pin' b hb o e).1, ?_, w'⟩
      · intro j v e
        rw [← hw8] at e
        exact (wipe_some e).1
      · intro b hb
        obtain ⟨o, e, _⟩ := T.obj _ _ st7 b hb
        exact (pin' b hb o e).2
    cases b
    · simp only [Bool.false_eq_true, if_false] at q9 ⊢
      exact fin I9 q9
    · simp only [if_true] at q9 ⊢
      refine thnF (he.run _ s9 σ8 H9 _ I9 q9) ?_
      rintro z s10 ⟨yv, H10, I10, r10, q10⟩
      refine thnF (mt_saddK _ s10 σ8 H10 (.ref D) [yv] (.ref D) [z] _ I10 rfl (.cons r10 .nil) q10) ?_
      rintro _ s11 ⟨_, H11, I11, _, nx⟩
      exact fin I11 nx
theorem sc_run {pins : List (Addr × Obj)} {s : Shared} {σ : St} {H : Hp} {Q : VK} {pos pos' : Pos} {use : Option (Value → Sem Unit)} {Qf : Value → Shared → Prop} (hc : X.calm = true) (hN : X.N.Nodup) (I : Inv X pins σ H s) (hi : PI X tg iter wi) (ok : BlkOk X.N X.env.scope scope own)
    (hg : ∀ (s : Shared) (H : Hp) (C : Addr) (cl : List (Str × Addr)) (fp : List Addr), PG (X.blk s H scope (compEnvC scope cl C X.env) fp) tg g)
    (ht : ∀ (s : Shared) (H : Hp) (C : Addr) (cl : List (Str × Addr)) (fp : List Addr), PTs (X.blk s H scope (compEnvC scope cl C X.env) fp) ifs tt)
    (he : ∀ (s : Shared) (H : Hp) (C : Addr) (cl : List (Str × Addr)) (fp : List Addr), PE (X.blk s H scope (compEnvC scope cl C X.env) fp) elt te)
    (hs : ∀ x, foldedSetIterable iter X.env x = pure x) (h : zSc X.prog X.w wi g tt te (own.map (·.2)) σ H Q)
    (done : ∀ D C s' m H', Inv X pins σ H' s' → Q (.ref D) H' → s'.heap.Ns C m → FpOk X pins H' C → compPost (model X.prog X.w) X.A X.xe use Qf (.ref D) C (.ok .next) s') :
    wpAny (model X.prog X.w) X.A (comprehension (.SetComp elt [⟨tg, iter, ifs, 0⟩] scope pos) scope X.env pos' (newSet (.type "set")) false (eval iter X.env) use) Qf X.xe s := by
  have hfree : ∀ y ∈ scope.names, y.2 = .free → ∃ c, X.env.cells.lookup y.1 = some c := by
    intro y hy e
    rcases ok.free y hy e with k | k
    · exact I.ok.has _ (.inl k)
    · exact I.ok.has _ (.inr k)
  refine wpAny_comprehension_free (use := use) rfl hs (closure_ok hfree) ok.kind (fun y hy e => by rw [ok.uniq y hy, e]) (thn (hi.run pins s σ H _ I h) fun xv s1 hx => thn hx ?_)
  rintro itv s2 ⟨it, fp, tn, J, H2, rfl, I2, T, st2, f2, q⟩
  refine PpSet.newSet_ok (newEnv_comp ?_)
  have hDn : H2 s2.heap.objs.size = none := I2.hok.fresh (Nat.le_refl _)
  obtain ⟨W, ⟨m0, w0⟩, turn⟩ := q _ hDn
  -- the new set is known
  have I3 : Inv X pins σ (upd H2 s2.heap.objs.size (SetK X.prog X.w s2.heap.objs.size (fun _ => false) 0)) { s2 with heap := s2.heap.push (set0 X.w) } :=
    I2.laid (t' := s2.toks) (fun b o e => Heap.get?_push_of_some _ e) (Nat.le_refl _) (setK_new set0_key)
  have f3 : ∀ b ∈ fp, FpOk X pins (upd H2 s2.heap.objs.size (SetK X.prog X.w s2.heap.objs.size (fun _ => false) 0)) b ∧ b < (s2.heap.push (set0 X.w)).objs.size := by
    intro b hb
    obtain ⟨o, e, _⟩ := T.obj _ _ st2 b hb
    have lt := Heap.lt_size e
    refine ⟨⟨?_, (f2 b hb).2⟩, by rw [Heap.size_push]; exact Nat.lt_succ_of_lt lt⟩
    rw [upd_ne (Nat.ne_of_lt lt)]
    exact (f2 b hb).1
  have st3 : tn 0 (s2.heap.push (set0 X.w)) := T.keep _ _ _ st2 fun b _ o e => Heap.get?_push_of_some _ e
  generalize hs3 : ({ s2 with heap := s2.heap.push (set0 X.w) } : Shared) = s3 at I3
  have h3 : s3.heap = s2.heap.push (set0 X.w) := by rw [← hs3]
  rw [← h3] at f3 st3
  generalize hH3 : upd H2 s2.heap.objs.size (SetK X.prog X.w s2.heap.objs.size (fun _ => false) 0) = H3 at I3 f3 w0
  have I4 := block_start I3 ok hN f3
  show codeAny _ _ (.compStart (.SetComp elt [⟨tg, iter, ifs, 0⟩] scope pos) 0 (.ref it) (.ref s2.heap.objs.size) (compEnvC scope (cellsFrom (s3.heap.objs.size + 1) scope.names (cloFrom X.env.cells scope.names [])) s3.heap.objs.size X.env)) (compPost (model X.prog X.w) X.A X.xe use Qf (.ref s2.heap.objs.size) s3.heap.objs.size) { s3 with heap := pushCells (s3.heap.push { cls := .type "dict", data := .dict #[] }) scope.names }
  have st4 : tn 0 (pushCells (s3.heap.push { cls := .type "dict", data := .dict #[] }) scope.names) := T.keep _ _ _ st3 fun b _ o e => pushCells_keeps _ _ _ _ (Heap.get?_push_of_some _ e)
  have nfp : ∀ b ∈ fp, H3 b = none := fun b hb => (f3 b hb).1.1
  have pg := hg s3 H3 s3.heap.objs.size (cellsFrom (s3.heap.objs.size + 1) scope.names (cloFrom X.env.cells scope.names [])) fp
  have pt := ht s3 H3 s3.heap.objs.size (cellsFrom (s3.heap.objs.size + 1) scope.names (cloFrom X.env.cells scope.names [])) fp
  have pe := he s3 H3 s3.heap.objs.size (cellsFrom (s3.heap.objs.size + 1) scope.names (cloFrom X.env.cells scope.names [])) fp
  generalize hce : compEnvC scope (cellsFrom (s3.heap.objs.size + 1) scope.names (cloFrom X.env.cells scope.names [])) s3.heap.objs.size X.env = ce at I4 pg pt pe ⊢
  have cL : ce.locals = s3.heap.objs.size := by
    rw [← hce]
    rfl
  have out : ∀ H5 s6, Inv (X.blk s3 H3 scope ce fp) [] (wipe σ (own.map (·.2))) H5 s6 → Q (.ref s2.heap.objs.size) H5 →
      compPost (model X.prog X.w) X.A X.xe use Qf (.ref s2.heap.objs.size) s3.heap.objs.size (.ok .next) s6 := by
    intro H5 s6 I6 qq
    have I7 : Inv X pins σ H5 s6 := I3.call' (ch := fp) I6.os I6.base I6.hok I6.bare fun b hb => by
      obtain ⟨⟨_, g1, _, g3, g4, g5⟩, _⟩ := f3 b hb
      exact ⟨g3, g1, g4, g5⟩
    have nC : H5 s3.heap.objs.size = none := by
      have z : H5 ce.locals = none := I6.free
      rwa [cL] at z
    obtain ⟨m, hn, _⟩ := I6.loc
    have hn : s6.heap.Ns ce.locals m := hn
    rw [cL] at hn
    exact done _ _ s6 m H5 I7 qq hn (I3.fpOk (Nat.le_refl _) nC)
  have loop := sc_turns (elt := elt) (iter := iter) (pos := pos) hc T pg pt pe turn I4 st4 nfp w0 out
  exact PpSet.codeAny_compStart_set loop (T.self X.A 0 _ _ _ st4 loop)
theorem pez_sc {pos : Pos} (hc : X.calm = true) (hN : X.N.Nodup) (hi : PI X tg iter wi) (ok : BlkOk X.N X.env.scope scope own)
    (hg : ∀ (s : Shared) (H : Hp) (C : Addr) (cl : List (Str × Addr)) (fp : List Addr), PG (X.blk s H scope (compEnvC scope cl C X.env) fp) tg g)
    (ht : ∀ (s : Shared) (H : Hp) (C : Addr) (cl : List (Str × Addr)) (fp : List Addr), PTs (X.blk s H scope (compEnvC scope cl C X.env) fp) ifs tt)
    (he : ∀ (s : Shared) (H : Hp) (C : Addr) (cl : List (Str × Addr)) (fp : List Addr), PE (X.blk s H scope (compEnvC scope cl C X.env) fp) elt te)
    (hs : ∀ x, foldedSetIterable iter X.env x = pure x := by intro _; rfl) :
    PE X (.SetComp elt [⟨tg, iter, ifs, 0⟩] scope pos) (zSc X.prog X.w wi g tt te (own.map (·.2))) := by
  constructor
  intro pins s σ H Q I h
  rw [PpSet.eval_SetComp]
  refine sc_run hc hN I hi ok hg ht he hs h fun D C s' m H' I' q hn f => ⟨m, hn, fun h2 sb => ?_⟩
  obtain ⟨g0, g1, g2, g3, g4, g5⟩ := f
  exact ⟨.ref D, H', I'.turned (t' := s'.toks) (fun b o hb e => (sb.2 b hb).trans e) g0 g1 g3 g4 g5, rfl, q⟩
/-- name = {..} on one line -/
theorem psz_setSc {i : Nat} {y : Str} {py pos spos : Pos} (hc : X.calm = true) (hN : X.N.Nodup) (hy : X.N[i]? = some y) (hyl : X.env.scope.names.lookup y = some .local)
    (hsw : swapsWith (.SetComp elt [⟨tg, iter, ifs, 0⟩] scope pos) (some (.Name y py)) spos.line X.env = pure true) (hi : PI X tg iter wi) (ok : BlkOk X.N X.env.scope scope own)
    (hg : ∀ (s : Shared) (H : Hp) (C : Addr) (cl : List (Str × Addr)) (fp : List Addr), PG (X.blk s H scope (compEnvC scope cl C X.env) fp) tg g)
    (ht : ∀ (s : Shared) (H : Hp) (C : Addr) (cl : List (Str × Addr)) (fp : List Addr), PTs (X.blk s H scope (compEnvC scope cl C X.env) fp) ifs tt)
    (he : ∀ (s : Shared) (H : Hp) (C : Addr) (cl : List (Str × Addr)) (fp : List Addr), PE (X.blk s H scope (compEnvC scope cl C X.env) fp) elt te)
    (hs : ∀ x, foldedSetIterable iter X.env x = pure x := by intro _; rfl) :
    PS X (.Assign [.Name y py] (.SetComp elt [⟨tg, iter, ifs, 0⟩] scope pos) spos) (tAsg (zSc X.prog X.w wi g tt te (own.map (·.2))) (gName i)) := by
  constructor
  intro pins s σ H D I h
  rw [exec_Assign_Name_used _ _ _ _ hsw]
  refine wpAny_bind (wpAny_standAt (wpAny_bind ?_))
  have h : zSc X.prog X.w wi g tt te (own.map (·.2)) σ H (fun x H1 => gName i x σ H1 D.nx) := h
  show wpAny _ X.A (do let _ ← comprehension (.SetComp elt [⟨tg, iter, ifs, 0⟩] scope pos) scope X.env (firstIterPos [⟨tg, iter, ifs, 0⟩] pos) (newSet (.type "set")) false (eval iter X.env) (some (assign (.Name y py) X.env))) _ _ s
  refine wpAny_bind (thn (sc_run (Qf := fun _ s' => SP X pins D .next s') hc hN I hi ok hg ht he hs h ?_) fun _ s' hq => wpAny_pure (wpAny_pure hq))
  intro L C s' m H' I' q hn f
  show wpAny _ _ (assign (.Name y py) X.env (.ref L)) _ _ _
  refine wpAny_assign_Name (store_ok2 (v := V.ref L) I' hN hy (.inl hyl) rfl (fun s2 I2 ha => ?_) (.inr hyl))
  obtain ⟨a, sb, ha⟩ := ha
  obtain ⟨g0, g1, g2, g3, g4, g5⟩ := f
  have nCa : C ≠ a := by
    rcases ha with z | z
    · rw [z]
      exact g1
    · exact fun e => g4 y a z e.symm
  exact ⟨m, hn.sameBut sb nCa, fun h3 sb3 => ⟨_, H', I2.turned (t' := s2.toks) (fun b o hb e => (sb3.2 b hb).trans e) g0 g1 g3 g4 g5, q⟩⟩
theorem sw_sc {gs : List Comprehension} {pos py : Pos} {y : Str} {l : Nat} {env : Env} (hk : env.scope.kind = .function) (hy : env.scope.names.lookup y = some .local) (hl : (py.line == pos.line) = true)
    (ha : (scope.names.any fun (n, k) => n == y && (k == .local || k == .cell)) = false) : swapsWith (.SetComp elt gs scope pos) (some (.Name y py)) l env = pure true := by
  have e1 : env.kindOf y = some .local := hy
  have e2 : env.blockKind = .function := by
    unfold Env.blockKind
    rw [hk]
    rfl
  unfold swapsWith
  simp only [e1, e2, ha, Expr.pos, hl]
  rfl
end
end Z
namespace Z
open PySem PySem.Spec PyProof.Rows L2

theorem passN {X : Cx} : Passes (L2.CX X.prog X.w) X (fun _ _ _ => False) := fun pins σ H s e s' I h => by
  obtain ⟨_, _, _, _, _, _, _, _, _, _, _, _, z⟩ := h
  exact False.elim z
section
variable {X : Cx}
/-! ### k in d, d a dict -/
def zDIn (neg : Bool) : R2 := fun x y H Q => ∃ a o, y = .ref a ∧ DGet H a x o ∧ Q (.bl (if neg = true then !o.isSome else o.isSome)) H
theorem op_zDIn (hu : X.A.units + 1 < cLine) : OpR X (compareOp .In) (zDIn false) := by
  intro pins s σ H x y v u Q I rx ry h
  obtain ⟨a, o, rfl, g, q⟩ := h
  obtain rfl : u = Value.ref a := ry
  exact d_in hu I g rx fun s2 I2 => ⟨.bl o.isSome, H, I2, rfl, q⟩
theorem op_zDNin (hu : X.A.units + 1 < cLine) : OpR X (compareOp .NotIn) (zDIn true) := by
  intro pins s σ H x y v u Q I rx ry h
  obtain ⟨a, o, rfl, g, q⟩ := h
  obtain rfl : u = Value.ref a := ry
  exact d_notIn hu I g rx fun s2 I2 => ⟨.bl (!o.isSome), H, I2, rfl, q⟩

/-! ### == and in of own instances -/
variable {n : Nat} {C f : Addr} {sp : Sp}
/-- one == other, both instances of the class at C -/
def zEqO (C : Addr) (sp : Sp) : R2 := fun x y H Q => ∃ a b dx dy fs gs, x = .ref a ∧ y = .ref b ∧ H a = some (.ins C dx fs) ∧ H b = some (.ins C dy gs) ∧
  sp [x, y] H (fun v H1 => ∃ c, v = .bl c ∧ Q v H1) fun _ _ _ => False
theorem op_zEqO (F : FnR X.prog X.w X.K X.mg X.base (L2.CX X.prog X.w) n f sp) (hs : PySem.W.findIn X.K (.ref C) "__eq__" = some (some (.ref f))) (hf : PySem.W.isFn X.K (.ref f) = true) (hr : Room n X.A) :
    OpR X (compareOp .Eq) (zEqO C sp) := by
  intro pins s σ H x y v u Q I rx ry h
  obtain ⟨a, b, dx, dy, fs, gs, rfl, rfl, ha, hb, h⟩ := h
  obtain rfl : v = Value.ref a := rx
  obtain rfl : u = Value.ref b := ry
  obtain ⟨mA, J1, _⟩ := ins_get I.hok ha
  obtain ⟨mB, J2, _⟩ := ins_get I.hok hb
  obtain ⟨od1, J1, _⟩ := J1.look
  obtain ⟨od2, J2, _⟩ := J2.look
  obtain ⟨m, hF⟩ := I.fr
  show wpAny (model X.prog X.w) X.A (richCompare .Eq (.ref a) (.ref b)) (EP X pins σ Q) X.xe s
  refine PySem.W.cmp_K (op := .Eq) (tb := .ref C) hr.units0 hF I.ok.mod.kin J1 J2.type (by simp [PySem.W.notFirst]) hs hf ?_
  refine thn (wpAny_call (run_fnR (us := [.ref a, .ref b]) (vs := [.ref a, .ref b]) F hr passN I (.cons rfl (.cons rfl .nil)) h)) ?_
  rintro w s2 ⟨z, H2, I2, rz, c, rfl, q⟩
  obtain rfl : w = Value.bool c := rz
  exact ⟨.bl c, H2, I2, rfl, q⟩
/-- x in o, o an instance of the class at C -/
def zInO (C : Addr) (sp : Sp) : R2 := fun x y H Q => ∃ b dy gs, y = .ref b ∧ H b = some (.ins C dy gs) ∧ sp [y, x] H (fun v H1 => ∃ c, v = .bl c ∧ Q v H1) fun _ _ _ => False
theorem op_zInO (F : FnR X.prog X.w X.K X.mg X.base (L2.CX X.prog X.w) n f sp) (hs : PySem.W.findIn X.K (.ref C) "__contains__" = some (some (.ref f))) (hf : PySem.W.isFn X.K (.ref f) = true) (hr : Room n X.A) :
    OpR X (compareOp .In) (zInO C sp) := by
  intro pins s σ H x y v u Q I rx ry h
  obtain ⟨b, dy, gs, rfl, hb, h⟩ := h
  obtain rfl : u = Value.ref b := ry
  obtain ⟨mB, J2, _⟩ := ins_get I.hok hb
  obtain ⟨od2, J2, _⟩ := J2.look
  obtain ⟨m, hF⟩ := I.fr
  refine PySem.W.in_K hF I.ok.mod.kin J2 hs hf ?_
  refine thn (wpAny_call (run_fnR (us := [.ref b, v]) (vs := [.ref b, x]) F hr passN I (.cons rfl (.cons rx .nil)) h)) ?_
  rintro w s2 ⟨z, H2, I2, rz, c, rfl, q⟩
  obtain rfl : w = Value.bool c := rz
  exact wpAny_pure ⟨.bl c, H2, I2, rfl, q⟩

/-! ### C(*xs), C in a local name -/
variable {k i : Nat} {x : Str} {e : Expr} {te : TE} {p pos sp_ : Pos} {E : XK}
def zNewL (K : PySem.W.Frag) (i : Nat) (C : Addr) (sp : Sp) (E : XK) (te : TE) : TE := fun σ H Q => σ[i]? = some (some (.ref C)) ∧ te σ H fun y H1 => ∃ a xs, y = .ref a ∧ (SqT K H1 a xs ∨ SqL K H1 a xs) ∧
  ∀ o dx, H1 o = none → H1 dx = none → dx ≠ o → sp (.ref o :: xs) (upd (upd H1 dx (.own o)) o (.ins C dx [])) (fun v H2 => v = .non ∧ Q (.ref o) H2) E
theorem pe_zNewL (M : Mk X.K C f) (F : FnR X.prog X.w X.K X.mg X.base (L2.CX X.prog X.w) k f sp) (hr : Room (k + 1) X.A) (hN : X.N[i]? = some x) (hv : Vis X.env.scope x) (hx : Passes (L2.CX X.prog X.w) X E) (he : PE X e te)
    (hdb : (x == ("__debug__" : Str)) = false := by decide) (hcd : (x == ("__classdict__" : Str)) = false := by decide) (hst : starEach [.Starred e sp_] X.env = [(true, eval e X.env)] := by rfl) :
    PE X (.Call (.Name x p) [.Starred e sp_] [] pos) (zNewL X.K i C sp E te) := by
  constructor
  intro pins s σ H Q I h
  obtain ⟨hs, ht⟩ := h
  refine wpAny_Call_Name_kw (thn ((pe_var (pos := p) hN hv hdb hcd).run pins s σ H (fun v H1 => v = .ref C ∧ H1 = H) I ⟨.ref C, hs, rfl, rfl⟩) ?_)
  rintro u s1 ⟨v, H1, I1, r1, rfl, rfl⟩
  cases r1
  refine PySem.W.callWith_S (h₀ := X.base) I.ok.mod.kin M.kp (thn (he.run pins s1 σ _ _ I1 ht) ?_) hst
  rintro w s2 ⟨y, H2, I2, ry, a, xs, rfl, hxs, q⟩
  obtain rfl : w = Value.ref a := ry
  exact StX.star_any I2 hxs fun us s3 I3 rv => ⟨I3.kIn, StX.run_makeR M F hr hx I3 rv q⟩

/-! ### isinstance of an own instance -/
structure CIns (K : PySem.W.Frag) (C : Addr) : Prop where
  cl : Cls K C
  ha : PySem.W.findIn K (.ref C) "__class__" = some (some (.builtin "object.__class__"))
  hn : PySem.W.specialIn K (.builtin "object.__class__") "__get__" = some (some (.builtin "getset_descriptor.__get__"))
  ht : PySem.W.takesIn K (.builtin "object.__class__") = some true
  hm : PySem.W.mroIn K C (.type "object") = some true
theorem isi_own {K : PySem.W.Frag} {C : Addr} {H : Hp} {Q : VK} {a dx : Addr} {fs : List (Str × V)} (c : CIns K C) (ea : H a = some (.ins C dx fs)) (q : Q (.bl true) H) : rIsi K [.ref a, .ref C] H Q :=
  ⟨_, _, .ref C, .ref C, true, rfl, .own C, .base (.ins ea c.cl c.ha c.hn c.ht c.hm), by simp [PySem.W.kitOne], q⟩
end
section
variable {X : Cx}
/-! ### tuple(x) -/
def zTupOf (K : PySem.W.Frag) : List V → Hp → VK → Prop := fun xs H Q => match xs with
  | [.ref p] => ∃ ys, (SqL K H p ys ∧ ∀ l, H l = none → Q (.ref l) (upd H l (.tup ys))) ∨ (SqT K H p ys ∧ Q (.ref p) H)
  | _ => False
theorem call_tupZ : CallR X (.type "tuple") (zTupOf X.K) := by
  intro pins s σ H xs us Q I r h
  unfold zTupOf at h
  split at h
  · obtain ⟨ys, h⟩ := h
    exact call_tuple_of pins s σ H _ us Q I r ⟨_, ys, rfl, h⟩
  · exact h.elim
end

/-! ### def f(a, *xs) -/
def spStar (n : Nat) (sp : Sp) : Sp := fun vs H Q E => ∃ ws rest, vs = ws ++ rest ∧ ws.length = n ∧ rest.length ≤ sizeLine ∧ ∀ p, H p = none → sp (ws ++ [.ref p]) (upd H p (.tup rest)) Q E
section
variable {P : Program} {w : World} {K : PySem.W.Frag} {mg : Str → Option Value} {base : Heap}
theorem okStar {x qual pv : Str} {st : Stmt} {f : Addr} {fd : FuncData} {N ps : List Str} {k : Nat} {sp : Sp} (F : Fun K x qual st f fd) (S : FnScope N (ps ++ [pv]) (defScope st))
    (hb : ∀ (kV doc pm : Value) (an : Option Addr) (cdv ct : Value) (us rest : List Value), us.length = ps.length →
      bindArgs (PySem.W.fnOf x qual (defArgs st) (defBody st) (defScope st) .none kV doc pm an cdv ct) ⟨us ++ rest, []⟩ = (newTuple rest >>= fun t => pure (ps.zip us ++ [(pv, t)])))
    (hbody : ∀ (cdv : Value) (A : Around) (outer : List Env) (s : Shared) (H : Hp) (vs : List V) (Q : VK) (E : XK),
      Room k (A.deeper (envOfC qual (defScope st) s.heap.objs.size f cdv)) → sp vs H Q E →
      ∃ t, PSs (cxOf (L2.CX P w) P w K mg base N qual (defScope st) f cdv A outer s H E) (defBody st) t ∧ t { nx := fun _ H' => Q .non H', rt := Q } (start N vs) H) :
    FnR P w K mg base (L2.CX P w) (k + 1) f (spStar ps.length sp) := by
  obtain ⟨oc, od, kV, doc, pm, an, cdv, ct, osl, rfl, lk, hcd⟩ := F.ex
  exact StX.fn_star (sp := sp) lk hcd S StX.cxUp (hb kV doc pm an cdv ct) fun A outer s H vs Q E hr hs => hbody cdv A outer s H vs Q E hr hs
end

/-- a set of keys over a walk -/
theorem sc_z {P : Program} {w : World} {J : It} {n : Nat} {G : Hp → Prop} {Y : Nat → Hp → V → Hp → Prop} (wk : Walk J n G Y) {g : TG} {tt : TT} {te : TE} {vs : List Nat} {σ : St} {H1 : Hp} {Q : VK} (Pv : Addr → Nat → Hp → Prop)
    (h0 : ∀ D, H1 D = none → Pv D 0 (upd H1 D (SetK P w D (fun _ => false) 0))) (hG : ∀ D i H, H1 D = none → i ≤ n → Pv D i H → G H)
    (hs : ∀ D i x H H', H1 D = none → i < n → Pv D i H → Y i H x H' → g x (wipe σ vs) H' fun σ2 H2 => wipe σ2 vs = wipe σ vs ∧ tt σ2 H2 fun b H3 =>
      if b = true then te σ2 H3 fun y H4 => rSAddK P w (.ref D) [y] H4 fun _ H5 => Pv D (i + 1) H5 else Pv D (i + 1) H3)
    (hd : ∀ D H, H1 D = none → Pv D n H → Q (.ref D) H) : scGo P w J g tt te vs σ H1 Q := by
  intro D hD
  refine ⟨fun i m H => m = n - i ∧ i ≤ n ∧ Pv D i H, ⟨n, by simp, Nat.zero_le _, h0 D hD⟩, ?_⟩
  rintro i m H ⟨rfl, hi, p⟩
  have q := hG D i H hD hi p
  rcases Nat.lt_or_ge i n with lt | ge
  · exact .inr ⟨wk.goes i H lt q, Pv D (i + 1), fun H' p' => ⟨n - (i + 1), by omega, rfl, lt, p'⟩, fun x H' y => hs D i x H H' hD lt p (wk.yields i H x H' lt q y)⟩
  · obtain rfl : i = n := Nat.le_antisymm hi ge
    exact .inl ⟨wk.stops H q, hd D H hD p⟩

theorem seq_of {a b : TS} {D : Ends} {σ : St} {H : Hp} (h : a { D with nx := b D } σ H) : tSeq a b D σ H := h
theorem ifS_of {t : TT} {a b : TS} {D : Ends} {σ : St} {H : Hp} (c : Bool) (ht : ∀ Q : Bool → Hp → Prop, Q c H → t σ H Q) (h1 : c = true → a D σ H) (h2 : c = false → b D σ H) : tIfS t a b D σ H := ht _ (zite h1 h2)
end Z
namespace Z
open PySem PySem.Spec PyProof.Rows L2
open AutoSeq1 (wpAny_loadPart')
open MeetsSeq

/-! ### x in a list, each question at its own state -/
section
variable {prog : Program} {w : World} {A : Around} {E : Value → Shared → Prop}
/-- at each turn the list is read anew; the items up to here were not it -/
def HasI (prog : Program) (w : World) (A : Around) (E : Value → Shared → Prop) (l : Addr) (x : Value) (N : Nat) (I : Nat → Shared → Prop) : Prop :=
  ∀ i s, I i s → ∃ (items : Array Value) (n : Nat), s.heap.get? l = some { cls := .type "list", data := .seq items n } ∧ items.size = N ∧
    ∀ h1 : i < items.size, wpAny (model prog w) A.in1 (eqBool items[i] x) (fun r s' => r = false ∧ I (i + 1) s') E s
theorem has_loop {R : Result → Shared → Prop} (l : Addr) (x : Value) (N : Nat) (I : Nat → Shared → Prop) (hl : HasI prog w A (fun e s' => R (.error e) s') l x N I) (fin : ∀ s, I N s → R (.ok (.ret (.bool false))) s) (k : Nat) :
    ∀ i : Nat, N - i = k → i ≤ N → ∀ s, I i s → wpAny (model prog w) A.in1 (Builtin.«list.__contains__.loop» ⟨[.ref l, x, rawInt i], []⟩) (GQ.FinOf prog w A R) (fun e s' => R (.error e) s') s := by
  induction k with
  | zero =>
    intro i hk hi s h
    obtain ⟨items, n, hg, hs, _⟩ := hl _ _ h
    obtain rfl : i = N := by omega
    have hR := fin s h
    obtain ⟨hp, g, d, tk, os⟩ := s
    wp_walk using wpAny_loadPart' hg
    have e1 : items[((i : Nat) : Int).toNat]? = none := by simp; omega
    rw [e1]
    wp_walk
    exact hR
  | succ k ih =>
    intro i hk hi s h
    obtain ⟨items, n, hg, hs, turn⟩ := hl _ _ h
    have lt : i < items.size := by omega
    have ht := turn lt
    obtain ⟨hp, g, d, tk, os⟩ := s
    wp_walk using wpAny_loadPart' hg
    have e1 : items[((i : Nat) : Int).toNat]? = some items[i] := by simp [lt]
    rw [e1]
    refine wpAny_bind (wpAny_mono ht ?_ fun _ _ z => z)
    rintro r s2 ⟨rfl, h2⟩
    have hrec := ih (i + 1) (by omega) (by omega) s2 h2
    obtain ⟨hp2, g2, d2, tk2, os2⟩ := s2
    have hc : ((i : Int) + 1) = ((i + 1 : Nat) : Int) := by omega
    wp_walk
    rw [hc]
    exact ⟨plainId_quiet plain_contains_loop _, codeAny_builtin entry_contains_loop (by
      rw [Around.under_plainId plain_contains_loop _]
      exact hrec)⟩
theorem in_none {l : Addr} {x : Value} {N : Nat} {s : Shared} {Q : Value → Shared → Prop} (I : Nat → Shared → Prop) (hl : HasI prog w A E l x N I) (h : I 0 s) (fin : ∀ s, I N s → Q (.bool false) s) :
    wpAny (model prog w) A (compareOp .In x (.ref l)) Q E s := by
  obtain ⟨items, n, hg, hs, _⟩ := hl _ _ h
  have hT : s.TypeIs (.ref l) "list" := ⟨_, hg, rfl⟩
  show wpAny _ A (do return .bool (← contains (.ref l) x)) Q E s
  refine wpAny_bind (wpAny_contains_slot hT F.slot_list_contains (wpAny_mono (GQ.call_here (Q := fun v s' => v = .bool false ∧ Q (.bool false) s') F.slot_list_contains hT F.entry_list_contains (F.args_list_contains_2 _ _) ?_) ?_ fun _ _ z => z))
  · have loop := has_loop (prog := prog) (w := w) (A := A) (R := wants (fun v s' => v = .bool false ∧ Q (.bool false) s') E) l x N I hl (fun s' h' => ⟨rfl, fin s' h'⟩) (N - 0) 0 rfl (Nat.zero_le _) s h
    obtain ⟨hp, g, d, tk, os⟩ := s
    wp_walk using wpAny_loadPart' hg
    exact ⟨plainId_quiet plain_contains_loop _, codeAny_builtin entry_contains_loop (by
      rw [Around.under_plainId plain_contains_loop _]
      exact loop)⟩
  · rintro v s' ⟨rfl, q⟩
    exact wpAny_truthy_bool (wpAny_pure q)
end
/-! ### == of another thing and an own instance -/
section
variable {prog : Program} {w : World} {A : Around} {E : Value → Shared → Prop} {s : Shared} {K : PySem.W.Frag} {x C f : Addr} {ox : Obj} {od : Option Obj} {v : Value} {T ida : String}
theorem rc_other {Q : Value → Shared → Prop} (hT : s.TypeIs v T) (slot : Slot T "__eq__" ida) (J : PySem.W.InstAt s.heap x ox C od) (X : K.In s.heap) (hsub : PySem.W.subIn K (.ref C) (.type T) = some false)
    (hs : PySem.W.findIn K (.ref C) "__eq__" = some (some (.ref f))) (hf : PySem.W.isFn K (.ref f) = true) (hu : A.units < cLine)
    (dec : ∀ Q' : Value → Shared → Prop, Q' .notImplemented s → wpAny (model prog w) A (call (.builtin ida) [v, .ref x]) Q' E s)
    (h : wpAny (model prog w) A (call (.ref f) [.ref x, v]) (PySem.W.CmpBack Q) E s) : wpAny (model prog w) A (richCompare .Eq v (.ref x)) Q E s := by
  have one : wpAny (model prog w) A (tryCompare (.ref x) "__eq__" v) (fun r s' => ∃ u, r = some u ∧ Q u s') E s := by
    unfold tryCompare
    refine wpAny_bind (PySem.W.ifBound_K X J hs hf (wpAny_mono h (fun u s' hv => ?_) fun _ _ e => e))
    cases u <;> first | exact hv.elim | exact wpAny_pure ⟨_, rfl, hv⟩
  rcases hi : cmpInfo CmpOp.Eq with ⟨sym, f', r⟩
  have e1 : f' = "__eq__" := by cases hi; rfl
  have e2 : r = "__eq__" := by cases hi; rfl
  subst e1 e2
  simp only [richCompare, hi, hT.oneThing_none]
  try with_reducible refine wpAny_holding ?_
  refine wpAny_bind (wpAny_cRoomFor hu ?_)
  refine wpAny_bind (wpAny_typeOf hT (wpAny_bind (J.type.here ?_)))
  have ne : (Value.type T != Value.ref C) = true := by simp
  simp only [ne, if_true]
  refine wpAny_bind ((PySem.W.looks_subIn X hsub).here ?_)
  simp only [Bool.false_eq_true, if_false, Bool.not_false, if_true]
  refine wpAny_bind (m := tryCompare v _ (.ref x)) (wpAny_tryCompare_declines hT slot (dec _ ⟨rfl, ?_⟩))
  refine wpAny_bind (wpAny_mono one (fun r s' z => ?_) fun _ _ e => e)
  obtain ⟨u, rfl, q⟩ := z
  exact wpAny_pure q
end

section
variable {prog : Program} {w : World} {A : Around} {E : Value → Shared → Prop} {s : Shared} {x : Addr} {ox : Obj}
theorem dec_none {Q : Value → Shared → Prop} (h : Q .notImplemented s) : wpAny (model prog w) A (call (.builtin "NoneType.__eq__") [.none, .ref x]) Q E s :=
  call_gives F.slot_NoneType_eq rfl F.entry_NoneType_eq (F.args_NoneType_eq_2 _ _) (SeqAt.NoneType___eq___none_ref_0 x) h
theorem dec_str {z : Str} {t : Tok} {Q : Value → Shared → Prop} (hx : s.heap.get? x = some ox) (hd : ox.data = .plain) (h : Q .notImplemented s) : wpAny (model prog w) A (call (.builtin "str.__eq__") [.str z t, .ref x]) Q E s := by
  refine GQ.call_here F.slot_str_eq (typeIs_str s z t) F.entry_str_eq (F.args_str_eq_2 _ _) ?_
  obtain ⟨cls, dd, data, sl⟩ := ox
  simp only at hd
  subst hd
  obtain ⟨hp, g, d, tk, os⟩ := s
  wp_walk using wpAny_load hx
  exact h
theorem dec_list {l : Addr} {items : Array Value} {n : Nat} {Q : Value → Shared → Prop} (hl : s.heap.get? l = some { cls := .type "list", data := .seq items n })
    (hi : ∀ (A' : Around) (Q' : Bool → Shared → Prop) (E' : Value → Shared → Prop), Q' false s → wpAny (model prog w) A' (isInstance (.ref x) (.type "list")) Q' E' s) (h : Q .notImplemented s) :
    wpAny (model prog w) A (call (.builtin "list.__eq__") [.ref l, .ref x]) Q E s := by
  refine GQ.call_here F.slot_list_eq ⟨_, hl, rfl⟩ F.entry_list_eq (F.args_list_eq_2 _ _) ?_
  obtain ⟨hp, g, d, tk, os⟩ := s
  have hi' : ∀ {A' : Around} {Q' : Bool → Shared → Prop} {E' : Value → Shared → Prop}, Q' false ⟨hp, g, d, tk, os⟩ → wpAny (model prog w) A' (isInstance (.ref x) (.type "list")) Q' E' ⟨hp, g, d, tk, os⟩ := fun q => hi _ _ _ q
  wp_walk using wpAny_loadPart' hl, hi'
  exact h
theorem dec_tuple {l : Addr} {items : Array Value} {n : Nat} {dd : Option Addr} {sl : Array (Option Value)} {Q : Value → Shared → Prop} (hl : s.heap.get? l = some { cls := .type "tuple", dict := dd, data := .seq items n, slots := sl })
    (hi : ∀ (A' : Around) (Q' : Bool → Shared → Prop) (E' : Value → Shared → Prop), Q' false s → wpAny (model prog w) A' (isInstance (.ref x) (.type "tuple")) Q' E' s) (h : Q .notImplemented s) :
    wpAny (model prog w) A (call (.builtin "tuple.__eq__") [.ref l, .ref x]) Q E s := by
  refine GQ.call_here F.slot_tuple_eq ⟨_, hl, rfl⟩ F.entry_tuple_eq (F.args_tuple_eq_2 _ _) ?_
  obtain ⟨hp, g, d, tk, os⟩ := s
  have hi' : ∀ {A' : Around} {Q' : Bool → Shared → Prop} {E' : Value → Shared → Prop}, Q' false ⟨hp, g, d, tk, os⟩ → wpAny (model prog w) A' (isInstance (.ref x) (.type "tuple")) Q' E' ⟨hp, g, d, tk, os⟩ := fun q => hi _ _ _ q
  wp_walk using wpAny_loadPart' hl, hi'
  exact h
end

theorem eqBool_of {prog : Program} {w : World} {A : Around} {E : Value → Shared → Prop} {s : Shared} {u : Value} {x : Addr} {Q : Bool → Shared → Prop} (hu : u = .none ∨ (∃ z t, u = .str z t) ∨ ∃ b, u = .ref b ∧ b ≠ x)
    (h : wpAny (model prog w) A (richCompare .Eq u (.ref x)) (fun v s' => ∃ r, v = .bool r ∧ Q r s') E s) : wpAny (model prog w) A (eqBool u (.ref x)) Q E s := by
  have fin : ∀ v s', (∃ r, v = .bool r ∧ Q r s') → wpAny (model prog w) A (truthOfDropped v) Q E s' := by
    rintro v s' ⟨r, rfl, q⟩
    exact wpAny_truthy_bool q
  rcases hu with rfl | ⟨z, t, rfl⟩ | ⟨b, rfl, hb⟩
  · unfold eqBool
    refine wpAny_holding (wpAny_ite_split (fun e => ?_) fun _ => wpAny_bind (wpAny_mono h fin fun _ _ z => z))
    exact absurd (eq_of_beq e) (fun z => by cases z)
  · unfold eqBool
    refine wpAny_holding (wpAny_ite_split (fun e => ?_) fun _ => wpAny_bind (wpAny_mono h fin fun _ _ z => z))
    exact absurd (eq_of_beq e) (fun z => by cases z)
  · unfold eqBool
    refine wpAny_holding (wpAny_ite_split (fun e => ?_) fun _ => wpAny_bind (wpAny_mono h fin fun _ _ z => z))
    exact absurd (eq_of_beq e) (fun z => by cases z; exact hb rfl)
/-- None, a text, a list, a tuple -/
def Oth (K : PySem.W.Frag) (H : Hp) (v : V) : Prop := v = .non ∨ (∃ z, v = .str z) ∨ (∃ b ys, v = .ref b ∧ H b = some (.lst ys)) ∨ ∃ b ys, v = .ref b ∧ SqT K H b ys
structure OwnNe (K : PySem.W.Frag) (C f : Addr) : Prop where
  none : PySem.W.subIn K (.ref C) (.type "NoneType") = some false
  str : PySem.W.subIn K (.ref C) (.type "str") = some false
  list : PySem.W.subIn K (.ref C) (.type "list") = some false
  tup : PySem.W.subIn K (.ref C) (.type "tuple") = some false
  at_ : PySem.W.findIn K (.ref C) "__eq__" = some (some (.ref f))
  fn : PySem.W.isFn K (.ref f) = true
def zInL (K : PySem.W.Frag) (C : Addr) (sp : Sp) : R2 := fun x y H Q => ∃ a dx fs l xs, x = .ref a ∧ y = .ref l ∧ H a = some (.ins C dx fs) ∧ H l = some (.lst xs) ∧
  (∀ v ∈ xs, Oth K H v ∧ ∀ H', Same H H' → sp [.ref a, v] H' (fun r H2 => r = .bl false ∧ Same H' H2) fun _ _ _ => False) ∧ ∀ H', Same H H' → Q (.bl false) H'
section
variable {X : Cx} {n : Nat} {C f : Addr} {sp : Sp}
theorem op_zInL (F : FnR X.prog X.w X.K X.mg X.base (L2.CX X.prog X.w) n f sp) (o : OwnNe X.K C f) (hr : Room (n + 1) X.A) : OpR X (compareOp .In) (zInL X.K C sp) := by
  intro pins s σ H x y v u Q I rx ry h
  obtain ⟨a, dx, fs, l, xs, rfl, rfl, ha, hl, hv, q⟩ := h
  obtain rfl : v = Value.ref a := rx
  obtain rfl : u = Value.ref l := ry
  refine in_none (N := xs.length) (fun i s' => ∃ H', Inv X pins σ H' s' ∧ Same H H') ?_ ⟨H, I, Same.refl H⟩ ?_
  · rintro i s1 ⟨H1, I1, z1⟩
    obtain ⟨_, its, m, rv, ln, hg⟩ := I1.lstM (z1 _ _ hl)
    refine ⟨its.toArray, m, hg, by simp [ln], fun h1 => ?_⟩
    have k1 : i < xs.length := by
      rw [ln]
      simpa using h1
    obtain ⟨u, hu, ru⟩ := rv.get (List.getElem?_eq_getElem k1)
    have eu : its.toArray[i] = u := by
      have h1' : i < its.length := by simpa using h1
      rw [List.getElem?_eq_getElem h1'] at hu
      simpa using Option.some.inj hu
    rw [eu]
    obtain ⟨ot, sp1⟩ := hv _ (List.getElem_mem k1)
    have ha1 := z1 _ _ ha
    obtain ⟨ox, od, J, hp⟩ := StX.insC_at I1 (.inr ⟨dx, fs, ha1⟩)
    have room : Room n X.A.in1 := hr.in1
    have hun : X.A.in1.units < cLine := room.units0
    -- the question itself
    have ask : ∀ Q' : Value → Shared → Prop, (∀ s2 H2, Inv X pins σ H2 s2 → Same H H2 → Q' (.bool false) s2) → wpAny (model X.prog X.w) X.A.in1 (call (.ref f) [.ref a, u]) (PySem.W.CmpBack Q') X.xe s1 := by
      intro Q' hQ
      have e := I1.env0
      have e0 : Env0 X.prog X.w X.K X.mg X.base X.A.in1 X.stack s1 H1 := ⟨e.frames, e.mod, e.bs, e.bsz, e.funs, e.frf, e.hok, e.bare⟩
      refine wpAny_call (codeAny_mono (F X.A.in1 X.stack s1 H1 [.ref a, u] [.ref a, xs[i]] _ _ room e0 (.cons (show RelV (.ref a) (.ref a) from rfl) (.cons ru .nil)) (sp1 H1 z1)) fun r s2 hq => ?_)
      rcases r with er | fl
      · exact passN pins σ H1 s1 er s2 I1 hq
      · cases fl with
        | ret w =>
          obtain ⟨z, H2, I2, rz, ez, z2⟩ := I1.after hq
          subst ez
          obtain rfl : w = Value.bool false := rz
          exact hQ s2 H2 I2 (z1.trans z2)
        | next => exact hq.elim
        | brk => exact hq.elim
        | cont => exact hq.elim
    have inst : ∀ T : String, PySem.W.subIn X.K (.ref C) (.type T) = some false → ∀ (A' : Around) (Q' : Bool → Shared → Prop) (E' : Value → Shared → Prop), Q' false s1 → wpAny (model X.prog X.w) A' (isInstance (.ref a) (.type T)) Q' E' s1 := by
      intro T hT A' Q' E' q'
      simp only [isInstance]
      exact wpAny_bind (J.type.here ((PySem.W.looks_subIn I1.kIn hT).here q'))
    have back : ∀ s2 H2, Inv X pins σ H2 s2 → Same H H2 → ∃ r, Value.bool false = .bool r ∧ r = false ∧ ∃ H', Inv X pins σ H' s2 ∧ Same H H' := fun s2 H2 I2 z2 => ⟨false, rfl, rfl, H2, I2, z2⟩
    generalize xs[i] = v at ot sp1 ru
    rcases ot with rfl | ⟨z, rfl⟩ | ⟨b, ys, rfl, hb⟩ | ⟨b, ys, rfl, hb⟩
    · obtain rfl : u = Value.none := ru
      exact eqBool_of (.inl rfl) (rc_other (T := "NoneType") rfl PySem.F.slot_NoneType_eq J I1.kIn o.none o.at_ o.fn hun (fun Q' q' => dec_none q') (ask _ back))
    · obtain ⟨t, rfl⟩ := ru
      exact eqBool_of (.inr (.inl ⟨_, _, rfl⟩)) (rc_other (T := "str") rfl PySem.F.slot_str_eq J I1.kIn o.str o.at_ o.fn hun (fun Q' q' => dec_str J.at_ hp q') (ask _ back))
    · obtain rfl : u = Value.ref b := ru
      have hb1 := z1 _ _ hb
      obtain ⟨_, its2, m2, _, _, hg2⟩ := I1.lstM hb1
      have ne : b ≠ a := fun z => by rw [z, ha1] at hb1; cases hb1
      exact eqBool_of (.inr (.inr ⟨_, rfl, ne⟩)) (rc_other (T := "list") ⟨_, hg2, rfl⟩ PySem.F.slot_list_eq J I1.kIn o.list o.at_ o.fn hun (fun Q' q' => dec_list hg2 (inst "list" o.list) q') (ask _ back))
    · obtain rfl : u = Value.ref b := ru
      obtain ⟨its2, _, p2, _⟩ := I1.tuple (show SqT X.K H1 b ys from by
        rcases hb with (h | ⟨o, h⟩) | h
        · exact .inl (.inl (z1 _ _ h))
        · exact .inl (.inr ⟨o, z1 _ _ h⟩)
        · exact .inr h)
      obtain ⟨ob, e1, c1, m2, d1⟩ := p2
      obtain ⟨cls, dd, data, sl⟩ := ob
      simp only at c1 d1
      subst c1 d1
      have ne : b ≠ a := fun z => by
        rw [z, J.at_] at e1
        cases e1
        have := J.cls
        cases this
      exact eqBool_of (.inr (.inr ⟨_, rfl, ne⟩)) (rc_other (T := "tuple") ⟨_, e1, rfl⟩ PySem.F.slot_tuple_eq J I1.kIn o.tup o.at_ o.fn hun (fun Q' q' => dec_tuple e1 (inst "tuple" o.tup) q') (ask _ back))
  · rintro s2 ⟨H2, I2, z2⟩
    exact ⟨.bl false, H2, I2, rfl, q H2 z2⟩
end

/-! ### C() of a class whose __init__ takes any number; str(int) -/
theorem pe_zMakeR0 {X : Cx} {k : Nat} {f C : Addr} {sp : Sp} {E : XK} {x : Str} {p pos : Pos} (M : Mk X.K C f) (F : FnR X.prog X.w X.K X.mg X.base (L2.CX X.prog X.w) k f sp) (hr : Room (k + 1) X.A) (hg : Gl X x) (hm : X.mg x = some (.ref C))
    (hx : Passes (L2.CX X.prog X.w) X E) (hdb : (x == ("__debug__" : Str)) = false := by decide) : PE X (.Call (.Name x p) [] [] pos) (StX.tMakeR C sp E tNil) := by
  constructor
  intro pins s σ H Q I h
  refine wpAny_Call_Name_kw (ld_glob I hg hm ?_ hdb)
  exact PySem.W.callWith_K0 I.kIn M.kp (StX.run_makeR (us := []) M F hr hx I .nil h)
def rStrI : List V → Hp → VK → Prop := fun xs H Q => ∃ i : Int, xs = [.int i] ∧ i.natAbs.log2 < 1920 ∧ Q (.str (toString i)) H
theorem call_strZ {X : Cx} : CallR X (.type "str") rStrI := call_str_int
end Z
namespace Z
open PySem PySem.Spec PyProof.Rows L2
/-! ### C.m(..), m a staticmethod of the class C -/
structure SMet (K : PySem.W.Frag) (C : Addr) (mc : Value) (m : Str) (p g : Addr) : Prop where
  at_ : PySem.W.findCls K (.ref C) mc m = some (.get (.builtin "staticmethod.__get__") (.ref p) .none (.ref C))
  rc : ∃ rest, PySem.W.recIn K p "staticmethod" = some (.ref g :: rest)
  kp : PySem.W.keepIn K (.ref g) = true
def tSMeth (C : Addr) (sp : Sp) (E : XK) (ta : TE) (t : TA) : TE := fun σ H Q => ta σ H fun x H1 => x = .ref C ∧ t σ H1 fun vs H2 => sp vs H2 Q E
section
variable {X : Cx} {CX : CXT} {k : Nat} {C p g : Addr} {mc : Value} {sp : Sp} {E : XK} {o e : Expr} {es : List Expr} {m : Str} {pos apos : Pos} {ta : TE} {t : TA} {pl : Sem Bool}
theorem pe_smeth (he : PE X o ta) (r : ClX.CRead X.K C mc) (c : SMet X.K C mc m p g) (F : FnR X.prog X.w X.K X.mg X.base CX k g sp) (hr : Room k X.A) (hx : Passes CX X E) (ha : PA X (e :: es) t)
    (hst : starEach (e :: es) X.env = (false, eval e X.env) :: starEach es X.env := by rfl) (hpl : (backTo pos (starEach es X.env)).any (·.1) = false := by rfl)
    (ht : eval (.Call (.Attribute o m apos) (e :: es) [] pos) X.env = (do
      let ov ← eval o X.env
      standAt apos.atName
      let (f, first) ← holding [ov] (getMethod ov m pl)
      callWith pos f first (backTo pos (starEach (e :: es) X.env)) (backToKw pos (keywordEach [] X.env))) := by rfl) :
    PE X (.Call (.Attribute o m apos) (e :: es) [] pos) (tSMeth C sp E ta t) := by
  refine ⟨fun pins s σ H Q I h => ?_⟩
  refine PySem.W.methodCall_KW (pl := pl) (thn (he.run pins s σ H _ I h) fun u s1 ⟨x, H1, I1, rx, ex, q⟩ => ?_) ht
  subst ex
  obtain rfl : u = Value.ref C := rx
  obtain ⟨rest, hp⟩ := c.rc
  refine PySem.W.method_cls I1.kIn r.ga (PySem.W.cls_bind I1.kIn r.rd c.at_ ?_)
  refine wpAny_call (PySem.W.sm_get (s := { s1 with toks := s1.toks + 1 }) (show X.K.In s1.heap from I1.kIn) hp (PySem.W.handed_on rfl ?_))
  have I2 := I1.tok (t := s1.toks + 1)
  refine PySem.W.callWith_K (h₀ := X.base) I2.ok.mod.kin c.kp (thn (ha.run pos pins _ σ H1 _ I2 q) ?_) hst hpl
  rintro us s3 ⟨vs, H2, I3, rv, q2⟩
  exact ⟨I3.kIn, wpAny_call (run_fnR (us := us) (vs := vs) F hr hx I3 rv q2)⟩
end
/-! ### int of a text, a cut of a text -/
def rIntS : List V → Hp → VK → Prop := fun xs H Q => match xs with
  | [.str a] => ∃ n, PySem.intText? a = some n ∧ a.length ≤ 640 ∧ Q (.int n) H
  | xs => rInt1 xs H Q
theorem call_intS {X : Cx} : CallR X (.type "int") rIntS := by
  intro pins s σ H xs us Q I r h
  unfold rIntS at h
  split at h
  · obtain ⟨n, h1, h2, q⟩ := h
    exact call_int_str pins s σ H _ us Q I r ⟨_, n, rfl, h1, h2, q⟩
  · exact call_intZ pins s σ H _ us Q I r h
end Z
namespace Z
open PySem PySem.Spec PyProof.Rows L2
/-! ### an exception as a thing that is tracked -/
def ExV (cls : Value) (d : Option Addr) (a : Addr) : HO := .ext fun h => ∃ (oe : Obj) (vs : Array Value), h.get? a = some oe ∧ Zc cls d oe ∧ oe.data = .fields vs
theorem exV_ok {P : Program} {w : World} {H : Hp} {h : Heap} {a : Addr} {cls : Value} {d : Option Addr} {oe : Obj} (e : h.get? a = some oe) (z : Zc cls d oe) (f : ∃ vs, oe.data = .fields vs) : ObjOk P w H h a (ExV cls d a) := by
  obtain ⟨vs, f⟩ := f
  exact ⟨⟨oe, vs, e, z, f⟩, ⟨oe, e⟩, fun _ _ ⟨o, v, q, r⟩ k => ⟨o, v, k o q, r⟩⟩
section
variable {X : Cx} {pins : List (Addr × Obj)} {σ : St} {H : Hp} {s : Shared} {a : Addr} {o : HO}
/-- what stands there, new since the entry, is tracked from now on -/
theorem track (I : Inv X pins σ H s) (hn : H a = none) (hc : ∃ ob vs, s.heap.get? a = some ob ∧ ob.data = .fields vs) (n0 : ∀ ob, X.s_0.heap.get? a = some ob → a ∉ X.ex → False) (nL : a ≠ X.env.locals)
    (np : ∀ p ∈ X.pn ++ pins, p.1 ≠ a) (new : ObjOk X.prog X.w (upd H a o) s.heap a o) : Inv X pins σ (upd H a o) s := by
  have ne : ∀ {b : Addr} {u : HO}, H b = some u → b ≠ a := fun e z => by rw [z, hn] at e; cases e
  have up : ∀ {b : Addr} {u : HO}, H b = some u → upd H a o b = some u := fun e => by rw [upd_ne (ne e)]; exact e
  have B := I.base
  refine ⟨I.ok, I.os, I.bare, ⟨B.keep, B.slot, ?_, B.there, ?_, ?_, ?_⟩, I.loc, I.cell, ?_, ?_, ?_, ?_, I.len⟩
  · intro b ob e n hx
    have nb : b ≠ a := fun z => n0 ob (z ▸ e) (z ▸ hx)
    rw [upd_ne nb]
    exact B.free b ob e n hx
  · intro b xs e
    exact up (B.tups b xs e)
  · intro b ob u e
    exact up (B.frzs b ob u e)
  · intro b ps e
    obtain ⟨m, q⟩ := B.tbls b ps e
    exact ⟨m, up q⟩
  · rw [upd_ne nL.symm]
    exact I.free
  · intro x c e
    have nc : c ≠ a := fun z => by
      obtain ⟨v, ob, e1, d1⟩ := I.cell x c e
      obtain ⟨ob2, vs, e2, d2⟩ := hc
      rw [z, e2] at e1
      cases e1
      rw [d2] at d1
      cases d1
    rw [upd_ne nc]
    exact I.freeC x c e
  · intro p hp
    obtain ⟨e, n, r⟩ := I.pin p hp
    exact ⟨e, by rw [upd_ne (np p hp)]; exact n, r⟩
  · intro b u e
    by_cases hb : b = a
    · subst hb
      rw [upd_same] at e
      cases e
      exact new
    · rw [upd_ne hb] at e
      exact (I.hok b u e).stay (fun _ _ _ q => q) (fun _ q => up q) fun _ _ q => up q
end
/-! ### its fields, its class -/
structure ExT (K : PySem.W.Frag) (C : Addr) : Prop where
  xf : XfC K C
  cl : (PySem.W.clsIn K C).isSome = true
  ha : PySem.W.findIn K (.ref C) "__class__" = some (some (.builtin "object.__class__"))
  hn : PySem.W.specialIn K (.builtin "object.__class__") "__get__" = some (some (.builtin "getset_descriptor.__get__"))
  ht : PySem.W.takesIn K (.builtin "object.__class__") = some true
  hm : PySem.W.mroIn K C (.type "object") = some true
/-- an exception of the class at C with these fields -/
def ExA (H : Hp) (a C : Addr) (fs : List (Str × V)) : Prop := ∃ dd, H a = some (ExV (.ref C) (some dd) a) ∧ H dd = some (.xd fs)
theorem ExA.same {H H' : Hp} {a C : Addr} {fs : List (Str × V)} (s : Same H H') (h : ExA H a C fs) : ExA H' a C fs := by
  obtain ⟨dd, h1, h2⟩ := h
  exact ⟨dd, s _ _ h1, s _ _ h2⟩
def tXv (C : Addr) (f : Str) (te : TE) : TE := fun σ H Q => te σ H fun x H1 => ∃ (a : Addr) (fs : List (Str × V)) (v : V), x = .ref a ∧ ExA H1 a C fs ∧ fs.lookup f = some v ∧ Q v H1
/-- isinstance(e, c) -/
def rIsV (K : PySem.W.Frag) : List V → Hp → VK → Prop := fun xs H Q => ∃ (a C : Addr) (fs : List (Str × V)) (c : V) (u : Value) (b : Bool), xs = [.ref a, c] ∧ ExA H a C fs ∧ ExT K C ∧ ClsV c u ∧ PySem.W.kitOne K (.ref C) u = some b ∧ Q (.bl b) H
def rIsVT (K : PySem.W.Frag) : List V → Hp → VK → Prop := fun xs H Q => ∃ (a C tp : Addr) (fs : List (Str × V)) (cs : List V) (us : List Value) (b : Bool), xs = [.ref a, .ref tp] ∧ H tp = some (.tup cs) ∧ Paired ClsV cs us ∧ ExA H a C fs ∧ ExT K C ∧
  PySem.W.kitAny K (.ref C) us = some b ∧ Q (.bl b) H
section
variable {X : Cx}
theorem exa_at {pins : List (Addr × Obj)} {σ : St} {H : Hp} {s : Shared} {a C : Addr} {fs : List (Str × V)} (I : Inv X pins σ H s) (h : ExA H a C fs) :
    ∃ (oe od : Obj) (mA : Str → Option Value), PySem.W.InstAt s.heap a oe C (some od) ∧ (∀ f, PySem.W.lookIn f od = some (mA f)) ∧ ∀ f, RelO (fs.lookup f) (mA f) := by
  obtain ⟨dd, e1, e2⟩ := h
  obtain ⟨⟨oe, vs, ho, hz, hd⟩, _, _⟩ := I.hok a _ e1
  obtain ⟨mA, ns, rel⟩ := (show ObjOk X.prog X.w H s.heap dd (.xd fs) from I.hok dd _ e2)
  obtain ⟨od, h1, h2⟩ := lookIn_ns ns
  refine ⟨oe, od, mA, ⟨ho, hz.1, ?_, ?_⟩, h2, rel⟩
  · unfold PySem.W.notCls
    rw [hd]
  · rw [hz.2]
    exact h1
theorem pe_xv {C : Addr} {e : Expr} {te : TE} {pos : Pos} {n : Str} (T : ExT X.K C) (hno : PySem.W.findIn X.K (.ref C) n = some none) (he : PE X e te) (hb : attributeBase e n X.env (eval e X.env) = eval e X.env := by rfl) :
    PE X (.Attribute e n pos) (tXv C n te) := by
  constructor
  intro pins s σ H Q I h
  refine attr_of hb (thn (he.run pins s σ H _ I h) ?_)
  rintro u s1 ⟨x, H1, I1, rx, a, fs, v, rfl, ha, hl, q⟩
  obtain rfl : u = Value.ref a := rx
  obtain ⟨oe, od, mA, J, lk, rel⟩ := exa_at I1 ha
  obtain ⟨u, hu, ru⟩ := RelO.some_of (v := v) (o := mA n) (by rw [← hl]; exact rel n)
  exact HandSPX.exc_get I1.kIn J T.xf.ga T.xf.gg T.xf.exC (PySem.W.findObj_own T.xf.hdC hno rfl (by rw [lk, hu])) (handed_of ru) ⟨v, H1, I1.tok _, ru, q⟩
theorem call_isV : CallR X (.builtin "isinstance") (rIsV X.K) := by
  intro pins s σ H xs us Q I r h
  obtain ⟨a, C, fs, c, cv, b, rfl, ha, T, k, e, q⟩ := h
  obtain ⟨u1, u2, rfl, r1, r2⟩ := vals2 r
  have e2 := k.eq r2
  subst e2
  obtain rfl : u1 = Value.ref a := r1
  obtain ⟨oe, od, mA, J, _⟩ := exa_at I ha
  exact PySem.W.kia_one (PySem.W.kitx_exc T.cl T.xf.ga T.xf.gg T.xf.exC T.ha T.hn T.ht T.hm) I.kIn J e (fun z => nomatch z) fun tk => ⟨.bl b, H, I.tok tk, rfl, q⟩
theorem call_isVT : CallR X (.builtin "isinstance") (rIsVT X.K) := by
  intro pins s σ H xs us Q I r h
  obtain ⟨a, C, tp, fs, cs, ws, b, rfl, hT, k, ha, T, e, q⟩ := h
  obtain ⟨u1, u2, rfl, r1, r2⟩ := vals2 r
  obtain rfl : u1 = Value.ref a := r1
  obtain rfl : u2 = Value.ref tp := r2
  obtain ⟨oe, od, mA, J, _⟩ := exa_at I ha
  obtain ⟨_, its, rv, ⟨oc, od2, dt, sl⟩, h1, h2, n, h3⟩ := (show ObjOk X.prog X.w H s.heap tp (.tup cs) from I.hok tp _ hT)
  have e3 := ClsV.all k rv
  simp only at h2 h3
  subst e3 h2 h3
  exact PySem.W.kia_tup (PySem.W.kitx_exc T.cl T.xf.ga T.xf.gg T.xf.exC T.ha T.hn T.ht T.hm) I.kIn J h1 e (fun z => nomatch z) fun tk => ⟨.bl b, H, I.tok tk, rfl, q⟩
end
theorem kit_cls {K : PySem.W.Frag} {t : Value} {C : Addr} {b : Bool} (ne : (t == Value.ref C) = b) (hc : (PySem.W.clsIn K C).isSome = true) (ht : PySem.W.typeIn K (.ref C) = some (.type "type")) (hs : PySem.W.subIn K t (.ref C) = some b) : PySem.W.kitOne K t (.ref C) = some b := by
  unfold PySem.W.kitOne PySem.W.kitCls
  cases b with
  | true => rw [if_pos ne]
  | false =>
    rw [ne]
    simp [hc, ht, hs]
theorem kit_bt {K : PySem.W.Frag} {C : Addr} {T : String} {b : Bool} (hm : PySem.W.kitMeta T = true) (hs : PySem.W.subIn K (.ref C) (.type T) = some b) : PySem.W.kitOne K (.ref C) (.type T) = some b := by
  unfold PySem.W.kitOne PySem.W.kitCls
  rw [if_neg (by simp)]
  show (if PySem.W.kitMeta T = true then PySem.W.subIn K (.ref C) (.type T) else none) = some b
  rw [if_pos hm]
  exact hs
theorem kit_one {K : PySem.W.Frag} {t : Value} : PySem.W.kitOne K t t = some true := by
  unfold PySem.W.kitOne
  rw [if_pos (beq_self_eq_true _)]
theorem kit_ne {K : PySem.W.Frag} {D C : Addr} (h1 : PySem.W.subIn K (.ref D) (.ref D) = some true) (h2 : PySem.W.subIn K (.ref D) (.ref C) = some false) : (Value.ref D == Value.ref C) = false := by
  rw [beq_eq_false_iff_ne]
  intro e
  rw [← e, h1] at h2
  cases h2
/-! ### try: body / except x as n: suite, what is caught always of that class -/
def wAsV (K : PySem.W.Frag) (c : Value) (i : Nat) (ts : TS) (D : Ends) : WX := fun cls d σ H => PySem.W.exmOne K cls c = some true ∧
  ∀ a, H a = none → ts { nx := fun σ' H' => D.nx (σ'.set i none) H', rt := D.rt, bk := fun σ' H' => D.bk (σ'.set i none) H', ct := fun σ' H' => D.ct (σ'.set i none) H' } (σ.set i (some (.ref a))) (upd H a (ExV cls d a))
/-- the exception on the ground, its name still to be given -/
structure Gr (X : Cx) (pins : List (Addr × Obj)) (σ : St) (H : Hp) (cls : Value) (d : Option Addr) (a : Addr) (B : Heap) (s : Shared) : Prop where
  inv : Inv X pins σ H s
  fl : HandSPX.FlyingZ B (X.env :: X.outer) a (Zc cls d) s.heap
  new : H a = none
  n0 : ∀ ob, X.s_0.heap.get? a = some ob → a ∉ X.ex → False
  nL : a ≠ X.env.locals
  np : ∀ p ∈ X.pn ++ pins, p.1 ≠ a
theorem Gr.of {X : Cx} {pins : List (Addr × Obj)} {σ : St} {H : Hp} {cls : Value} {d : Option Addr} {a : Addr} {B : Heap} {sI s : Shared} (hs : X.stack = X.env :: X.outer) (hf : X.env.frame = some X.env.locals) (J : Inv X pins σ H sI)
    (nb : ∀ b o, sI.heap.get? b = some o → b ∉ frs X.stack → B.get? b = some o) (fl : HandSPX.FlyingZ B (X.env :: X.outer) a (Zc cls d) s.heap) (up : sI.heap.UpToSlots s.heap) (os : s.os = sI.os) (ag : AllBare s.gens) (na : H a = none) : Gr X pins σ H cls d a B s := by
  obtain ⟨oe, vs, he, hz, hd⟩ := fl.there
  have nfr : a ∉ frs (X.env :: X.outer) := fun hm => by
    obtain ⟨_, o2, e2, hn⟩ := fl.2.2.1.mem hm
    rw [he] at e2
    cases e2
    exact hn _ hd
  have gone : ∀ o, sI.heap.get? a = some o → False := fun o e => by
    have := nb a o e (by rw [hs]; exact nfr)
    rw [fl.2.1] at this
    cases this
  refine ⟨J.landed nb fl.1 up os ag, fl, na, fun ob e hx => ?_, fun z => ?_, fun p hp z => ?_⟩
  · obtain ⟨o2, q⟩ := J.base.there a ob e hx
    exact gone _ q
  · exact nfr (List.mem_filterMap.mpr ⟨X.env, List.mem_cons_self, by rw [hf, z]⟩)
  · obtain ⟨e, _⟩ := J.pin p hp
    rw [z] at e
    exact gone _ e
/-- into the suite, the exception tracked -/
theorem Gr.suite {X : Cx} {pins : List (Addr × Obj)} {σ : St} {H : Hp} {cls : Value} {d : Option Addr} {a : Addr} {B : Heap} {s : Shared} (G : Gr X pins σ H cls d a B s) : Inv (X.suite a (X.pn ++ pins)) [] σ (upd H a (ExV cls d a)) s := by
  obtain ⟨oe, vs, he, hz, hd⟩ := G.fl.there
  have T := track G.inv G.new ⟨oe, vs, he, hd⟩ G.n0 G.nL G.np (exV_ok he hz ⟨vs, hd⟩)
  exact ⟨T.ok.suite _ _, T.os, T.bare, T.base, T.loc, T.cell, T.free, T.freeC, fun p hp => T.pin p (by simpa using hp), T.hok, T.len⟩
theorem unsuite {X : Cx} {pins : List (Addr × Obj)} {σ : St} {H : Hp} {a : Addr} {s : Shared} (ok : X.Ok) (I : Inv (X.suite a (X.pn ++ pins)) [] σ H s) : Inv X pins σ H s :=
  ⟨ok, I.os, I.bare, I.base, I.loc, I.cell, I.free, I.freeC, fun p hp => I.pin p (by simpa using hp), I.hok, I.len⟩
section
variable {X : Cx} {x n : Str} {c : Value} {i : Nat} {body suite : List Stmt} {b₀ : Stmt} {np pos pos' : Pos} {tb : WX → TS} {ts : TS}
theorem ps_try_asV (hs : X.stack = X.env :: X.outer) (hf : X.env.frame = some X.env.locals) (hN : X.N.Nodup) (hi : X.N[i]? = some n) (hln : X.env.kindOf n = some .local) (hc : Names X x c)
    (hb : ∀ (W : WX) (pn : List (Addr × Obj)) (xe : Value → Shared → Prop), Takes (X.tr pn xe) W → PassesOwn (model X.prog X.w) X.A X.env xe → PSs (X.tr pn xe) body (tb W))
    (hsu : ∀ (a : Addr) (pn : List (Addr × Obj)), PSs (X.suite a pn) (b₀ :: suite) ts) :
    PS X (.Try body [.ExceptHandler (some (.Name x np)) (some n) (b₀ :: suite) pos'] [] [] pos) (fun D σ H => tb (wAsV X.K c i ts D) D σ H) := by
  constructor
  intro pins s σ H D I h
  have ok := I.ok
  -- behind the suite
  have out : ∀ (a : Addr) (f : Flow) (s6 : Shared), SP (X.suite a (X.pn ++ pins)) [] { nx := fun σ' H' => D.nx (σ'.set i none) H', rt := D.rt, bk := fun σ' H' => D.bk (σ'.set i none) H', ct := fun σ' H' => D.ct (σ'.set i none) H' } f s6 →
      wpAny (model X.prog X.w) X.A (do bindName X.env n .none; unbindBehindTheSuite X.env n pos') (fun _ s7 => SP X pins D f s7) X.xe s6 := by
    intro a f s6 q
    cases f with
    | next =>
      obtain ⟨σ6, H6, S6, q6⟩ := q
      exact gone_ok (unsuite ok S6) hN hi hln fun s7 J7 => ⟨_, _, J7, q6⟩
    | brk =>
      obtain ⟨σ6, H6, S6, q6⟩ := q
      exact gone_ok (unsuite ok S6) hN hi hln fun s7 J7 => ⟨_, _, J7, q6⟩
    | cont =>
      obtain ⟨σ6, H6, S6, q6⟩ := q
      exact gone_ok (unsuite ok S6) hN hi hln fun s7 J7 => ⟨_, _, J7, q6⟩
    | ret u =>
      obtain ⟨v6, σ6, H6, S6, r6, q6⟩ := q
      exact gone_ok (unsuite ok S6) hN hi hln fun s7 J7 => ⟨_, _, _, J7, r6, q6⟩
  -- behind the body
  have done : ∀ (f : Flow) (s1 : Shared), SP (X.tr (X.pn ++ pins) (fun e s₁ => wpAny (model X.prog X.w) X.A (noteFrame e X.env) (fun _ s₂ => wpAny (model X.prog X.w) X.A (setFlight e none) (fun _ s₃ =>
      wpAny (model X.prog X.w) X.A (handleBy e X.env [.ExceptHandler (some (.Name x np)) (some n) (b₀ :: suite) pos']) (SP X pins D) X.xe s₃) X.xe s₂) X.xe s₁)) [] D f s1 →
      (match f with | .next => wpAny (model X.prog X.w) X.A (execs [] X.env) (SP X pins D) X.xe s1 | f => SP X pins D f s1) := by
    intro f s1 q
    cases f with
    | next =>
      obtain ⟨σ2, H2, J2, q2⟩ := q
      exact wpAny_execs_nil ⟨σ2, H2, J2.ofTry ok, q2⟩
    | brk =>
      obtain ⟨σ2, H2, J2, q2⟩ := q
      exact ⟨σ2, H2, J2.ofTry ok, q2⟩
    | cont =>
      obtain ⟨σ2, H2, J2, q2⟩ := q
      exact ⟨σ2, H2, J2.ofTry ok, q2⟩
    | ret u =>
      obtain ⟨v, σ2, H2, J2, r, q2⟩ := q
      exact ⟨v, σ2, H2, J2.ofTry ok, r, q2⟩
  refine wpAny_Try_except (wpAny_mono ((hb (wAsV X.K c i ts D) (X.pn ++ pins) _ ?_ PassesOwn.looking).run [] s σ H D (I.toTry _) h) done fun _ _ q => q)
  rintro u s1 ⟨a, B, sI, pins2, σ1, H1, cls, d, rfl, J2, nb, up, sky, na, os, ag, hm, hy⟩
  have J := J2.ofTry (pins := pins) ok
  have frames : X.A.frames = some (X.env :: X.outer) := by rw [ok.frames, hs]
  refine Sky.land Zc.steady frames hf (show Sky B (X.env :: X.outer) a (Zc cls d) X.env.locals s1.heap by rw [← hs]; exact sky) fun h3 fl3 up3 => ?_
  have G3 : Gr X pins σ1 H1 cls d a B { s1 with heap := h3 } := Gr.of hs hf J nb fl3 (up.trans up3) os ag na
  have S3 := G3.suite
  obtain ⟨oe, vs, he, hz, _⟩ := fl3.there
  refine wpAny_handleBy_cons (codeAny_handlers_test ?_) (by intro q; cases q)
  have ty : PySem.W.Looks (model X.prog X.w) h3 (typeOf (.ref a)) cls := fun A Q E s k q => wpAny_typeOf_ref (k _ _ he) (by rw [hz.1]; exact q)
  have mt := PySem.W.exm_one (M := model X.prog X.w) G3.inv.kIn ty hm
  have nm : ∀ {Q E : Value → Shared → Prop}, Q c { s1 with heap := h3 } → wpAny (model X.prog X.w) (X.A.mark (some (.ref a))) (eval (.Name x np) X.env) Q E { s1 with heap := h3 } := by
    intro Q E q
    obtain ⟨hg, hd, h1 | ⟨h1, h2, h3⟩⟩ := hc
    · exact ld_glob (X := X.suite a (X.pn ++ pins)) S3 hg h1 q hd
    · exact ld_blt (X := X.suite a (X.pn ++ pins)) S3 hg h1 h2 q h3 hd
  refine nm (mt.here (codeAny_handlers_suite_as (HandSPX.lands_againZ fl3 fun h4 fl4 up4 => ?_)))
  have G4 : Gr X pins σ1 H1 cls d a B { s1 with heap := h4 } := Gr.of hs hf J nb fl4 ((up.trans up3).trans up4) os ag na
  refine store_ok (X := X.suite a (X.pn ++ pins)) (v := .ref a) G4.suite hN hi (.inl hln) rfl (fun s5 S5 => ?_) (.inr hln)
  exact wpAny_mono ((hsu a (X.pn ++ pins)).run [] s5 _ _ _ S5 (hy a na)) (fun f s6 q => out a f s6 q) fun _ _ z => z.elim
end
/-! ### exceptions out of C.m(..) and C(..), by the state of the slots -/
def tCMethS (C : Addr) (sp : Sp) (E : St → XK) (ta : TE) (t : TA) : TE := fun σ H Q => ClX.tCMeth C sp (E σ) ta t σ H Q
def tMakeRS (C : Addr) (sp : Sp) (E : St → XK) (t : TA) : TE := fun σ H Q => StX.tMakeR C sp (E σ) t σ H Q
section
variable {X : Cx} {gd : Bool} {k : Nat} {C f g p : Addr} {fd : FuncData} {ps : List Str} {mc : Value} {sp : Sp} {E : St → XK} {o e : Expr} {es : List Expr} {x m : Str} {pos apos np : Pos} {ta : TE} {t : TA} {pl : Sem Bool}
theorem pe_cmethS (he : PE X o ta) (r : ClX.CRead X.K C mc) (c : ClX.CMet X.K C mc m p g) (F : FnG gd X.prog X.w X.K X.mg X.base k g fd ps sp) (hr : Room k X.A) (hgu : gd = true → X.A.guards = some []) (hb : Binds X.K fd ps []) (hx : ∀ σ, PassesAt (L2.CX X.prog X.w) X σ (E σ)) (ha : PA X (e :: es) t)
    (hst : starEach (e :: es) X.env = (false, eval e X.env) :: starEach es X.env := by rfl) (hpl : (backTo pos (starEach es X.env)).any (·.1) = false := by rfl)
    (ht : eval (.Call (.Attribute o m apos) (e :: es) [] pos) X.env = (do
      let ov ← eval o X.env
      standAt apos.atName
      let (f, first) ← holding [ov] (getMethod ov m pl)
      callWith pos f first (backTo pos (starEach (e :: es) X.env)) (backToKw pos (keywordEach [] X.env))) := by rfl) :
    PE X (.Call (.Attribute o m apos) (e :: es) [] pos) (tCMethS C sp E ta t) := by
  constructor
  intro pins s σ H Q I h
  refine PySem.W.methodCall_KW (pl := pl) (thn (he.run pins s σ H _ I h) ?_) ht
  rintro u s1 ⟨z, H1, I1, rz, rfl, q⟩
  obtain rfl : u = Value.ref C := rz
  refine ClX.getmethcm_ok I1 r c fun s2 I2 => ClX.callwith_cm I2 (ClX.base_none I1 (Nat.le_refl _)) c.fi (thn (ha.run pos _ s2 σ H1 _ I2 q) ?_) hst hpl
  rintro us s3 ⟨vs, H2, I3, rv, q2⟩
  have rc : Vals (V.ref C :: vs) (Value.ref C :: us) := .cons rfl rv
  have hl : (Value.ref C :: us).length = ps.length := rc.length.symm.trans (F.len _ _ _ _ q2)
  have z : wpAny (model X.prog X.w) X.A (call (.ref s1.heap.objs.size) us) (EP X ((s1.heap.objs.size, PySem.W.methodObj (.ref g) (.ref C)) :: pins) σ Q) X.xe s3 := by
    refine wpAny_call (PySem.W.method_call (ClX.pin_at I3) ?_)
    refine codeAny_mono (F.run X.A X.stack s3 H2 ⟨Value.ref C :: us, []⟩ (Value.ref C :: us) (V.ref C :: vs) Q (E σ) hr hgu I3.env0 (by simpa using hb s3 (Value.ref C :: us) I3.kIn (by simpa using hl)) rc q2) fun w s4 hq => ?_
    cases w with
    | error er => exact hx σ _ H2 s3 er s4 I3 hq
    | ok fl =>
      cases fl with
      | ret u => exact I3.after hq
      | next => exact hq.elim
      | brk => exact hq.elim
      | cont => exact hq.elim
  exact ⟨⟨ClX.pin_at I3, I3.kIn⟩, thn z fun _ _ y => ClX.unpinE y⟩
theorem pe_makeRS (M : Mk X.K C f) (F : FnR X.prog X.w X.K X.mg X.base (L2.CX X.prog X.w) k f sp) (hr : Room (k + 1) X.A) (hg : Gl X x) (hm : X.mg x = some (.ref C)) (hx : ∀ σ, PassesAt (L2.CX X.prog X.w) X σ (E σ)) (ha : PA X (e :: es) t)
    (hdb : (x == ("__debug__" : Str)) = false := by decide) (he : starEach (e :: es) X.env = (false, eval e X.env) :: starEach es X.env := by rfl) (hpl : (backTo pos (starEach es X.env)).any (·.1) = false := by rfl) :
    PE X (.Call (.Name x np) (e :: es) [] pos) (tMakeRS C sp E t) := by
  constructor
  intro pins s σ H Q I h
  refine wpAny_Call_Name_kw (ld_glob I hg hm ?_ hdb)
  refine PySem.W.callWith_K (h₀ := X.base) I.ok.mod.kin M.kp (thn (ha.run pos pins s σ H _ I h) ?_) he hpl
  rintro us s1 ⟨vs, H1, I1, rv, q⟩
  refine ⟨I1.kIn, wpAny_call ?_⟩
  have hq := q _ _ (I1.hok.fresh (Nat.le_succ s1.heap.objs.size)) (I1.hok.fresh (Nat.le_refl s1.heap.objs.size)) (Nat.ne_of_lt (Nat.lt_succ_self _))
  have I2 := Inv.made (C := C) I1
  have rc : Vals (V.ref (s1.heap.objs.size + 1) :: vs) (Value.ref (s1.heap.objs.size + 1) :: us) := .cons rfl rv
  refine make_map (f := f) I1.kIn M.makes M.init (beq_iff_eq.mp M.fn) (codeAny_mono (F _ X.stack _ _ _ _ _ (E σ) (hr.make C us []) (I2.env0.make C us []) rc hq) fun w s4 hw => ?_)
  cases w with
  | error er => exact hx σ pins _ _ er s4 I2 hw
  | ok fl =>
    cases fl with
    | ret u =>
      obtain ⟨v, H3, I3, r3, e3, q3⟩ := I2.after hw
      subst e3
      exact ⟨r3, ⟨V.ref (s1.heap.objs.size + 1), H3, I3, rfl, q3⟩⟩
    | next => exact hw.elim
    | brk => exact hw.elim
    | cont => exact hw.elim
end
end Z
namespace Z
open PySem PySem.Spec PyProof.Rows L2
open PySem.SeqAt PySem.MeetsSeq PySem.MeetsSeq2 PySem.MeetsSeq3 PySem.SeqRoads2
open PySem.AutoSeq1 (wpAny_loadPart')
/-! ### == of a flat thing and a dict -/
section
variable {A : Around} {s : Shared}
/-- a dict as it stands -/
def DictO (h : Heap) (l : Addr) : Prop := ∃ (dd : Option Addr) (es : Array DictEntry) (ep : Nat) (sl : Array (Option Value)), h.get? l = some { cls := .type "dict", dict := dd, data := .dict es ep, slots := sl }
theorem dict_declines {prog : Program} {w : World} {E : Value → Shared → Prop} {l : Addr} {v : Value} {Q : Value → Shared → Prop} (hl : DictO s.heap l) (hv : v = .none ∨ (∃ i t, v = .int i t) ∨ ∃ z t, v = .str z t) (q : Q .notImplemented s) :
    wpAny (model prog w) A (call (.builtin "dict.__eq__") [.ref l, v]) Q E s := by
  obtain ⟨dd, es, ep, sl, hl⟩ := hl
  refine GQ.call_here F.slot_dict_eq ⟨_, hl, rfl⟩ F.entry_dict_eq (F.args_dict_eq_2 _ _) ?_
  obtain ⟨hp, g, d, tk, os⟩ := s
  have f1 := F.sub_NoneType_dict
  have f2 := F.sub_int_dict
  have f3 := F.sub_str_dict
  rcases hv with rfl | ⟨i, t, rfl⟩ | ⟨z, t, rfl⟩
  · wp_walk using wpAny_loadPart' hl, wpAny_load hl
    exact q
  · wp_walk using wpAny_loadPart' hl, wpAny_load hl
    exact q
  · wp_walk using wpAny_loadPart' hl, wpAny_load hl
    exact q
theorem int_declines {prog : Program} {w : World} {E : Value → Shared → Prop} {l : Addr} {i : Int} {t : Tok} {Q : Value → Shared → Prop} (hl : DictO s.heap l) (q : Q .notImplemented s) : wpAny (model prog w) A (call (.builtin "int.__eq__") [.int i t, .ref l]) Q E s := by
  obtain ⟨dd, es, ep, sl, hl⟩ := hl
  refine GQ.call_here F.slot_int_eq (typeIs_int s i t) F.entry_int_eq (F.args_int_eq_2 _ _) ?_
  obtain ⟨hp, g, d, tk, os⟩ := s
  wp_walk using wpAny_loadPart' hl, wpAny_load hl
  exact q
theorem str_declines {prog : Program} {w : World} {E : Value → Shared → Prop} {l : Addr} {z : Str} {t : Tok} {Q : Value → Shared → Prop} (hl : DictO s.heap l) (q : Q .notImplemented s) : wpAny (model prog w) A (call (.builtin "str.__eq__") [.str z t, .ref l]) Q E s := by
  obtain ⟨dd, es, ep, sl, hl⟩ := hl
  refine GQ.call_here F.slot_str_eq (typeIs_str s z t) F.entry_str_eq (F.args_str_eq_2 _ _) ?_
  obtain ⟨hp, g, d, tk, os⟩ := s
  wp_walk using wpAny_loadPart' hl, wpAny_load hl
  exact q
theorem eq_dict {l : Addr} {v : Value} (hl : DictO s.heap l) (hu : A.units < cLine) (hv : v = .none ∨ (∃ i t, v = .int i t) ∨ ∃ z t, v = .str z t) : EqAt A s v (.ref l) false := by
  intro prog w E Q h
  have ty : s.TypeIs (.ref l) "dict" := by
    obtain ⟨dd, es, ep, sl, hl⟩ := hl
    exact ⟨_, hl, rfl⟩
  have rc : wpAny (model prog w) A (richCompare .Eq v (.ref l)) (fun u s' => u = .bool false ∧ s' = s) E s := by
    rcases hv with rfl | ⟨i, t, rfl⟩ | ⟨z, t, rfl⟩
    · exact rc_eq_decline_or (k := false) (Ta := "NoneType") rfl ty (by decide) F.sub_dict_NoneType F.slot_NoneType_eq F.slot_dict_eq_refl (fun _ hq => dec_none hq) (fun _ hq => dict_declines hl (.inl rfl) hq)
        (fun _ hq => wpAny_of_eq (rfl : isSame .none (.ref l) = pure false) hq) (.inr hu) ⟨rfl, rfl⟩
    · exact rc_eq_decline_or (k := false) (typeIs_int s i t) ty (by decide) F.sub_dict_int F.slot_int_eq F.slot_dict_eq_refl (fun _ hq => int_declines hl hq) (fun _ hq => dict_declines hl (.inr (.inl ⟨_, _, rfl⟩)) hq)
        (fun _ hq => wpAny_of_eq (rfl : isSame (.int i t) (.ref l) = pure false) hq) (.inr hu) ⟨rfl, rfl⟩
    · exact rc_eq_decline_or (k := false) (typeIs_str s z t) ty (by decide) F.sub_dict_str F.slot_str_eq F.slot_dict_eq_refl (fun _ hq => str_declines hl hq) (fun _ hq => dict_declines hl (.inr (.inr ⟨_, _, rfl⟩)) hq)
        (fun _ hq => wpAny_of_eq (rfl : isSame (.str z t) (.ref l) = pure false) hq) (.inr hu) ⟨rfl, rfl⟩
  have fin : ∀ (u : Value) (s' : Shared), u = .bool false ∧ s' = s → wpAny (model prog w) A (truthOfDropped u) Q E s' := by
    rintro u s' ⟨rfl, rfl⟩
    exact wpAny_truthy_bool h
  rcases hv with rfl | ⟨i, t, rfl⟩ | ⟨z, t, rfl⟩
  · unfold eqBool
    exact wpAny_holding (wpAny_ite_split (fun e => absurd (eq_of_beq e) fun z => by cases z) fun _ => wpAny_bind (wpAny_mono rc fin fun _ _ z => z))
  · unfold eqBool
    exact wpAny_holding (wpAny_ite_split (fun e => absurd (eq_of_beq e) fun z => by cases z) fun _ => wpAny_bind (wpAny_mono rc fin fun _ _ z => z))
  · unfold eqBool
    exact wpAny_holding (wpAny_ite_split (fun e => absurd (eq_of_beq e) fun z => by cases z) fun _ => wpAny_bind (wpAny_mono rc fin fun _ _ z => z))
end
/-! ### x in l, l a list of tuples of flat things, x a tuple that begins with a dict -/
def tflat (v : V) : Prop := v = .non ∨ (∃ i, v = .int i) ∨ ∃ z, v = .str z
def rInDict (K : PySem.W.Frag) : R2 := fun x y H Q => ∃ (a d l : Addr) (v : V) (rs : List V) (kvs : List (Key × V)), x = .ref a ∧ y = .ref l ∧ SqT K H a [.ref d, v] ∧ H d = some (.dK kvs) ∧ tflat v ∧ SqL K H l rs ∧
  (∀ r ∈ rs, ∃ (b : Addr) (p q : V), r = .ref b ∧ SqT K H b [p, q] ∧ tflat p ∧ tflat q) ∧ Q (.bl false) H
def zInD (K : PySem.W.Frag) : R2 := fun x y H Q => rInD K x y H Q ∨ rInDict K x y H Q
theorem tflat_flat {v : V} (h : tflat v) : flatV v = true := by
  rcases h with rfl | ⟨i, rfl⟩ | ⟨z, rfl⟩ <;> rfl
section
variable {X : Cx}
theorem op_inDict (hu : X.A.units + 65 < cLine) : OpR X (compareOp .In) (rInDict X.K) := by
  intro pins s σ H x y v u Q I rx ry h
  obtain ⟨a, d, l, v2, rs, kvs, rfl, rfl, ha, hd, fv, hl, hr, q⟩ := h
  obtain rfl : v = Value.ref a := rx
  obtain rfl : u = Value.ref l := ry
  obtain ⟨its, rv, hl', _⟩ := I.list hl
  obtain ⟨xs, rx, px, _⟩ := I.tuple ha
  have dO : DictO s.heap d := by
    obtain ⟨_, _, vs, _, ⟨oc, od, dt, sl⟩, es, ep, e1, e2, e3, _⟩ := (show ObjOk X.prog X.w H s.heap d (.dK kvs) from I.hok d _ hd)
    have c1 := e2.1
    simp only at c1 e3
    subst c1 e3
    exact ⟨od, es, ep, sl, e1⟩
  obtain ⟨u1, u2, rfl, r1, r2⟩ := vals2 rx
  obtain rfl : u1 = Value.ref d := r1
  have he : ∀ y, y ∈ its.toArray → EqAt X.A.in1 s y (.ref a) ((fun _ => false) y) := by
    intro y hy
    obtain ⟨i, hi⟩ := List.getElem?_of_mem (show y ∈ its by simpa using hy)
    have li : i < rs.length := by
      rw [rv.length]
      exact (List.getElem?_eq_some_iff.mp hi).1
    obtain ⟨y2, hy2, ry⟩ := rv.get (List.getElem?_eq_getElem li)
    rw [hi] at hy2
    cases hy2
    obtain ⟨b, p, w, er, hb, fp, fw⟩ := hr _ (List.getElem_mem li)
    rw [er] at ry
    obtain rfl : y = Value.ref b := ry
    obtain ⟨zs, rz, pz, _⟩ := I.tuple hb
    obtain ⟨w1, w2, rfl, k1, k2⟩ := vals2 rz
    have ne : b ≠ a := by
      intro z
      subst z
      obtain ⟨o1, e1, _, n1, d1⟩ := px
      obtain ⟨o2, e2, _, n2, d2⟩ := pz
      rw [e1] at e2
      cases e2
      rw [d1] at d2
      injection d2 with d2
      have d3 := congrArg Array.toList d2
      simp only [List.cons.injEq] at d3
      obtain ⟨d4, _⟩ := d3
      rw [← d4] at k1
      rcases fp with rfl | ⟨i, rfl⟩ | ⟨z, rfl⟩
      · cases k1
      · obtain ⟨_, k1⟩ := k1; cases k1
      · obtain ⟨_, k1⟩ := k1; cases k1
    have rc := RcAt.tuples (A := X.A.in1) (e := fun j => if j = 0 then false else eqU v2 w2) (isTup_tuple pz) (isTup_tuple px) (show X.A.units + 1 < cLine by omega) (fun j h1 h2 => by
      have hj : j = 0 ∨ j = 1 := by
        have : j < 2 := by simpa using h1
        omega
      rcases hj with rfl | rfl
      · refine eq_dict dO (show X.A.units + 2 < cLine by omega) ?_
        rcases fp with rfl | ⟨i, rfl⟩ | ⟨z, rfl⟩
        · exact .inl k1
        · obtain ⟨t, k1⟩ := k1; exact .inr (.inl ⟨_, _, k1⟩)
        · obtain ⟨t, k1⟩ := k1; exact .inr (.inr ⟨_, _, k1⟩)
      · exact mem_eqAt r2 (tflat_flat fv) (xs := [w]) (us := [w2]) (.cons k2 .nil) (by simp [tflat_flat fw]) w2 (by simp))
    have e0 : ((List.range (min (#[w1, w2] : Array Value).size (#[Value.ref d, u2] : Array Value).size)).all (fun j => if j = 0 then false else eqU v2 w2) && (#[w1, w2] : Array Value).size == (#[Value.ref d, u2] : Array Value).size) = false := by
      simp [List.range_succ]
    exact EqAt.of_refs ne (by
      have rc' := rc
      rw [show ([w1, w2].toArray) = #[w1, w2] from rfl, show ([Value.ref d, u2].toArray) = #[Value.ref d, u2] from rfl, e0] at rc'
      exact rc')
  refine in_listAt (fun _ => false) hl'.isList he ?_
  have : its.toArray.any (fun _ => false) = false := by simp
  rw [this]
  exact ⟨.bl false, H, I, rfl, q⟩
theorem op_zInD (hu : X.A.units + 65 < cLine) : OpR X (compareOp .In) (zInD X.K) := OpR.or (op_inD hu) (op_inDict hu)
end
end Z
namespace Z
open PySem PySem.Spec PyProof.Rows L2
/-- xs.insert(i, y) -/
def rInsZ : V → List V → Hp → VK → Prop := fun x vs H Q => ∃ (l : Addr) (xs : List V) (i : Int) (y : V), x = .ref l ∧ vs = [.int i, y] ∧ H l = some (.lst xs) ∧ xs.length < sizeLine ∧ 0 ≤ i ∧ i < 2 ^ 63 ∧ Q .non (upd H l (.lst (xs.take i.toNat ++ [y] ++ xs.drop i.toNat)))
theorem mt_insZ {X : Cx} : MtR X "list.insert" rInsZ := mt_insert
theorem room65 {k : Nat} {A : Around} (r : Room k A) : A.units + 65 < cLine := by
  have := r.un
  omega
/-! ### repr of a list of things of any kind, dicts among them -/
def DpR2 (K : PySem.W.Frag) (H : Hp) (v : V) (d : PyData) : Prop := DpR K H v d ∨ ∃ (a b : Addr) (u : V) (du : PyData), v = .ref a ∧ SqT K H a [.ref b, u] ∧ H b = some (.dK []) ∧ flatD u = some du ∧ d = .tuple [.dict [], du]
def Rdd (h : Heap) (u : Value) (d : PyData) : Prop := ∃ as, Reads h u d as ∧ (d.hasDict = true → sysModules ∉ as)
theorem DpR2.reads {X : Cx} {pins : List (Addr × Obj)} {σ : St} {H : Hp} {s : Shared} (I : Inv X pins σ H s) {d : PyData} {v : V} {u : Value} (h : DpR2 X.K H v d) (r : RelV v u) : Rdd s.heap u d := by
  rcases h with h | ⟨a, b, w, dw, rfl, ha, hb, fw, rfl⟩
  · exact h.reads I r
  · obtain rfl : u = Value.ref a := r
    obtain ⟨its, rv, ⟨o, e1, c1, n, d1⟩, _⟩ := I.tuple ha
    obtain ⟨u1, u2, rfl, r1, r2⟩ := vals2 rv
    obtain ⟨as, h1, h2⟩ := DpR.reads I (d := .dict []) (v := .ref b) (u := u1) (.inr ⟨b, [], [], rfl, hb, rfl, .nil⟩) r1
    have h3 := flatD_reads (h := s.heap) fw r2
    refine ⟨as ++ ([] ++ []), Reads.tuple e1 c1 d1 (.cons h1 (.cons h3 .nil)), fun _ z => h2 (by simp [PyData.hasDict]) (by simpa using z)⟩
section
variable {prog : Program} {w : World} {h₀ : Heap}
theorem repr_each : ∀ {vs : List Value} {ds : List PyData}, Paired (Rdd h₀) vs ds → PyData.showableAll ds = true → (∀ t ∈ PyData.shownAll ds, t.length ≤ sizeLine) →
    (∃ as, ReadsAll h₀ vs ds as) ∧ ∃ bs, ReadAtMost h₀ (PyData.depthAll ds) bs ∧ ReprAllK prog w bs h₀ (PyData.depthAll ds) vs (PyData.shownAll ds)
  | _, _, .nil, _, _ => ⟨⟨_, .nil⟩, [], (fun _ h => nomatch h), by simp only [PyData.shownAll]; exact .nil⟩
  | _, _, .cons ⟨as, r, hm⟩ t, hs, hz => by
    simp only [PyData.showableAll, Bool.and_eq_true] at hs
    obtain ⟨b1, h1, k1⟩ := ReprK.of_reads (prog := prog) (w := w) r hs.1 hm (hz _ (by simp only [PyData.shownAll]; exact List.mem_cons_self ..))
    obtain ⟨⟨as2, r2⟩, b2, h2, k2⟩ := repr_each t hs.2 fun x hx => hz x (by simp only [PyData.shownAll]; exact List.mem_cons_of_mem _ hx)
    refine ⟨⟨_, .cons r r2⟩, b1 ++ b2, ?_, ?_⟩
    · simp only [PyData.depthAll]
      exact (h1.mono (Nat.le_max_left _ _)).append (h2.mono (Nat.le_max_right _ _))
    · simp only [PyData.depthAll, PyData.shownAll]
      exact .cons ((k1.more fun _ q => List.mem_append_left _ q).level_le (Nat.le_max_left _ _)) (k2.more_le (fun _ q => List.mem_append_right _ q) (Nat.le_max_right _ _))
end
theorem rdds {X : Cx} {pins : List (Addr × Obj)} {σ : St} {H : Hp} {s : Shared} (I : Inv X pins σ H s) : ∀ {vs : List V} {us : List Value} {ds : List PyData}, Paired (DpR2 X.K H) vs ds → Vals vs us → Paired (Rdd s.heap) us ds
  | _, _, _, .nil, .nil => .nil
  | _, _, _, .cons h t, .cons r q => .cons (h.reads I r) (rdds I t q)
def rReprL (K : PySem.W.Frag) : List V → Hp → VK → Prop := fun xs H Q => ∃ (a : Addr) (vs : List V) (ds : List PyData), xs = [.ref a] ∧ SqL K H a vs ∧ Paired (DpR2 K H) vs ds ∧ PyData.showableAll ds = true ∧ PyData.depthAll ds ≤ 32 ∧
  (PyData.list ds).shown.length ≤ sizeLine ∧ Q (.str (PyData.list ds).shown) H
theorem call_reprL {X : Cx} (hg : X.A.guards = some []) (hu : X.A.units + 64 < cLine) : CallR X (.builtin "repr") (rReprL X.K) := by
  intro pins s σ H xs us Q I r h
  obtain ⟨a, vs, ds, rfl, hq, hp, hs, hd, hz, q⟩ := h
  obtain ⟨u, rfl, ru⟩ := vals1 r
  obtain rfl : u = Value.ref a := ru
  obtain ⟨its, rv, ⟨oa, n, e1, c1, _, d1⟩, _⟩ := I.list hq
  have hz2 : (listText (PyData.shownAll ds)).length ≤ sizeLine := by simpa only [PyData.shown] using hz
  obtain ⟨⟨as, ra⟩, bs, h1, h2⟩ := repr_each (prog := X.prog) (w := X.w) (rdds I hp rv) hs fun t ht => Nat.le_trans (listText_mem_le ht) hz2
  have hna : a ∉ bs := not_mem_of_deeper (Reads.list e1 c1 d1 ra) (by simp only [PyData.depth]; omega) h1
  have keep : ∀ b o, s.heap.get? b = some o → s.heap.get? b = some o := fun _ _ z => z
  simp only [PyData.shown] at q
  refine call_repr_slot (by omega) ⟨oa, e1, c1⟩ F.slot_list_repr.toG ?_
  cases its with
  | nil =>
    cases ra
    simp only [PyData.shownAll, listText_nil] at q
    exact call_list_repr_empty ⟨oa, e1, c1⟩ e1 d1 ⟨_, _, rfl, ⟨.str _, H, I.tok _, ⟨_, rfl⟩, q⟩⟩
  | cons x l =>
    exact call_list_reprK e1 c1 d1 hna (by simpa using h2.length_eq) (fun i y e => h2.item i y (by simpa using e)) (show X.A.in1.guards = some [] from hg) (fun b _ => Clear.nil b) (show X.A.units + 1 + (PyData.depthAll ds + 1) < cLine by omega) keep
      (fun h' u tk hk => ⟨_, _, rfl, ⟨.str _, H, I.kept (t' := tk) hk, ⟨_, rfl⟩, q⟩⟩) hz2
end Z
namespace Z
open PySem PySem.Spec PyProof.Rows L2
def top (i : Nat) : Stmt := PySem.Challenge.pw_falsedefaults_k40_pairs_refused.main.body.getD i (.Pass ⟨0, 0, 0, 0⟩)
abbrev s_BadStep_init : Stmt := inClass (top 2) 0
abbrev s_BadPair_init : Stmt := inClass (top 3) 0
abbrev s_BadKind_init : Stmt := inClass (top 4) 0
abbrev s_is_int : Stmt := top 7
abbrev s_is_part : Stmt := top 9
abbrev s_is_pair_row : Stmt := top 10
abbrev s_normal_rows : Stmt := top 11
abbrev s_are_alike_in_kind : Stmt := top 12
abbrev s_is_instance : Stmt := top 13
abbrev s_Pair_init : Stmt := inClass (top 14) 0
abbrev s_Pair_made : Stmt := inClass (top 14) 1
abbrev s_Pair_eq : Stmt := inClass (top 14) 3
abbrev s_Pair_contains : Stmt := inClass (top 14) 4
abbrev s_law_digits : Stmt := top 16
abbrev s_law_take : Stmt := top 17
abbrev s_law_number : Stmt := top 18
abbrev s_law_drawn : Stmt := top 19
abbrev s_law_oddity : Stmt := top 20
abbrev s_law_refused : Stmt := top 21
abbrev s_law_refused_three : Stmt := top 22
abbrev s_law : Stmt := top 23
structure Ads where
  f_BadStep_init : Addr
  d_BadStep_init : FuncData
  f_BadPair_init : Addr
  d_BadPair_init : FuncData
  f_BadKind_init : Addr
  d_BadKind_init : FuncData
  f_is_int : Addr
  d_is_int : FuncData
  f_is_part : Addr
  d_is_part : FuncData
  f_is_pair_row : Addr
  d_is_pair_row : FuncData
  f_normal_rows : Addr
  d_normal_rows : FuncData
  f_are_alike_in_kind : Addr
  d_are_alike_in_kind : FuncData
  f_is_instance : Addr
  d_is_instance : FuncData
  f_Pair_init : Addr
  d_Pair_init : FuncData
  f_Pair_made : Addr
  d_Pair_made : FuncData
  f_Pair_eq : Addr
  d_Pair_eq : FuncData
  f_Pair_contains : Addr
  d_Pair_contains : FuncData
  f_law_digits : Addr
  d_law_digits : FuncData
  f_law_take : Addr
  d_law_take : FuncData
  f_law_number : Addr
  d_law_number : FuncData
  f_law_drawn : Addr
  d_law_drawn : FuncData
  f_law_oddity : Addr
  d_law_oddity : FuncData
  f_law_refused : Addr
  d_law_refused : FuncData
  f_law_refused_three : Addr
  d_law_refused_three : FuncData
  f_law : Addr
  d_law : FuncData
  c_BadStep : Addr
  c_BadPair : Addr
  c_BadKind : Addr
  c_Pair : Addr
  p_Pair_made : Addr
structure Txt (K : PySem.W.Frag) (mg : Str → Option Value) (g : Ads) : Prop where
  f_BadStep_init : Fun K "__init__" "BadStep.__init__" s_BadStep_init g.f_BadStep_init g.d_BadStep_init
  e_BadStep_init : Binds K g.d_BadStep_init ["self", "index"] []
  f_BadPair_init : Fun K "__init__" "BadPair.__init__" s_BadPair_init g.f_BadPair_init g.d_BadPair_init
  e_BadPair_init : Binds K g.d_BadPair_init ["self", "index"] []
  f_BadKind_init : Fun K "__init__" "BadKind.__init__" s_BadKind_init g.f_BadKind_init g.d_BadKind_init
  e_BadKind_init : Binds K g.d_BadKind_init ["self", "kind"] []
  f_is_int : Fun K "is_int" "is_int" s_is_int g.f_is_int g.d_is_int
  e_is_int : Binds K g.d_is_int ["thing"] []
  g_is_int : mg "is_int" = some (.ref g.f_is_int)
  k_is_int : PySem.W.keepIn K (.ref g.f_is_int) = true
  f_is_part : Fun K "is_part" "is_part" s_is_part g.f_is_part g.d_is_part
  e_is_part : Binds K g.d_is_part ["thing"] []
  g_is_part : mg "is_part" = some (.ref g.f_is_part)
  k_is_part : PySem.W.keepIn K (.ref g.f_is_part) = true
  f_is_pair_row : Fun K "is_pair_row" "is_pair_row" s_is_pair_row g.f_is_pair_row g.d_is_pair_row
  e_is_pair_row : Binds K g.d_is_pair_row ["thing"] []
  g_is_pair_row : mg "is_pair_row" = some (.ref g.f_is_pair_row)
  k_is_pair_row : PySem.W.keepIn K (.ref g.f_is_pair_row) = true
  f_normal_rows : Fun K "normal_rows" "normal_rows" s_normal_rows g.f_normal_rows g.d_normal_rows
  e_normal_rows : Binds K g.d_normal_rows ["rows"] []
  g_normal_rows : mg "normal_rows" = some (.ref g.f_normal_rows)
  k_normal_rows : PySem.W.keepIn K (.ref g.f_normal_rows) = true
  f_are_alike_in_kind : Fun K "are_alike_in_kind" "are_alike_in_kind" s_are_alike_in_kind g.f_are_alike_in_kind g.d_are_alike_in_kind
  e_are_alike_in_kind : Binds K g.d_are_alike_in_kind ["wide", "given"] []
  g_are_alike_in_kind : mg "are_alike_in_kind" = some (.ref g.f_are_alike_in_kind)
  k_are_alike_in_kind : PySem.W.keepIn K (.ref g.f_are_alike_in_kind) = true
  f_is_instance : Fun K "is_instance" "is_instance" s_is_instance g.f_is_instance g.d_is_instance
  e_is_instance : Binds K g.d_is_instance ["wide", "rows"] []
  g_is_instance : mg "is_instance" = some (.ref g.f_is_instance)
  k_is_instance : PySem.W.keepIn K (.ref g.f_is_instance) = true
  f_Pair_init : Fun K "__init__" "Pair.__init__" s_Pair_init g.f_Pair_init g.d_Pair_init
  f_Pair_made : Fun K "made" "Pair.made" s_Pair_made g.f_Pair_made g.d_Pair_made
  e_Pair_made : Binds K g.d_Pair_made ["cls", "rows"] []
  f_Pair_eq : Fun K "__eq__" "Pair.__eq__" s_Pair_eq g.f_Pair_eq g.d_Pair_eq
  e_Pair_eq : Binds K g.d_Pair_eq ["self", "other"] []
  f_Pair_contains : Fun K "__contains__" "Pair.__contains__" s_Pair_contains g.f_Pair_contains g.d_Pair_contains
  e_Pair_contains : Binds K g.d_Pair_contains ["self", "other"] []
  f_law_digits : Fun K "_law_digits" "_law_digits" s_law_digits g.f_law_digits g.d_law_digits
  e_law_digits : Binds K g.d_law_digits ["script", "at"] []
  g_law_digits : mg "_law_digits" = some (.ref g.f_law_digits)
  k_law_digits : PySem.W.keepIn K (.ref g.f_law_digits) = true
  f_law_take : Fun K "_law_take" "_law_take" s_law_take g.f_law_take g.d_law_take
  e_law_take : Binds K g.d_law_take ["bag", "many"] []
  g_law_take : mg "_law_take" = some (.ref g.f_law_take)
  k_law_take : PySem.W.keepIn K (.ref g.f_law_take) = true
  f_law_number : Fun K "_law_number" "_law_number" s_law_number g.f_law_number g.d_law_number
  e_law_number : Binds K g.d_law_number ["bag"] []
  g_law_number : mg "_law_number" = some (.ref g.f_law_number)
  k_law_number : PySem.W.keepIn K (.ref g.f_law_number) = true
  f_law_drawn : Fun K "_law_drawn" "_law_drawn" s_law_drawn g.f_law_drawn g.d_law_drawn
  e_law_drawn : Binds K g.d_law_drawn ["bag", "many"] []
  g_law_drawn : mg "_law_drawn" = some (.ref g.f_law_drawn)
  k_law_drawn : PySem.W.keepIn K (.ref g.f_law_drawn) = true
  f_law_oddity : Fun K "_law_oddity" "_law_oddity" s_law_oddity g.f_law_oddity g.d_law_oddity
  e_law_oddity : Binds K g.d_law_oddity ["bag"] []
  g_law_oddity : mg "_law_oddity" = some (.ref g.f_law_oddity)
  k_law_oddity : PySem.W.keepIn K (.ref g.f_law_oddity) = true
  f_law_refused : Fun K "_law_refused" "_law_refused" s_law_refused g.f_law_refused g.d_law_refused
  e_law_refused : Binds K g.d_law_refused ["rows", "due"] []
  g_law_refused : mg "_law_refused" = some (.ref g.f_law_refused)
  k_law_refused : PySem.W.keepIn K (.ref g.f_law_refused) = true
  f_law_refused_three : Fun K "_law_refused_three" "_law_refused_three" s_law_refused_three g.f_law_refused_three g.d_law_refused_three
  e_law_refused_three : Binds K g.d_law_refused_three ["rows", "due"] []
  g_law_refused_three : mg "_law_refused_three" = some (.ref g.f_law_refused_three)
  k_law_refused_three : PySem.W.keepIn K (.ref g.f_law_refused_three) = true
  f_law : Fun K "law" "law" s_law g.f_law g.d_law
  e_law : Binds K g.d_law ["script"] []
  g_law : mg "law" = some (.ref g.f_law)
  k_law : PySem.W.keepIn K (.ref g.f_law) = true
  g_BadStep : mg "BadStep" = some (.ref g.c_BadStep)
  o_BadStep : OexC K g.c_BadStep
  x_BadStep : XfC K g.c_BadStep
  h_BadStep : PySem.W.exmOne K (.ref g.c_BadStep) (.ref g.c_BadStep) = some true
  i_BadStep : PySem.W.findIn K (.ref g.c_BadStep) "__init__" = some (some (.ref g.f_BadStep_init))
  t_BadStep : PySem.W.typeIn K (.ref g.f_BadStep_init) = some (.type "function")
  a_BadStep_index : PySem.W.findIn K (.ref g.c_BadStep) "index" = some none
  g_BadPair : mg "BadPair" = some (.ref g.c_BadPair)
  o_BadPair : OexC K g.c_BadPair
  x_BadPair : XfC K g.c_BadPair
  h_BadPair : PySem.W.exmOne K (.ref g.c_BadPair) (.ref g.c_BadPair) = some true
  i_BadPair : PySem.W.findIn K (.ref g.c_BadPair) "__init__" = some (some (.ref g.f_BadPair_init))
  t_BadPair : PySem.W.typeIn K (.ref g.f_BadPair_init) = some (.type "function")
  a_BadPair_index : PySem.W.findIn K (.ref g.c_BadPair) "index" = some none
  xv_BadPair : ExT K g.c_BadPair
  kx_BadPair_BadPair : PySem.W.kitOne K (.ref g.c_BadPair) (.ref g.c_BadPair) = some true
  kx_BadPair_ValueError : PySem.W.kitOne K (.ref g.c_BadPair) (.type "ValueError") = some true
  kx_BadPair_BadKind : PySem.W.kitOne K (.ref g.c_BadPair) (.ref g.c_BadKind) = some false
  kx_BadPair_BadStep : PySem.W.kitOne K (.ref g.c_BadPair) (.ref g.c_BadStep) = some false
  g_BadKind : mg "BadKind" = some (.ref g.c_BadKind)
  o_BadKind : OexC K g.c_BadKind
  x_BadKind : XfC K g.c_BadKind
  h_BadKind : PySem.W.exmOne K (.ref g.c_BadKind) (.ref g.c_BadKind) = some true
  i_BadKind : PySem.W.findIn K (.ref g.c_BadKind) "__init__" = some (some (.ref g.f_BadKind_init))
  t_BadKind : PySem.W.typeIn K (.ref g.f_BadKind_init) = some (.type "function")
  a_BadKind_kind : PySem.W.findIn K (.ref g.c_BadKind) "kind" = some none
  g_Pair : mg "Pair" = some (.ref g.c_Pair)
  cl_Pair : Cls K g.c_Pair
  ci_Pair : CIns K g.c_Pair
  na_Pair_rows : NoAttr K g.c_Pair "rows"
  na_Pair_apart : NoAttr K g.c_Pair "apart"
  m_Pair : Mk K g.c_Pair g.f_Pair_init
  cm_Pair_made : ClX.CMet K g.c_Pair (.type "type") "made" g.p_Pair_made g.f_Pair_made
  a_Pair_eq : PySem.W.findIn K (.ref g.c_Pair) "__eq__" = some (some (.ref g.f_Pair_eq))
  i_Pair_eq : PySem.W.isFn K (.ref g.f_Pair_eq) = true
  a_Pair_contains : PySem.W.findIn K (.ref g.c_Pair) "__contains__" = some (some (.ref g.f_Pair_contains))
  i_Pair_contains : PySem.W.isFn K (.ref g.f_Pair_contains) = true
  cr_Pair : ClX.CRead K g.c_Pair (.type "type")
  n_BEYOND : ∃ t, mg "BEYOND" = some (.int 100000000000000000000 t)
  b_ValueError : mg "ValueError" = none
  b_abs : mg "abs" = none
  b_any : mg "any" = none
  b_bool : mg "bool" = none
  b_enumerate : mg "enumerate" = none
  b_int : mg "int" = none
  b_isinstance : mg "isinstance" = none
  b_len : mg "len" = none
  b_list : mg "list" = none
  b_max : mg "max" = none
  b_min : mg "min" = none
  b_range : mg "range" = none
  b_repr : mg "repr" = none
  b_str : mg "str" = none
  b_tuple : mg "tuple" = none
  b_zip : mg "zip" = none
theorem sc_is_int : FnScope ["thing"] ["thing"] (defScope s_is_int) := ⟨rfl, rfl, rfl, by decide +kernel, rfl, by decide +kernel, by decide +kernel⟩
def R_is_int (K : PySem.W.Frag) (g : Ads) (E : XK) : TS :=
  (tRet (zAndV (zIsiT K .int (zVar 0)) (zAndV (zNotV (zIsiT K .bool (zVar 0))) (zChain zLt zLt (zNeg (tC (.int 100000000000000000000))) (zVar 0) (tC (.int 100000000000000000000))))))
def rw_is_int (K : PySem.W.Frag) (g : Ads) : Sp := fun vs H Q E => vs.length = 1 ∧ R_is_int K g E { nx := fun _ H' => Q .non H', rt := Q } (start ["thing"] vs) H
theorem raw_is_int {P : Program} {w : World} {K : PySem.W.Frag} {mg : Str → Option Value} {base : Heap} {g : Ads} (T : Txt K mg g) : FnG false P w K mg base 1 g.f_is_int g.d_is_int ["thing"] (rw_is_int K g) := by
  refine okZ T.f_is_int sc_is_int (fun vs H Q E h => h.1) (fun cdv A outer s H vs Q E hr hgu h => ⟨R_is_int K g E, ?_, h.2⟩)
  exact (pss_one (ps_ret (pez_and (pe_isi (kd := .int) (zv 0) (by rfl) T.b_isinstance (by decide +kernel) (by rfl) T.b_int (by decide +kernel)) (pez_and (pez_not (pe_isi (kd := .bool) (zv 0) (by rfl) T.b_isinstance (by decide +kernel) (by rfl) T.b_bool (by decide +kernel))) (pe_one (pez_chain op_zLt op_zLt (pez_neg (pe_cint rfl T.n_BEYOND)) (zv 0) (pe_cint rfl T.n_BEYOND)))))))
theorem sc_normal_rows : FnScope ["rows", "clean", "failing", "names", "many", "found", "row", "shown", "part", "is_across"] ["rows"] (defScope s_normal_rows) := ⟨rfl, rfl, rfl, by decide +kernel, rfl, by decide +kernel, by decide +kernel⟩
def R_normal_rows_13 (P : Program) (w : World) (K : PySem.W.Frag) (g : Ads) (E : XK) : TS :=
  (tAug 4 (tC (.int 1)) (ipI fun i j => i + j))
def R_normal_rows_12 (P : Program) (w : World) (K : PySem.W.Frag) (g : Ads) (E : XK) : TS :=
  (tSeq (sDPut (zVar 3) (zVar 8) (fun σ H Q => tJs [(tC (.str "v")), (tFmt (zVar 4))] Str.empty σ H fun out H1 => Q (.str out) H1))
  (R_normal_rows_13 P w K g E))
def R_normal_rows_14 (P : Program) (w : World) (K : PySem.W.Frag) (g : Ads) (E : XK) : TS :=
  (tDrop (tBM K "list" rAppend (zVar 7) (tCons (tDGet (zVar 3) (zVar 8)) tNil)))
def R_normal_rows_11 (P : Program) (w : World) (K : PySem.W.Frag) (g : Ads) (E : XK) : TS :=
  (tSeq (tIfS (tOr (tNot (zTru K (zVar 9))) (zTest (tOp (zDIn true) (zVar 8) (zVar 3))))
  (R_normal_rows_12 P w K g E)
  tNext)
  (R_normal_rows_14 P w K g E))
def R_normal_rows_10 (P : Program) (w : World) (K : PySem.W.Frag) (g : Ads) (E : XK) : TS :=
  (tSeq (tAsg (zAndV (tOp (rSInK P w false) (zVar 8) (zVar 1)) (tOp (rSInK P w false) (zVar 8) (zVar 2))) (gName 9))
  (R_normal_rows_11 P w K g E))
def R_normal_rows_16 (P : Program) (w : World) (K : PySem.W.Frag) (g : Ads) (E : XK) : TS :=
  (tDrop (tBM K "list" rAppend (zVar 7) (tCons (zVar 8) tNil)))
def R_normal_rows_9 (P : Program) (w : World) (K : PySem.W.Frag) (g : Ads) (E : XK) : TS :=
  (tIfS (zTru K (zIsiT K .str (zVar 8)))
  (R_normal_rows_10 P w K g E)
  (R_normal_rows_16 P w K g E))
def R_normal_rows_17 (P : Program) (w : World) (K : PySem.W.Frag) (g : Ads) (E : XK) : TS :=
  (tDrop (tBM K "list" rAppend (zVar 5) (tCons (tCB (zTupOf K) (tCons (zVar 7) tNil)) tNil)))
def R_normal_rows_8 (P : Program) (w : World) (K : PySem.W.Frag) (g : Ads) (E : XK) : TS :=
  (tSeq (zFor (iTup K (zVar 6)) (gName 8)
  (R_normal_rows_9 P w K g E))
  (R_normal_rows_17 P w K g E))
def R_normal_rows_7 (P : Program) (w : World) (K : PySem.W.Frag) (g : Ads) (E : XK) : TS :=
  (tSeq (tAsg (tLst tNil) (gName 7))
  (R_normal_rows_8 P w K g E))
def R_normal_rows_18 (P : Program) (w : World) (K : PySem.W.Frag) (g : Ads) (E : XK) : TS :=
  (tRet (tCB (zTupOf K) (tCons (zVar 5) tNil)))
def R_normal_rows_6 (P : Program) (w : World) (K : PySem.W.Frag) (g : Ads) (E : XK) : TS :=
  (tSeq (zFor (iTup K (zVar 0)) (gName 6)
  (R_normal_rows_7 P w K g E))
  (R_normal_rows_18 P w K g E))
def R_normal_rows_5 (P : Program) (w : World) (K : PySem.W.Frag) (g : Ads) (E : XK) : TS :=
  (tSeq (tAsg (tLst tNil) (gName 5))
  (R_normal_rows_6 P w K g E))
def R_normal_rows_4 (P : Program) (w : World) (K : PySem.W.Frag) (g : Ads) (E : XK) : TS :=
  (tSeq (tAsg (tC (.int 0)) (gName 4))
  (R_normal_rows_5 P w K g E))
def R_normal_rows_3 (P : Program) (w : World) (K : PySem.W.Frag) (g : Ads) (E : XK) : TS :=
  (tSeq (tAsg tDNewK (gName 3))
  (R_normal_rows_4 P w K g E))
def R_normal_rows_2 (P : Program) (w : World) (K : PySem.W.Frag) (g : Ads) (E : XK) : TS :=
  (tSeq (tAsg (zSc P w (iTup K (zVar 0)) (gName 6) (zTru K (zIsiT K .str (tOp (zIx K) (zVar 6) (tC (.int 1))))) (tOp (zIx K) (zVar 6) (tC (.int 1))) [6]) (gName 2))
  (R_normal_rows_3 P w K g E))
def R_normal_rows (P : Program) (w : World) (K : PySem.W.Frag) (g : Ads) (E : XK) : TS :=
  (tSeq (tAsg (zSc P w (iTup K (zVar 0)) (gName 6) (zTru K (zIsiT K .str (tOp (zIx K) (zVar 6) (tC (.int 0))))) (tOp (zIx K) (zVar 6) (tC (.int 0))) [6]) (gName 1))
  (R_normal_rows_2 P w K g E))
def rw_normal_rows (P : Program) (w : World) (K : PySem.W.Frag) (g : Ads) : Sp := fun vs H Q E => vs.length = 1 ∧ R_normal_rows P w K g E { nx := fun _ H' => Q .non H', rt := Q } (start ["rows", "clean", "failing", "names", "many", "found", "row", "shown", "part", "is_across"] vs) H
theorem raw_normal_rows {P : Program} {w : World} {K : PySem.W.Frag} {mg : Str → Option Value} {base : Heap} {g : Ads} (T : Txt K mg g) : FnG false P w K mg base 1 g.f_normal_rows g.d_normal_rows ["rows"] (rw_normal_rows P w K g) := by
  refine okZ T.f_normal_rows sc_normal_rows (fun vs H Q E h => h.1) (fun cdv A outer s H vs Q E hr hgu h => ⟨R_normal_rows P w K g E, ?_, h.2⟩)
  exact (pss_cons (psz_setSc (i := 1) (own := [("row", 6)]) rfl sc_normal_rows.nd rfl rfl (sw_sc rfl rfl rfl (by decide +kernel)) (pi_tup (zv 0)) (blkOk_by (own := [("row", 6)]) (N := ["rows", "clean", "failing", "names", "many", "found", "row", "shown", "part", "is_across"]) (sc := defScope s_normal_rows) (by decide +kernel)) (fun _ _ _ _ _ => pg_name (i := 6) sc_normal_rows.nd rfl (Or.inl rfl)) (fun _ _ _ _ _ => pts_one (ptz_truth (pe_isi (kd := .str) (pe_ix ix_z (zv 6) pe_int (fun _ _ => rfl)) (by rfl) T.b_isinstance (by decide +kernel) (by rfl) T.b_str (by decide +kernel)) (by intro _; rfl))) (fun _ _ _ _ _ => (pe_ix ix_z (zv 6) pe_int (fun _ _ => rfl))))
  (pss_cons (psz_setSc (i := 2) (own := [("row", 6)]) rfl sc_normal_rows.nd rfl rfl (sw_sc rfl rfl rfl (by decide +kernel)) (pi_tup (zv 0)) (blkOk_by (own := [("row", 6)]) (N := ["rows", "clean", "failing", "names", "many", "found", "row", "shown", "part", "is_across"]) (sc := defScope s_normal_rows) (by decide +kernel)) (fun _ _ _ _ _ => pg_name (i := 6) sc_normal_rows.nd rfl (Or.inl rfl)) (fun _ _ _ _ _ => pts_one (ptz_truth (pe_isi (kd := .str) (pe_ix ix_z (zv 6) pe_int (fun _ _ => rfl)) (by rfl) T.b_isinstance (by decide +kernel) (by rfl) T.b_str (by decide +kernel)) (by intro _; rfl))) (fun _ _ _ _ _ => (pe_ix ix_z (zv 6) pe_int (fun _ _ => rfl))))
  (pss_cons (ps_set (i := 3) sc_normal_rows.nd rfl (Or.inl rfl) pe_dnewK)
  (pss_cons (ps_set (i := 4) sc_normal_rows.nd rfl (Or.inl rfl) pe_int)
  (pss_cons (ps_set (i := 5) sc_normal_rows.nd rfl (Or.inl rfl) (pe_lst pa_nil))
  (pss_cons (psz_for PassesOwn.leaving rfl (pi_tup (zv 0)) (pg_name (i := 6) sc_normal_rows.nd rfl (Or.inl rfl))
  (pss_cons (ps_set (i := 7) sc_normal_rows.nd rfl (Or.inl rfl) (pe_lst pa_nil))
  (pss_cons (psz_for PassesOwn.leaving rfl (pi_tup (zv 6)) (pg_name (i := 8) sc_normal_rows.nd rfl (Or.inl rfl))
  (pss_one (ps_if (ptz_truth (pe_isi (kd := .str) (zv 8) (by rfl) T.b_isinstance (by decide +kernel) (by rfl) T.b_str (by decide +kernel)) (by intro _; rfl))
  (pss_cons (ps_set (i := 9) sc_normal_rows.nd rfl (Or.inl rfl) (pez_and (pe_cmpR or_sinK (zv 8) (zv 1) (by rfl)) (pe_one (pe_cmpR or_sinK (zv 8) (zv 2) (by rfl)))))
  (pss_cons (ps_if (PW.pt (pw_or (pt_not (ptz_truth (zv 9) (by intro _; rfl))) (pw_or1 (ptz_cmp (op_zDNin (hu_of hr)) (zv 8) (zv 3) (by rfl)))))
  (pss_cons (ps_dput (hu_of hr) (zv 3) (zv 8) (pe_joined (PJ.cons pe_str (PJ.cons (pe_fmt (zv 4)) PJ.nil))) (by rfl))
  (pss_one (ps_aug (i := 4) sc_normal_rows.nd rfl (Or.inl rfl) pe_int ip_add)))
  pss_nil)
  (pss_one (ps_expr (pe_bm PySem.F.plainAttrs_list PySem.F.slot_list_append PySem.F.type_list_append mt_append (zv 7) (pa_cons (pe_dget (hu_of hr) (zv 3) (zv 8) (fun _ _ => rfl)) pa_nil))))))
  (pss_one (ps_expr (pe_bm PySem.F.plainAttrs_list PySem.F.slot_list_append PySem.F.type_list_append mt_append (zv 7) (pa_cons (zv 8) pa_nil)))))))
  (pss_one (ps_expr (pe_bm PySem.F.plainAttrs_list PySem.F.slot_list_append PySem.F.type_list_append mt_append (zv 5) (pa_cons (pe_callTy call_tupZ (by rfl) T.b_tuple (by decide +kernel) (pa_cons (zv 7) pa_nil)) pa_nil)))))))
  (pss_one (ps_ret (pe_callTy call_tupZ (by rfl) T.b_tuple (by decide +kernel) (pa_cons (zv 5) pa_nil))))))))))
end Z
namespace Z
open PySem PySem.Spec PyProof.Rows L2
/-! ### rows and their normal form, in plain Lean -/
inductive Prt where
  | non
  | int (i : Int)
  | str (z : Str)
deriving DecidableEq
abbrev Rw := Prt × Prt
def Prt.v : Prt → V
  | .non => .non | .int i => .int i | .str z => .str z
theorem Prt.v_inj : ∀ {a b : Prt}, a.v = b.v → a = b
  | .non, .non, _ => rfl
  | .int i, .int j, h => by cases h; rfl
  | .str x, .str y, h => by cases h; rfl
  | .non, .int _, h => nomatch h | .non, .str _, h => nomatch h | .int _, .non, h => nomatch h
  | .int _, .str _, h => nomatch h | .str _, .non, h => nomatch h | .str _, .int _, h => nomatch h
/-- the name of a variable -/
def vn (n : Nat) : Str := ("v" : Str) ++ Str.ofString (toString (n : Int))
abbrev NS := (Str → Option Nat) × Nat
def nNew (s : NS) (z : Str) : NS := (fun y => if y = z then some s.2 else s.1 y, s.2 + 1)
def nStr (ac : Str → Bool) (s : NS) (z : Str) : Nat × NS := if ac z = true then (match s.1 z with | some k => (k, s) | none => (s.2, nNew s z)) else (s.2, nNew s z)
def nPart (ac : Str → Bool) (s : NS) : Prt → Prt × NS
  | .str z => (.str (vn (nStr ac s z).1), (nStr ac s z).2)
  | p => (p, s)
def nRow (ac : Str → Bool) (s : NS) (p : Rw) : Rw × NS := (((nPart ac s p.1).1, (nPart ac (nPart ac s p.1).2 p.2).1), (nPart ac (nPart ac s p.1).2 p.2).2)
def nRows (ac : Str → Bool) : NS → List Rw → List Rw × NS
  | s, [] => ([], s)
  | s, p :: r => ((nRow ac s p).1 :: (nRows ac (nRow ac s p).2 r).1, (nRows ac (nRow ac s p).2 r).2)
def acr (ps : List Rw) (z : Str) : Bool := (ps.any fun p => decide (p.1 = .str z)) && ps.any fun p => decide (p.2 = .str z)
def ns0 : NS := (fun _ => none, 0)
def norm (ps : List Rw) : List Rw := (nRows (acr ps) ns0 ps).1
theorem nRows_append (ac : Str → Bool) : ∀ (ps qs : List Rw) (s : NS), nRows ac s (ps ++ qs) = ((nRows ac s ps).1 ++ (nRows ac (nRows ac s ps).2 qs).1, (nRows ac (nRows ac s ps).2 qs).2)
  | [], qs, s => by simp [nRows]
  | p :: r, qs, s => by simp [nRows, nRows_append ac r qs]
theorem nRows_length (ac : Str → Bool) : ∀ (ps : List Rw) (s : NS), (nRows ac s ps).1.length = ps.length
  | [], s => rfl
  | p :: r, s => by simp [nRows, nRows_length ac r]

/-! what has been named -/
structure NInv (ac : Str → Bool) (s : NS) (hist : List (Str × Nat)) : Prop where
  lt : ∀ z k, s.1 z = some k → k < s.2
  inj : ∀ z y k, s.1 z = some k → s.1 y = some k → z = y
  old : ∀ e ∈ hist, e.2 < s.2 ∧ (∀ y, s.1 y = some e.2 → y = e.1) ∧ (ac e.1 = true → s.1 e.1 = some e.2)
  dis : ∀ e ∈ hist, ∀ e' ∈ hist, e.2 = e'.2 → e.1 = e'.1
theorem NInv.new {ac : Str → Bool} {s : NS} {hist : List (Str × Nat)} (I : NInv ac s hist) {z : Str} (hz : ac z = true → s.1 z = none) : NInv ac (nNew s z) ((z, s.2) :: hist) where
  lt := fun y k h => by
    simp only [nNew] at h ⊢
    split at h
    · cases h; omega
    · have := I.lt _ _ h; omega
  inj := fun x y k h1 h2 => by
    simp only [nNew] at h1 h2
    split at h1
    · rename_i e1
      split at h2
      · rename_i e2
        rw [e1, e2]
      · cases h1
        have := I.lt _ _ h2; omega
    · split at h2
      · cases h2
        have := I.lt _ _ h1; omega
      · exact I.inj _ _ _ h1 h2
  old := fun e he => by
    rcases List.mem_cons.mp he with rfl | he
    · refine ⟨by simp [nNew], fun y h => ?_, fun _ => by simp [nNew]⟩
      simp only [nNew] at h
      split at h
      · assumption
      · have := I.lt _ _ h
        simp at this
    · obtain ⟨h1, h2, h3⟩ := I.old e he
      refine ⟨by simp only [nNew]; omega, fun y h => ?_, fun ha => ?_⟩
      · simp only [nNew] at h
        split at h
        · have := Option.some.inj h
          omega
        · exact h2 y h
      · have h4 := h3 ha
        simp only [nNew]
        split
        · rename_i e1
          rw [e1] at h4 ha
          rw [hz ha] at h4
          cases h4
        · exact h4
  dis := fun e he e' he' h => by
    rcases List.mem_cons.mp he with rfl | he <;> rcases List.mem_cons.mp he' with rfl | he'
    · rfl
    · have := (I.old e' he').1
      simp only at h; omega
    · have := (I.old e he).1
      simp only at h; omega
    · exact I.dis e he e' he' h
theorem NInv.str {ac : Str → Bool} {s : NS} {hist : List (Str × Nat)} (I : NInv ac s hist) (z : Str) : NInv ac (nStr ac s z).2 ((z, (nStr ac s z).1) :: hist) := by
  unfold nStr
  by_cases ha : ac z = true
  · rw [if_pos ha]
    cases e : s.1 z with
    | none => exact I.new fun _ => e
    | some k =>
      refine ⟨I.lt, I.inj, fun x hx => ?_, fun x hx y hy h => ?_⟩
      · rcases List.mem_cons.mp hx with rfl | hx
        · exact ⟨I.lt _ _ e, fun y h => I.inj _ _ _ h e, fun _ => e⟩
        · exact I.old x hx
      · rcases List.mem_cons.mp hx with rfl | hx <;> rcases List.mem_cons.mp hy with rfl | hy
        · rfl
        · exact (I.old y hy).2.1 z (by rw [e]; exact congrArg some h)
        · exact ((I.old x hx).2.1 z (by rw [e]; exact congrArg some h.symm)).symm
        · exact I.dis x hx y hy h
  · rw [if_neg ha]
    exact I.new fun h => absurd h ha
/-- a part and what it became -/
def Bec (hist : List (Str × Nat)) (p q : Prt) : Prop := (p = q ∧ ∀ z, p ≠ .str z) ∨ ∃ z k, p = .str z ∧ q = .str (vn k) ∧ (z, k) ∈ hist
theorem Bec.mono {h h' : List (Str × Nat)} {p q : Prt} (b : Bec h p q) (i : ∀ e ∈ h, e ∈ h') : Bec h' p q := b.elim .inl fun ⟨z, k, e1, e2, e3⟩ => .inr ⟨z, k, e1, e2, i _ e3⟩
theorem NInv.part {ac : Str → Bool} {s : NS} {hist : List (Str × Nat)} (I : NInv ac s hist) (p : Prt) : ∃ h', NInv ac (nPart ac s p).2 h' ∧ (∀ e ∈ hist, e ∈ h') ∧ Bec h' p (nPart ac s p).1 := by
  cases p with
  | non => exact ⟨hist, I, fun e he => he, .inl ⟨rfl, fun z h => nomatch h⟩⟩
  | int i => exact ⟨hist, I, fun e he => he, .inl ⟨rfl, fun z h => nomatch h⟩⟩
  | str z => exact ⟨_, I.str z, fun e he => List.mem_cons_of_mem _ he, .inr ⟨z, _, rfl, rfl, List.mem_cons_self⟩⟩
abbrev Becs (hist : List (Str × Nat)) : List Rw → List Rw → Prop := Paired fun p q => Bec hist p.1 q.1 ∧ Bec hist p.2 q.2
theorem NInv.rows {ac : Str → Bool} : ∀ (ps : List Rw) {s : NS} {hist : List (Str × Nat)}, NInv ac s hist → ∃ h', NInv ac (nRows ac s ps).2 h' ∧ (∀ e ∈ hist, e ∈ h') ∧ Becs h' ps (nRows ac s ps).1
  | [], s, hist, I => ⟨hist, I, fun e he => he, .nil⟩
  | p :: r, s, hist, I => by
    obtain ⟨h1, I1, i1, b1⟩ := I.part p.1
    obtain ⟨h2, I2, i2, b2⟩ := I1.part p.2
    obtain ⟨h3, I3, i3, b3⟩ := NInv.rows r I2
    exact ⟨h3, I3, fun e he => i3 _ (i2 _ (i1 _ he)), .cons ⟨b1.mono fun e he => i3 _ (i2 _ he), b2.mono i3⟩ b3⟩

theorem paired_get {α β : Type} {F : α → β → Prop} : ∀ {xs : List α} {ys : List β}, Paired F xs ys → ∀ {i : Nat} {a : α}, xs[i]? = some a → ∃ b, ys[i]? = some b ∧ F a b
  | _, _, .nil, i, a, h => by simp at h
  | _, _, .cons f r, 0, a, h => by
    simp only [List.getElem?_cons_zero, Option.some.injEq] at h
    subst h
    exact ⟨_, rfl, f⟩
  | _, _, .cons f r, i + 1, a, h => by
    simp only [List.getElem?_cons_succ] at h ⊢
    exact paired_get r h
theorem paired_get2 {α β : Type} {F : α → β → Prop} {xs : List α} {ys : List β} (h : Paired F xs ys) {i : Nat} {a : α} {b : β} (h1 : xs[i]? = some a) (h2 : ys[i]? = some b) : F a b := by
  obtain ⟨c, e, f⟩ := paired_get h h1
  rw [h2] at e
  cases e
  exact f
theorem paired_of {α β : Type} {F : α → β → Prop} : ∀ {xs : List α} {ys : List β}, xs.length = ys.length → (∀ (i : Nat) a b, xs[i]? = some a → ys[i]? = some b → F a b) → Paired F xs ys
  | [], [], _, _ => .nil
  | x :: xs, y :: ys, hl, h => .cons (h 0 x y rfl rfl) (paired_of (by simpa using hl) fun i a b h1 h2 => h (i + 1) a b (by simpa using h1) (by simpa using h2))

/-! names are told apart -/
theorem vn_inj {a b : Nat} (h : vn a = vn b) : a = b := by
  have h1 : (("v" : Str).cps ++ (Str.ofString (toString (a : Int))).cps) = (("v" : Str).cps ++ (Str.ofString (toString (b : Int))).cps) := congrArg Str.cps h
  have h2 := (Array.append_right_inj _).mp h1
  rw [Str.ofString_eq_toList, Str.ofString_eq_toList] at h2
  have h3 : (toString (a : Int)).toList.map Char.toNat = (toString (b : Int)).toList.map Char.toNat := by simpa using h2
  have h4 : (toString (a : Int)).toList = (toString (b : Int)).toList := (List.map_inj_right (fun x y e => Char.toNat_inj.mp e)).mp h3
  have e1 : ∀ n : Nat, toString (n : Int) = Nat.repr n := fun n => rfl
  rw [e1, e1, Nat.toList_repr, Nat.toList_repr] at h4
  have := congrArg (fun l => Nat.ofDigitChars 10 l 0) h4
  simpa using this
theorem norm_bec (ps : List Rw) : ∃ hist, Becs hist ps (norm ps) ∧ (∀ e ∈ hist, ∀ e' ∈ hist, e.2 = e'.2 → e.1 = e'.1) ∧ ∀ e ∈ hist, ∀ e' ∈ hist, e.1 = e'.1 → acr ps e.1 = true → e.2 = e'.2 := by
  have I0 : NInv (acr ps) ns0 [] := ⟨fun z k h => by simp [ns0] at h, fun z y k h => by simp [ns0] at h, fun e he => absurd he (by simp), fun e he => absurd he (by simp)⟩
  obtain ⟨h', I, _, b⟩ := NInv.rows ps I0
  refine ⟨h', b, I.dis, fun e he e' he' h ha => ?_⟩
  have h1 := (I.old e he).2.2 ha
  have h2 := (I.old e' he').2.2 (by rw [← h]; exact ha)
  rw [h, h2] at h1
  exact (Option.some.inj h1).symm
theorem norm_length (ps : List Rw) : (norm ps).length = ps.length := nRows_length _ _ _

/-! two rows alike have one normal form -/
def Kq (Z : Str → Str → Prop) (ac ac' : Str → Bool) (p q : Prt) : Prop := (p = q ∧ ∀ z, p ≠ .str z) ∨ ∃ z z', p = .str z ∧ q = .str z' ∧ (Z z z' ∨ (ac z = false ∧ ac' z' = false))
structure Sim (Z : Str → Str → Prop) (s s' : NS) : Prop where
  m : s.2 = s'.2
  f : ∀ z z', Z z z' → s.1 z = s'.1 z'
theorem sim_part {Z : Str → Str → Prop} {ac ac' : Str → Bool} (hZ : ∀ z z' y y', Z z z' → Z y y' → (z = y ↔ z' = y')) (ha : ∀ z z', Z z z' → ac z = true ∧ ac' z' = true) {s s' : NS} (S : Sim Z s s') {p q : Prt} (k : Kq Z ac ac' p q) :
    (nPart ac s p).1 = (nPart ac' s' q).1 ∧ Sim Z (nPart ac s p).2 (nPart ac' s' q).2 := by
  rcases k with ⟨rfl, h⟩ | ⟨z, z', rfl, rfl, h⟩
  · cases p with
    | non => exact ⟨rfl, S⟩
    | int i => exact ⟨rfl, S⟩
    | str z => exact absurd rfl (h z)
  · have new : (∀ y y', Z y y' → (y = z ↔ y' = z')) → Sim Z (nNew s z) (nNew s' z') := fun hy => ⟨by simp [nNew, S.m], fun y y' e => by
      have e1 := hy y y' e
      simp only [nNew]
      by_cases e2 : y = z
      · rw [if_pos e2, if_pos (e1.mp e2), S.m]
      · rw [if_neg e2, if_neg fun e3 => e2 (e1.mpr e3)]
        exact S.f y y' e⟩
    rcases h with h | ⟨h1, h2⟩
    · obtain ⟨a1, a2⟩ := ha z z' h
      have e := S.f z z' h
      simp only [nPart, nStr, a1, a2, if_true]
      rw [← e]
      cases s.1 z with
      | none => exact ⟨by simp only [S.m], new fun y y' hy => hZ y y' z z' hy h⟩
      | some k => exact ⟨rfl, S⟩
    · simp only [nPart, nStr, h1, h2, Bool.false_eq_true, if_false]
      refine ⟨by simp only [S.m], new fun y y' hy => ?_⟩
      obtain ⟨a1, a2⟩ := ha y y' hy
      refine ⟨fun e => ?_, fun e => ?_⟩
      · rw [e, h1] at a1
        cases a1
      · rw [e, h2] at a2
        cases a2
theorem sim_rows {Z : Str → Str → Prop} {ac ac' : Str → Bool} (hZ : ∀ z z' y y', Z z z' → Z y y' → (z = y ↔ z' = y')) (ha : ∀ z z', Z z z' → ac z = true ∧ ac' z' = true) :
    ∀ {ps qs : List Rw}, Paired (fun p q => Kq Z ac ac' p.1 q.1 ∧ Kq Z ac ac' p.2 q.2) ps qs → ∀ {s s' : NS}, Sim Z s s' → (nRows ac s ps).1 = (nRows ac' s' qs).1
  | _, _, .nil, s, s', S => rfl
  | _, _, .cons f r, s, s', S => by
    obtain ⟨e1, S1⟩ := sim_part hZ ha S f.1
    obtain ⟨e2, S2⟩ := sim_part hZ ha S1 f.2
    have e3 := sim_rows hZ ha r S2
    simp only [nRows, nRow, e1, e2, e3]
/-- what stands on both sides in one place of the first, does so in the second -/
def Sh (ps qs : List Rw) : Prop := ∀ (i j : Nat) p q p' q', ps[i]? = some p → ps[j]? = some q → qs[i]? = some p' → qs[j]? = some q' → ∀ z, p.1 = .str z → q.2 = .str z → ∃ z', p'.1 = .str z' ∧ q'.2 = .str z'
def kd (p q : Prt) : Prop := (p = q ∧ ∀ z, p ≠ .str z) ∨ ∃ z z', p = .str z ∧ q = .str z'
theorem kd.symm {p q : Prt} (h : kd p q) : kd q p := h.elim (fun ⟨e, n⟩ => .inl ⟨e.symm, e ▸ n⟩) fun ⟨z, z', a, b⟩ => .inr ⟨z', z, b, a⟩
abbrev Kinds : List Rw → List Rw → Prop := Paired fun p q => kd p.1 q.1 ∧ kd p.2 q.2
theorem Kinds.symm : ∀ {ps qs : List Rw}, Kinds ps qs → Kinds qs ps
  | _, _, .nil => .nil
  | _, _, .cons f r => .cons ⟨f.1.symm, f.2.symm⟩ (Kinds.symm r)
/-- at one place -/
def At1 (ps qs : List Rw) (z z' : Str) : Prop := ∃ (i : Nat) (p q : Rw), ps[i]? = some p ∧ qs[i]? = some q ∧ ((p.1 = .str z ∧ q.1 = .str z') ∨ (p.2 = .str z ∧ q.2 = .str z'))
theorem At1.symm {ps qs : List Rw} {z z' : Str} (h : At1 ps qs z z') : At1 qs ps z' z := by
  obtain ⟨i, p, q, h1, h2, h3⟩ := h
  exact ⟨i, q, p, h2, h1, h3.elim (fun h => .inl ⟨h.2, h.1⟩) fun h => .inr ⟨h.2, h.1⟩⟩
theorem acr_iff {ps : List Rw} {z : Str} : acr ps z = true ↔ (∃ (i : Nat) (p : Rw), ps[i]? = some p ∧ p.1 = .str z) ∧ ∃ (i : Nat) (p : Rw), ps[i]? = some p ∧ p.2 = .str z := by
  simp only [acr, Bool.and_eq_true, List.any_eq_true, decide_eq_true_eq]
  constructor
  · rintro ⟨⟨p, hp, e1⟩, ⟨q, hq, e2⟩⟩
    obtain ⟨i, hi⟩ := List.getElem?_of_mem hp
    obtain ⟨j, hj⟩ := List.getElem?_of_mem hq
    exact ⟨⟨i, p, hi, e1⟩, ⟨j, q, hj, e2⟩⟩
  · rintro ⟨⟨i, p, hi, e1⟩, ⟨j, q, hj, e2⟩⟩
    exact ⟨⟨p, List.mem_of_getElem? hi, e1⟩, ⟨q, List.mem_of_getElem? hj, e2⟩⟩
section
variable {ps qs : List Rw} (hk : Kinds ps qs) (h1 : Sh ps qs)
include hk h1
theorem acr_to {z z' : Str} (a : At1 ps qs z z') (h : acr ps z = true) : acr qs z' = true := by
  obtain ⟨⟨i1, p1, g1, e1⟩, ⟨i2, p2, g2, e2⟩⟩ := acr_iff.mp h
  obtain ⟨q1, f1, _⟩ := paired_get hk g1
  obtain ⟨q2, f2, _⟩ := paired_get hk g2
  obtain ⟨i, p, q, a1, a2, a3⟩ := a
  rcases a3 with ⟨c1, c2⟩ | ⟨c1, c2⟩
  · obtain ⟨y, y1, y2⟩ := h1 i i2 p p2 q q2 a1 g2 a2 f2 z c1 e2
    rw [c2] at y1
    cases y1
    exact acr_iff.mpr ⟨⟨i, q, a2, c2⟩, ⟨i2, q2, f2, y2⟩⟩
  · obtain ⟨y, y1, y2⟩ := h1 i1 i p1 p q1 q g1 a1 f1 a2 z e1 c1
    rw [c2] at y2
    cases y2
    exact acr_iff.mpr ⟨⟨i1, q1, f1, y1⟩, ⟨i, q, a2, c2⟩⟩
theorem at_eq {z z' y' : Str} (a : At1 ps qs z z') (b : At1 ps qs z y') (h : acr ps z = true) : z' = y' := by
  obtain ⟨⟨i1, p1, g1, e1⟩, ⟨i2, p2, g2, e2⟩⟩ := acr_iff.mp h
  obtain ⟨q1, f1, _⟩ := paired_get hk g1
  obtain ⟨q2, f2, _⟩ := paired_get hk g2
  -- what the partner on the other side says
  have side : ∀ x, At1 ps qs z x → (q1.1 = .str x ∨ q2.2 = .str x) ∧ (q1.1 = q2.2) := by
    rintro x ⟨i, p, q, a1, a2, a3⟩
    obtain ⟨w, w1, w2⟩ := h1 i1 i2 p1 p2 q1 q2 g1 g2 f1 f2 z e1 e2
    refine ⟨?_, w1.trans w2.symm⟩
    rcases a3 with ⟨c1, c2⟩ | ⟨c1, c2⟩
    · obtain ⟨y, y1, y2⟩ := h1 i i2 p p2 q q2 a1 g2 a2 f2 z c1 e2
      rw [c2] at y1
      cases y1
      exact .inr y2
    · obtain ⟨y, y1, y2⟩ := h1 i1 i p1 p q1 q g1 a1 f1 a2 z e1 c1
      rw [c2] at y2
      cases y2
      exact .inl y1
  obtain ⟨s1, e⟩ := side _ a
  obtain ⟨s2, _⟩ := side _ b
  have t1 : q1.1 = .str z' := s1.elim id fun h => e.trans h
  have t2 : q1.1 = .str y' := s2.elim id fun h => e.trans h
  rw [t1] at t2
  cases t2
  rfl
end
theorem norm_same {ps qs : List Rw} (hk : Kinds ps qs) (h1 : Sh ps qs) (h2 : Sh qs ps) : norm ps = norm qs := by
  unfold norm
  refine sim_rows (Z := fun z z' => At1 ps qs z z' ∧ acr ps z = true) ?_ ?_ (paired_of (by exact hk.length) ?_) ⟨rfl, fun _ _ _ => rfl⟩
  · rintro z z' y y' ⟨a, ha⟩ ⟨b, hb⟩
    constructor
    · rintro rfl
      exact at_eq hk h1 a b ha
    · rintro rfl
      exact at_eq hk.symm h2 a.symm b.symm (acr_to hk h1 a ha)
  · rintro z z' ⟨a, ha⟩
    exact ⟨ha, acr_to hk h1 a ha⟩
  · intro i p q hp hq
    have one : ∀ x y, kd x y → (∀ z z', x = .str z → y = .str z' → At1 ps qs z z') → Kq (fun z z' => At1 ps qs z z' ∧ acr ps z = true) (acr ps) (acr qs) x y := by
      rintro x y (h | ⟨z, z', e1, e2⟩) at_
      · exact .inl h
      · refine .inr ⟨z, z', e1, e2, ?_⟩
        have a := at_ z z' e1 e2
        cases e : acr ps z with
        | true => exact .inl ⟨a, e⟩
        | false =>
          refine .inr ⟨rfl, ?_⟩
          cases e' : acr qs z' with
          | false => rfl
          | true =>
            have := acr_to hk.symm h2 a.symm e'
            rw [e] at this
            cases this
    obtain ⟨k1, k2⟩ := paired_get2 hk hp hq
    exact ⟨one _ _ k1 fun z z' e1 e2 => ⟨i, p, q, hp, hq, .inl ⟨e1, e2⟩⟩, one _ _ k2 fun z z' e1 e2 => ⟨i, p, q, hp, hq, .inr ⟨e1, e2⟩⟩⟩
theorem bec_kd {h : List (Str × Nat)} {p q : Prt} (b : Bec h p q) : kd p q := b.elim .inl fun ⟨z, k, e1, e2, _⟩ => .inr ⟨z, _, e1, e2⟩
theorem bec_str {h : List (Str × Nat)} {p q : Prt} (b : Bec h p q) {z : Str} (e : p = .str z) : ∃ k, q = .str (vn k) ∧ (z, k) ∈ h := by
  rcases b with ⟨_, n⟩ | ⟨z', k, e1, e2, e3⟩
  · exact absurd e (n z)
  · rw [e] at e1
    cases e1
    exact ⟨k, e2, e3⟩
theorem bec_out {h : List (Str × Nat)} {p q : Prt} (b : Bec h p q) {y : Str} (e : q = .str y) : ∃ z k, p = .str z ∧ y = vn k ∧ (z, k) ∈ h := by
  rcases b with ⟨e1, n⟩ | ⟨z', k, e1, e2, e3⟩
  · rw [← e1] at e
    exact absurd e (n y)
  · rw [e2] at e
    cases e
    exact ⟨z', k, e1, rfl, e3⟩
theorem norm_kinds (ps : List Rw) : Kinds ps (norm ps) := by
  obtain ⟨h, b, _⟩ := norm_bec ps
  exact L2.Paired.mapP b fun p q ⟨b1, b2⟩ => ⟨bec_kd b1, bec_kd b2⟩
theorem norm_sh (ps : List Rw) : Sh ps (norm ps) := by
  obtain ⟨h, b, _, d⟩ := norm_bec ps
  intro i j p q p' q' g1 g2 f1 f2 z e1 e2
  obtain ⟨k1, r1, m1⟩ := bec_str (paired_get2 b g1 f1).1 e1
  obtain ⟨k2, r2, m2⟩ := bec_str (paired_get2 b g2 f2).2 e2
  have : k1 = k2 := d _ m1 _ m2 rfl (acr_iff.mpr ⟨⟨i, p, g1, e1⟩, ⟨j, q, g2, e2⟩⟩)
  subst this
  exact ⟨_, r1, r2⟩
theorem norm_hs (ps : List Rw) : Sh (norm ps) ps := by
  obtain ⟨h, b, d, _⟩ := norm_bec ps
  intro i j p q p' q' g1 g2 f1 f2 z e1 e2
  obtain ⟨z1, k1, r1, y1, m1⟩ := bec_out (paired_get2 b f1 g1).1 e1
  obtain ⟨z2, k2, r2, y2, m2⟩ := bec_out (paired_get2 b f2 g2).2 e2
  have ek : k1 = k2 := vn_inj (y1.symm.trans y2)
  have : z1 = z2 := d _ m1 _ m2 ek
  subst this
  exact ⟨z1, r1, r2⟩
theorem norm_norm (ps : List Rw) : norm (norm ps) = norm ps := (norm_same (norm_kinds ps) (norm_sh ps) (norm_hs ps)).symm

/-! ### the rule's pairs: instances -/
def alike : Prt → Prt → Prop
  | .non, .non => True
  | .non, _ => False
  | _, .non => False
  | .str _, _ => True
  | a, b => a = b
structure Inst (W G : List Rw) : Prop where
  len : W.length = G.length
  kin : ∀ (i : Nat) p q, W[i]? = some p → G[i]? = some q → alike p.1 q.1 ∧ alike p.2 q.2
  bnd : ∀ (i j : Nat) p q p' q', W[i]? = some p → W[j]? = some q → G[i]? = some p' → G[j]? = some q' → ∀ z, p.1 = .str z → q.2 = .str z → q'.2 = p'.1
theorem alike_refl : ∀ p, alike p p
  | .non => trivial | .int _ => rfl | .str _ => trivial
theorem Inst.refl (W : List Rw) : Inst W W := by
  refine ⟨rfl, fun i p q h1 h2 => ?_, fun i j p q p' q' h1 h2 h3 h4 z e1 e2 => ?_⟩
  · rw [h1] at h2
    cases h2
    exact ⟨alike_refl _, alike_refl _⟩
  · rw [h1] at h3
    rw [h2] at h4
    cases h3
    cases h4
    rw [e1, e2]
theorem get_of_len {W G : List Rw} (h : W.length = G.length) {i : Nat} {p : Rw} (e : W[i]? = some p) : ∃ q, G[i]? = some q := by
  obtain ⟨l, _⟩ := List.getElem?_eq_some_iff.mp e
  exact ⟨G[i]'(by omega), by simp [show i < G.length by omega]⟩
theorem alike_trans {a b c : Prt} (h1 : alike a b) (h2 : alike b c) : alike a c := by
  cases a <;> cases b <;> cases c <;> simp_all [alike]
theorem Inst.trans {A B C : List Rw} (h1 : Inst A B) (h2 : Inst B C) : Inst A C := by
  refine ⟨h1.len.trans h2.len, fun i p q e1 e2 => ?_, fun i j p q p' q' e1 e2 e3 e4 z z1 z2 => ?_⟩
  · obtain ⟨m, em⟩ := get_of_len h1.len e1
    obtain ⟨a1, a2⟩ := h1.kin i p m e1 em
    obtain ⟨b1, b2⟩ := h2.kin i m q em e2
    exact ⟨alike_trans a1 b1, alike_trans a2 b2⟩
  · obtain ⟨m, em⟩ := get_of_len h1.len e1
    obtain ⟨n, en⟩ := get_of_len h1.len e2
    have b := h1.bnd i j p q m n e1 e2 em en z z1 z2
    obtain ⟨k1, _⟩ := h2.kin i m p' em e3
    obtain ⟨_, k2⟩ := h2.kin j n q' en e4
    rw [b] at k2
    cases e : m.1 with
    | non =>
      rw [e] at k1 k2
      cases e5 : p'.1 <;> cases e6 : q'.2 <;> simp_all [alike]
    | int i =>
      rw [e] at k1 k2
      cases e5 : p'.1 <;> cases e6 : q'.2 <;> simp_all [alike]
    | str y => exact h2.bnd i j m n p' q' em en e3 e4 y e (b.trans e)
theorem inst_both {A B : List Rw} (h1 : Inst A B) (h2 : Inst B A) : Kinds A B ∧ Sh A B := by
  have both : ∀ a b : Prt, alike a b → alike b a → kd a b := by
    intro a b x y
    cases a <;> cases b <;> simp_all [alike, kd]
  refine ⟨paired_of h1.len fun i a b e1 e2 => ?_, fun i j p q p' q' e1 e2 e3 e4 z z1 z2 => ?_⟩
  · obtain ⟨a1, a2⟩ := h1.kin i a b e1 e2
    obtain ⟨b1, b2⟩ := h2.kin i b a e2 e1
    exact ⟨both _ _ a1 b1, both _ _ a2 b2⟩
  · have b := h1.bnd i j p q p' q' e1 e2 e3 e4 z z1 z2
    obtain ⟨a1, _⟩ := h1.kin i p p' e1 e3
    obtain ⟨b1, _⟩ := h2.kin i p' p e3 e1
    rw [z1] at a1 b1
    cases e : p'.1 with
    | str y => exact ⟨y, rfl, b.trans e⟩
    | _ => simp_all [alike]
/-- instances of each other are equal, in normal form -/
theorem inst_norm {ps qs : List Rw} (h1 : Inst (norm ps) (norm qs)) (h2 : Inst (norm qs) (norm ps)) : norm ps = norm qs := by
  obtain ⟨k, s1⟩ := inst_both h1 h2
  obtain ⟨_, s2⟩ := inst_both h2 h1
  have := norm_same k s1 s2
  rwa [norm_norm, norm_norm] at this
/-- an image of rows, in normal form, is an instance of them -/
def img (h : Str → Prt) : Prt → Prt
  | .str z => h z
  | p => p
theorem inst_img (W : List Rw) (h : Str → Prt) (hn : ∀ z, h z ≠ .non) : Inst W (norm (W.map fun p => (img h p.1, img h p.2))) := by
  have kk := norm_kinds (W.map fun p => (img h p.1, img h p.2))
  have one : ∀ a c, kd (img h a) c → alike a c := by
    intro a c k
    cases a with
    | non =>
      rcases k with ⟨e, _⟩ | ⟨z, z', e, _⟩
      · rw [← e]
        trivial
      · cases e
    | int i =>
      rcases k with ⟨e, _⟩ | ⟨z, z', e, _⟩
      · rw [← e]
        rfl
      · cases e
    | str z =>
      rcases k with ⟨e, _⟩ | ⟨y, y', e, e'⟩
      · have := hn z
        rw [← e]
        simp only [img]
        cases e2 : h z <;> simp_all [alike]
      · rw [e']
        trivial
  refine ⟨by rw [norm_length, List.length_map], fun i p q e1 e2 => ?_, fun i j p q p' q' e1 e2 e3 e4 z z1 z2 => ?_⟩
  · have m1 : (W.map fun p => (img h p.1, img h p.2))[i]? = some (img h p.1, img h p.2) := by rw [List.getElem?_map, e1]; rfl
    obtain ⟨k1, k2⟩ := paired_get2 kk m1 e2
    exact ⟨one _ _ k1, one _ _ k2⟩
  · have m1 : (W.map fun p => (img h p.1, img h p.2))[i]? = some (img h p.1, img h p.2) := by rw [List.getElem?_map, e1]; rfl
    have m2 : (W.map fun p => (img h p.1, img h p.2))[j]? = some (img h q.1, img h q.2) := by rw [List.getElem?_map, e2]; rfl
    obtain ⟨k1, _⟩ := paired_get2 kk m1 e3
    obtain ⟨_, k2⟩ := paired_get2 kk m2 e4
    simp only [z1, z2, img] at k1 k2
    cases e : h z with
    | non => exact absurd e (hn z)
    | int n =>
      rw [e] at k1 k2
      rcases k1 with ⟨r1, _⟩ | ⟨_, _, r1, _⟩
      · rcases k2 with ⟨r2, _⟩ | ⟨_, _, r2, _⟩
        · rw [← r1, ← r2]
        · cases r2
      · cases r1
    | str y =>
      obtain ⟨w, w1, w2⟩ := norm_sh _ i j _ _ p' q' m1 m2 e3 e4 y (by simp only [z1, img, e]) (by simp only [z2, img, e])
      rw [w1, w2]
/-- where the parts of a row are the same, they are so in an instance -/
theorem inst_same {W G : List Rw} (h : Inst W G) {i : Nat} {p q : Rw} (e1 : W[i]? = some p) (e2 : G[i]? = some q) (e : p.1 = p.2) : q.1 = q.2 := by
  obtain ⟨k1, k2⟩ := h.kin i p q e1 e2
  rw [← e] at k2
  cases e3 : p.1 with
  | str z => exact (h.bnd i i p p q q e1 e1 e2 e2 z e3 (e ▸ e3)).symm
  | non =>
    rw [e3] at k1 k2
    clear e e3 e1 e2 h
    cases e4 : q.1 <;> cases e5 : q.2 <;> rw [e4] at k1 <;> rw [e5] at k2 <;> simp_all [alike]
  | int n =>
    rw [e3] at k1 k2
    clear e e3 e1 e2 h
    cases e4 : q.1 <;> cases e5 : q.2 <;> rw [e4] at k1 <;> rw [e5] at k2 <;> simp_all [alike]
end Z
namespace Z
open PySem PySem.Spec PyProof.Rows L2
/-! ### rows as they lie -/
def RowAt (K : PySem.W.Frag) (H : Hp) (x : V) (p : Rw) : Prop := ∃ r, x = .ref r ∧ SqT K H r [p.1.v, p.2.v]
abbrev RowsAt (K : PySem.W.Frag) (H : Hp) : List V → List Rw → Prop := Paired (RowAt K H)
theorem Same.tup {K : PySem.W.Frag} {H H' : Hp} {a : Addr} {xs : List V} (s : Same H H') (h : SqT K H a xs) : SqT K H' a xs := by
  rcases h with (h | ⟨o, h⟩) | h
  · exact .inl (.inl (s _ _ h))
  · exact .inl (.inr ⟨o, s _ _ h⟩)
  · exact .inr h
theorem RowAt.same {K : PySem.W.Frag} {H H' : Hp} {x : V} {p : Rw} (h : RowAt K H x p) (s : Same H H') : RowAt K H' x p := by
  obtain ⟨r, e, q⟩ := h
  exact ⟨r, e, Z.Same.tup s q⟩
theorem RowsAt.same {K : PySem.W.Frag} {H H' : Hp} {xs : List V} {ps : List Rw} (h : RowsAt K H xs ps) (s : Same H H') : RowsAt K H' xs ps := L2.Paired.mapP h fun _ _ q => q.same s
def pick (b : Bool) (p : Rw) : Prt := if b = true then p.2 else p.1
/-- a set of texts -/
def SetHas (P : Program) (w : World) (H : Hp) (D : Addr) (f : Str → Bool) : Prop := ∃ S n, H D = some (SetK P w D S n) ∧ ∀ z, S (.inr z) = f z
theorem take_any {α : Type} {l : List α} {i : Nat} {p : α} (h : l[i]? = some p) (f : α → Bool) : (l.take (i + 1)).any f = ((l.take i).any f || f p) := by
  rw [List.take_add_one, h]
  simp
theorem sc_side {P : Program} {w : World} {K : PySem.W.Frag} (bb : Bool) {a : Addr} {xs : List V} {ps : List Rw} {s0 s1 s2 s3 s4 s5 s6 s7 s8 s9 : Option V} {H1 : Hp} {Q : VK} (hq : SqT K H1 a xs) (hr : RowsAt K H1 xs ps) (hl : xs.length ≤ 1000)
    (h : ∀ D H', H1 D = none → Same H1 H' → SetHas P w H' D (fun z => ps.any fun p => decide (pick bb p = .str z)) → Q (.ref D) H') :
    scGo P w (Itt K a) (gName 6) (zTru K (zIsiT K .str (tOp (zIx K) (zVar 6) (tC (.int (if bb = true then 1 else 0)))))) (tOp (zIx K) (zVar 6) (tC (.int (if bb = true then 1 else 0)))) [6] [s0, s1, s2, s3, s4, s5, s6, s7, s8, s9] H1 Q := by
  have hlen : ps.length = xs.length := hr.length.symm
  refine sc_z (walk_tup (xs := xs)) (fun D i H => Same H1 H ∧ ∃ S n, H D = some (SetK P w D S n) ∧ n ≤ i ∧ ∀ z, S (.inr z) = (ps.take i).any fun p => decide (pick bb p = .str z))
    (fun D hD => ⟨Same.put hD, _, 0, upd_same, Nat.le_refl _, fun z => by simp⟩) (fun D i H _ _ p => Z.Same.tup p.1 hq) (fun D i x H H' hD hi pv y => ?_) (fun D H hD pv => ?_)
  · obtain ⟨sm, S, n, e, hn, hS⟩ := pv
    obtain ⟨rfl, hx⟩ := y
    obtain ⟨p, hp, r, rfl, hrow⟩ := paired_get hr hx
    have hrow' := Z.Same.tup sm hrow
    have hat : atI [p.1.v, p.2.v] (if bb = true then 1 else 0) = some (pick bb p).v := by cases bb <;> rfl
    refine ⟨rfl, _, _, .inr hrow', hat, ?_⟩
    have nb : n + 1 < scanBound := Nat.lt_of_lt_of_le (show n + 1 < 1002 by omega) (by decide)
    cases ep : pick bb p with
    | non => exact ⟨sm, S, n, e, by omega, fun z => by rw [take_any hp, hS z, ep]; simp⟩
    | int j => exact ⟨sm, S, n, e, by omega, fun z => by rw [take_any hp, hS z, ep]; simp⟩
    | str z =>
      refine ⟨_, _, .inr hrow', hat, D, .inr z, S, n, rfl, by rw [ep]; rfl, e, nb, ?_, _, _, upd_same, ?_, fun y => ?_⟩
      · intro b o ho
        rw [upd_ne (ne_of_none ho hD)]
        exact sm _ _ ho
      · split <;> omega
      · rw [take_any hp, hS y, ep]
        by_cases hy : y = z
        · subst hy
          simp
        · have : ¬ z = y := fun e => hy e.symm
          simp [hy, this]
  · obtain ⟨sm, S, n, e, hn, hS⟩ := pv
    refine h D H hD sm ⟨S, n, e, fun z => ?_⟩
    rw [hS z, List.take_of_length_le (by omega)]

theorem len_app (x y : Str) : (x ++ y).length = x.length + y.length := by
  show (x.cps ++ y.cps).size = x.cps.size + y.cps.size
  simp
def But2 (a b : Addr) (H H' : Hp) : Prop := ∀ c o, H c = some o → c ≠ a → c ≠ b → H' c = some o
/-- the names that have been given -/
def NamesAt (H : Hp) (N : Addr) (st : NS) (c : Nat) : Prop := ∃ kvs, H N = some (.dK kvs) ∧ kvs.length ≤ c ∧ ∀ z, valV kvs (.inr z) = (st.1 z).map fun k => V.str (vn k)
theorem vn_txt (n : Nat) : (Str.empty ++ ("v" : Str)) ++ (toString ((n : Nat) : Int) : Str) = vn n := rfl
theorem small_log {n : Nat} (h : n ≤ 4000) : ((n : Nat) : Int).natAbs.log2 < 12 := by
  by_cases h0 : n = 0
  · subst h0
    decide
  · exact (Nat.log2_lt (by omega)).mpr (Nat.lt_of_le_of_lt (show ((n : Nat) : Int).natAbs ≤ 4000 by omega) (by decide))
theorem vn_len {n : Nat} (h : n ≤ 4000) : (vn n).length ≤ 14 := by
  have e := int_text_length_le (a := ((n : Nat) : Int)) (k := 12) (by decide) (small_log h)
  have e1 : (vn n).length = 1 + (Str.ofString (toString ((n : Nat) : Int))).length := by
    unfold vn
    rw [len_app]
    rfl
  rw [e1, PySem.ofString_length]
  omega
theorem names_new {H : Hp} {N : Addr} {st : NS} {c : Nat} {z : Str} {kvs : List (Key × V)} (hl : kvs.length ≤ c) (hv : ∀ y, valV kvs (.inr y) = (st.1 y).map fun k => V.str (vn k)) :
    NamesAt (upd H N (.dK (putK kvs (.inr z) (.str (vn st.2))))) N (nNew st z) (c + 1) := by
  refine ⟨_, upd_same, Nat.le_trans (length_putK _ _ _) (by omega), fun y => ?_⟩
  rw [valV_put]
  simp only [nNew]
  by_cases e : y = z
  · subst e
    simp
  · have : ¬ (Sum.inr y : Key) = .inr z := fun h => e (Sum.inr.inj h)
    rw [if_neg this, if_neg e, hv]
theorem part_step {P : Program} {w : World} {K : PySem.W.Frag} {g : Ads} {E : XK} {D : Ends} {C1 C2 N F S : Addr} {s0 s6 s9 : Option V} {f1 f2 : Str → Bool} {st : NS} {c : Nat} {acc : List V} (p : Prt) {H : Hp}
    (hN : NamesAt H N st c) (h1 : SetHas P w H C1 f1) (h2 : SetHas P w H C2 f2) (hS : H S = some (.lst acc)) (hNS : N ≠ S) (hc : c ≤ 3000) (ha : acc.length ≤ 3000) (hm : st.2 ≤ 3000)
    (k : ∀ H' s9', NamesAt H' N (nPart (fun z => f1 z && f2 z) st p).2 (c + 1) → H' S = some (.lst (acc ++ [(nPart (fun z => f1 z && f2 z) st p).1.v])) → But2 N S H H' →
      D.nx [s0, some (.ref C1), some (.ref C2), some (.ref N), some (.int ((nPart (fun z => f1 z && f2 z) st p).2.2 : Nat)), some (.ref F), s6, some (.ref S), some p.v, s9'] H') :
    R_normal_rows_9 P w K g E D [s0, some (.ref C1), some (.ref C2), some (.ref N), some (.int (st.2 : Nat)), some (.ref F), s6, some (.ref S), some p.v, s9] H := by
  have lt : acc.length < sizeLine := Nat.lt_of_le_of_lt ha (by decide)
  obtain ⟨kvs, eN, hl, hv⟩ := id hN
  have plain : (nPart (fun z => f1 z && f2 z) st p) = (p, st) → R_normal_rows_16 P w K g E D [s0, some (.ref C1), some (.ref C2), some (.ref N), some (.int (st.2 : Nat)), some (.ref F), s6, some (.ref S), some p.v, s9] H := by
    intro e
    refine ⟨.inl ⟨rfl, _, SqL.of hS⟩, S, acc, _, rfl, rfl, hS, lt, ?_⟩
    have k' := k (upd H S (.lst (acc ++ [p.v]))) s9 (by rw [e]; exact ⟨kvs, by rw [upd_ne hNS]; exact eN, by omega, hv⟩) (by rw [e, upd_same]) (fun b o hb n1 n2 => by rw [upd_ne n2]; exact hb)
    rw [e] at k'
    exact k'
  cases p with
  | non =>
    have p2 := plain rfl
    simp only [Prt.v] at p2 ⊢
    exact ifS_of false (fun Q q => q) (fun h => nomatch h) fun _ => p2
  | int i =>
    have p2 := plain rfl
    simp only [Prt.v] at p2 ⊢
    exact ifS_of false (fun Q q => q) (fun h => nomatch h) fun _ => p2
  | str z =>
    simp only [Prt.v]
    refine ifS_of true (fun Q q => q) (fun _ => ?_) fun h => nomatch h
    obtain ⟨S1, n1, e1, g1⟩ := h1
    obtain ⟨S2, n2, e2, g2⟩ := h2
    -- the name is given anew
    have fresh : ∀ s9', nStr (fun z => f1 z && f2 z) st z = (st.2, nNew st z) → R_normal_rows_12 P w K g E { D with nx := R_normal_rows_14 P w K g E D } [s0, some (.ref C1), some (.ref C2), some (.ref N), some (.int (st.2 : Nat)), some (.ref F), s6, some (.ref S), some (.str z), s9'] H := by
      intro s9' e
      have b1 : (Str.empty ++ ("v" : Str)).length ≤ sizeLine := by decide +kernel
      have b2 : ((Str.empty ++ ("v" : Str)) ++ (toString ((st.2 : Nat) : Int) : Str)).length ≤ sizeLine := by
        rw [vn_txt]
        exact Nat.le_trans (vn_len (by omega)) (by decide)
      refine ⟨_, rfl, b1, .inr ⟨_, rfl, Nat.lt_trans (small_log (by omega)) (by decide), _, rfl, b2, N, _, rfl, DPut.k (k := .inr z) eN (Nat.lt_of_le_of_lt (show kvs.length ≤ 3000 by omega) (by decide)), ?_⟩⟩
      refine ⟨_, rfl, _, _, rfl, rfl, ?_⟩
      have nn := names_new (H := H) (N := N) (z := z) hl hv
      obtain ⟨kvs', eN', hl', hv'⟩ := id nn
      have hg : DGet (upd H N (.dK (putK kvs (.inr z) (.str (vn st.2))))) N (.str z) (some (.str (vn st.2))) := by
        have q := DGet.k (k := .inr z) eN'
        rw [hv' z] at q
        simpa [nNew, kV] using q
      have hS' : upd H N (.dK (putK kvs (.inr z) (.str (vn st.2)))) S = some (.lst acc) := by
        rw [upd_ne hNS.symm]
        exact hS
      refine ⟨.inl ⟨rfl, _, SqL.of hS'⟩, N, _, rfl, hg, S, acc, _, rfl, rfl, hS', lt, ?_⟩
      have k' := k (upd (upd H N (.dK (putK kvs (.inr z) (.str (vn st.2))))) S (.lst (acc ++ [.str (vn st.2)]))) s9'
        (by simp only [nPart, e]; exact ⟨kvs', by rw [upd_ne hNS]; exact eN', hl', hv'⟩) (by simp only [nPart, e, Prt.v]; exact upd_same) (fun b o hb n1 n2 => by rw [upd_ne n2, upd_ne n1]; exact hb)
      simp only [nPart, e] at k'
      have ei : ((st.2 : Nat) : Int) + 1 = (((nNew st z).2 : Nat) : Int) := by simp [nNew]
      rw [← ei] at k'
      exact k'
    have old : ∀ s9' j, st.1 z = some j → nStr (fun z => f1 z && f2 z) st z = (j, st) → R_normal_rows_14 P w K g E D [s0, some (.ref C1), some (.ref C2), some (.ref N), some (.int (st.2 : Nat)), some (.ref F), s6, some (.ref S), some (.str z), s9'] H := by
      intro s9' j ej e
      have hg : DGet H N (.str z) (some (.str (vn j))) := by
        have q := DGet.k (k := .inr z) eN
        rw [hv z, ej] at q
        exact q
      refine ⟨.inl ⟨rfl, _, SqL.of hS⟩, N, _, rfl, hg, S, acc, _, rfl, rfl, hS, lt, ?_⟩
      have k' := k (upd H S (.lst (acc ++ [.str (vn j)]))) s9'
        (by simp only [nPart, e]; exact ⟨kvs, by rw [upd_ne hNS]; exact eN, by omega, hv⟩) (by simp only [nPart, e, Prt.v]; exact upd_same) (fun b o hb n1 n2 => by rw [upd_ne n2]; exact hb)
      simp only [nPart, e] at k'
      exact k'
    -- is it across?
    have test : ∀ c : Bool, c = (f1 z && f2 z) → R_normal_rows_11 P w K g E D [s0, some (.ref C1), some (.ref C2), some (.ref N), some (.int (st.2 : Nat)), some (.ref F), s6, some (.ref S), some (.str z), some (.bl c)] H := by
      intro c ec
      -- what is done once it is known whether the name is there
      have both : (if (!c) = true then True else (st.1 z).isSome = false) → R_normal_rows_12 P w K g E { D with nx := R_normal_rows_14 P w K g E D } [s0, some (.ref C1), some (.ref C2), some (.ref N), some (.int (st.2 : Nat)), some (.ref F), s6, some (.ref S), some (.str z), some (.bl c)] H := by
        intro h
        refine fresh _ ?_
        show (if (f1 z && f2 z) = true then _ else _) = _
        rw [← ec]
        cases c with
        | false => rfl
        | true =>
          have h' : (st.1 z).isSome = false := by simpa using h
          cases e : st.1 z with
          | none => rfl
          | some j => rw [e] at h'; cases h'
      refine seq_of (ifS_of (if (!c) = true then true else !(valV kvs (.inr z)).isSome) (fun Q q => ?_) (fun h => both ?_) fun h => ?_)
      · cases c with
        | false => exact q
        | true => exact ⟨N, valV kvs (.inr z), rfl, DGet.k (k := .inr z) eN, q⟩
      · cases c with
        | false => trivial
        | true =>
          have hd' : (!(valV kvs (.inr z)).isSome) = true := h
          rw [hv z] at hd'
          simpa using hd'
      · cases c with
        | false => cases h
        | true =>
          have hd' : (!(valV kvs (.inr z)).isSome) = false := h
          rw [hv z] at hd'
          cases e : st.1 z with
          | none => rw [e] at hd'; cases hd'
          | some j =>
            refine old _ j e ?_
            show (if (f1 z && f2 z) = true then _ else _) = _
            rw [← ec, if_pos rfl, e]
    refine ⟨.inr z, C1, S1, n1, rfl, rfl, e1, zite (fun b1 => ⟨.inr z, C2, S2, n2, rfl, rfl, e2, ?_⟩) fun b1 => ?_⟩
    · refine test _ ?_
      have : f1 z = true := (g1 z).symm.trans b1
      rw [this]
      exact g2 z
    · refine test false ?_
      have : f1 z = false := (g1 z).symm.trans b1
      rw [this]
      rfl

theorem nPart_le (ac : Str → Bool) (st : NS) (p : Prt) : (nPart ac st p).2.2 ≤ st.2 + 1 := by
  cases p with
  | non => exact Nat.le_succ _
  | int i => exact Nat.le_succ _
  | str z =>
    simp only [nPart, nStr]
    split
    · split <;> simp [nNew]
    · simp [nNew]
theorem nRows_le (ac : Str → Bool) : ∀ (ps : List Rw) (st : NS), (nRows ac st ps).2.2 ≤ st.2 + 2 * ps.length
  | [], st => by simp [nRows]
  | p :: r, st => by
    have h1 := nPart_le ac st p.1
    have h2 := nPart_le ac (nPart ac st p.1).2 p.2
    have h3 := nRows_le ac r (nRow ac st p).2
    simp only [nRows, nRow, List.length_cons] at h3 ⊢
    omega
theorem RowAt.but2 {K : PySem.W.Frag} {H H' : Hp} {x : V} {p : Rw} {N F : Addr} {kvs : List (Key × V)} {l : List V} (h : RowAt K H x p) (hN : H N = some (.dK kvs)) (hF : H F = some (.lst l)) (b : But2 N F H H') : RowAt K H' x p := by
  obtain ⟨r, e, q⟩ := h
  refine ⟨r, e, ?_⟩
  rcases q with (h | ⟨o, h⟩) | h
  · exact .inl (.inl (b _ _ h (fun z => by rw [z, hN] at h; cases h) fun z => by rw [z, hF] at h; cases h))
  · exact .inl (.inr ⟨o, b _ _ h (fun z => by rw [z, hN] at h; cases h) fun z => by rw [z, hF] at h; cases h⟩)
  · exact .inr h
theorem SetHas.to {P : Program} {w : World} {H H' : Hp} {D : Addr} {f : Str → Bool} (h : SetHas P w H D f) (k : ∀ o, H D = some o → H' D = some o) : SetHas P w H' D f := by
  obtain ⟨S, n, e, g⟩ := h
  exact ⟨S, n, k _ e, g⟩
theorem row_step {P : Program} {w : World} {K : PySem.W.Frag} {g : Ads} {E : XK} {D : Ends} {C1 C2 N F r : Addr} {s0 s7 s8 s9 : Option V} {f1 f2 : Str → Bool} {st : NS} {c : Nat} {acc : List V} {p : Rw} {H : Hp}
    (hN : NamesAt H N st c) (h1 : SetHas P w H C1 f1) (h2 : SetHas P w H C2 f2) (hF : H F = some (.lst acc)) (hNF : N ≠ F) (n1 : C1 ≠ N) (n2 : C2 ≠ N) (hr : SqT K H r [p.1.v, p.2.v]) (hc : c ≤ 2900) (ha : acc.length ≤ 2900) (hm : st.2 ≤ 2900)
    (k : ∀ H' T s6' s7' s8' s9', NamesAt H' N (nRow (fun z => f1 z && f2 z) st p).2 (c + 2) → H' F = some (.lst (acc ++ [.ref T])) → SqT K H' T [(nRow (fun z => f1 z && f2 z) st p).1.1.v, (nRow (fun z => f1 z && f2 z) st p).1.2.v] → But2 N F H H' →
      D.nx [s0, some (.ref C1), some (.ref C2), some (.ref N), some (.int ((nRow (fun z => f1 z && f2 z) st p).2.2 : Nat)), some (.ref F), s6', s7', s8', s9'] H') :
    R_normal_rows_7 P w K g E D [s0, some (.ref C1), some (.ref C2), some (.ref N), some (.int (st.2 : Nat)), some (.ref F), some (.ref r), s7, s8, s9] H := by
  refine ⟨show 0 ≤ sizeLine by decide, fun S hS => ?_⟩
  have sS : Same H (upd H S (.lst [])) := Same.put hS
  obtain ⟨kvs, eN, hl, hv⟩ := id hN
  have nNS : N ≠ S := ne_of_none eN hS
  have nFS : F ≠ S := ne_of_none hF hS
  have hN0 : NamesAt (upd H S (.lst [])) N st c := ⟨kvs, sS _ _ eN, hl, hv⟩
  have h10 := h1.to (H' := upd H S (.lst [])) fun o e => sS _ _ e
  have h20 := h2.to (H' := upd H S (.lst [])) fun o e => sS _ _ e
  have nC1 : C1 ≠ S := by obtain ⟨_, _, e, _⟩ := h1; exact ne_of_none e hS
  have nC2 : C2 ≠ S := by obtain ⟨_, _, e, _⟩ := h2; exact ne_of_none e hS
  have hS0 : (upd H S (.lst [])) S = some (.lst []) := upd_same
  have hr0 := Z.Same.tup sS hr
  generalize hHs : upd H S (.lst []) = Hs at hN0 h10 h20 hS0 sS hr0
  let ac : Str → Bool := fun z => f1 z && f2 z
  let sti : Nat → NS := fun i => match i with | 0 => st | 1 => (nPart ac st p.1).2 | _ => (nRow ac st p).2
  let aci : Nat → List V := fun i => match i with | 0 => [] | 1 => [(nPart ac st p.1).1.v] | _ => [(nRow ac st p).1.1.v, (nRow ac st p).1.2.v]
  have le1 := nPart_le ac st p.1
  refine ⟨r, rfl, ⟨_, hr0⟩, for_z (walk_tup (xs := [p.1.v, p.2.v])) (fun i σ H' => (∃ s8 s9, σ = [s0, some (.ref C1), some (.ref C2), some (.ref N), some (.int ((sti i).2 : Nat)), some (.ref F), some (.ref r), some (.ref S), s8, s9]) ∧
    NamesAt H' N (sti i) (c + i) ∧ H' S = some (.lst (aci i)) ∧ But2 N S Hs H') ⟨⟨_, _, rfl⟩, hN0, hS0, fun _ _ e _ _ => e⟩ (fun i σ H' _ pv => ?_) (fun i x σ H1 H1' hi pv y => ?_) (fun σ H1 pv => ?_)⟩
  · have b := pv.2.2.2
    obtain ⟨kv, eN1, _⟩ := hN0
    rcases hr0 with (h | ⟨o, h⟩) | h
    · exact .inl (.inl (b _ _ h (fun z => by rw [z, eN1] at h; cases h) fun z => by rw [z, hS0] at h; cases h))
    · exact .inl (.inr ⟨o, b _ _ h (fun z => by rw [z, eN1] at h; cases h) fun z => by rw [z, hS0] at h; cases h⟩)
    · exact .inr h
  · obtain ⟨⟨s8', s9', e1⟩, pN, pS, b⟩ := pv
    obtain ⟨rfl, hx⟩ := y
    subst e1
    have g1 := h10.to (H' := H1') fun o e => b _ _ e n1 nC1
    have g2 := h20.to (H' := H1') fun o e => b _ _ e n2 nC2
    match i, hx, hi with
    | 0, hx, _ =>
      cases hx
      exact part_step p.1 pN g1 g2 pS nNS (by omega) (by simp [aci]) (by simp only [sti]; omega) fun H' s9'' q1 q2 q3 => ⟨⟨_, _, rfl⟩, q1, q2, fun c o e x1 x2 => q3 _ _ (b _ _ e x1 x2) x1 x2⟩
    | 1, hx, _ =>
      cases hx
      exact part_step p.2 pN g1 g2 pS nNS (by omega) (by simp [aci]) (by simp only [sti]; omega) fun H' s9'' q1 q2 q3 => ⟨⟨_, _, rfl⟩, q1, q2, fun c o e x1 x2 => q3 _ _ (b _ _ e x1 x2) x1 x2⟩
    | i + 2, hx, hi => simp at hi; omega
  · obtain ⟨⟨s8', s9', e1⟩, pN, pS, b⟩ := pv
    subst e1
    have pF : H1 F = some (.lst acc) := b _ _ (sS _ _ hF) hNF.symm nFS
    refine ⟨.inl ⟨rfl, _, SqL.of pF⟩, aci 2, .inl ⟨SqL.of pS, fun T hT => ?_⟩⟩
    have sT : Same H1 (upd H1 T (.tup (aci 2))) := Same.put hT
    have pF' := sT _ _ pF
    refine ⟨F, acc, _, rfl, rfl, pF', Nat.lt_of_le_of_lt ha (by decide), ?_⟩
    have nTF : T ≠ F := (ne_of_none pF hT).symm
    obtain ⟨kvs2, eN2, hl2, hv2⟩ := pN
    refine k _ T _ _ _ _ ⟨kvs2, by rw [upd_ne hNF]; exact sT _ _ eN2, hl2, hv2⟩ upd_same (.inl (.inl ?_)) fun b' o e x1 x2 => ?_
    · rw [upd_ne nTF, upd_same]
      rfl
    · rw [upd_ne x2]
      exact sT _ _ (b _ _ (sS _ _ e) x1 (ne_of_none e hS))

def sp_normal_rows (K : PySem.W.Frag) (g : Ads) : Sp := fun vs H Q E => ∃ a xs ps, vs = [.ref a] ∧ SqT K H a xs ∧ RowsAt K H xs ps ∧ xs.length ≤ 1000 ∧
  ∀ D ys H', Same H H' → SqT K H' D ys → RowsAt K H' ys (norm ps) → Q (.ref D) H'
theorem pf_normal_rows {P : Program} {w : World} {K : PySem.W.Frag} {g : Ads} (vs : List V) (H : Hp) (Q : VK) (E : XK) (h : sp_normal_rows K g vs H Q E) : rw_normal_rows P w K g vs H Q E := by
  obtain ⟨a, xs, ps, rfl, hq, hr, hl, q⟩ := h
  refine ⟨rfl, a, rfl, ⟨_, hq⟩, sc_side (P := P) (w := w) false hq hr hl fun C1 H1 c1 s1 g1 => ?_⟩
  refine ⟨a, rfl, ⟨_, Z.Same.tup s1 hq⟩, sc_side (P := P) (w := w) true (Z.Same.tup s1 hq) (RowsAt.same hr s1) hl fun C2 H2 c2 s2 g2 => ?_⟩
  refine fun N hN => ⟨show 0 ≤ sizeLine by decide, fun F hF => ?_⟩
  have g1' := g1.to (H' := H2) fun o e => s2 _ _ e
  have uN : Same H2 (upd H2 N (.dK [])) := Same.put hN
  have uF : Same (upd H2 N (.dK [])) (upd (upd H2 N (.dK [])) F (.lst [])) := Same.put hF
  have nNF : N ≠ F := ne_of_none upd_same hF
  have n1 : C1 ≠ N := by obtain ⟨_, _, e, _⟩ := g1'; exact ne_of_none e hN
  have n2 : C2 ≠ N := by obtain ⟨_, _, e, _⟩ := g2; exact ne_of_none e hN
  have m1 : C1 ≠ F := by obtain ⟨_, _, e, _⟩ := g1'; exact ne_of_none (uN _ _ e) hF
  have m2 : C2 ≠ F := by obtain ⟨_, _, e, _⟩ := g2; exact ne_of_none (uN _ _ e) hF
  have hN0 : NamesAt (upd (upd H2 N (.dK [])) F (.lst [])) N ns0 0 := ⟨[], by rw [upd_ne nNF, upd_same], Nat.le_refl _, fun z => rfl⟩
  have hF0 : (upd (upd H2 N (.dK [])) F (.lst [])) F = some (.lst []) := upd_same
  have g10 := g1'.to (H' := upd (upd H2 N (.dK [])) F (.lst [])) fun o e => uF _ _ (uN _ _ e)
  have g20 := g2.to (H' := upd (upd H2 N (.dK [])) F (.lst [])) fun o e => uF _ _ (uN _ _ e)
  have sb : Same H (upd (upd H2 N (.dK [])) F (.lst [])) := ((s1.trans s2).trans uN).trans uF
  have fresh : ∀ b o, H b = some o → b ≠ N ∧ b ≠ F := fun b o e => ⟨ne_of_none (s2 _ _ (s1 _ _ e)) hN, ne_of_none (uN _ _ (s2 _ _ (s1 _ _ e))) hF⟩
  generalize upd (upd H2 N (.dK [])) F (.lst []) = Hb at hN0 hF0 g10 g20 sb
  have hqb := Z.Same.tup sb hq
  have hrb := RowsAt.same hr sb
  have eac : (fun z => (ps.any fun p => decide (pick false p = .str z)) && ps.any fun p => decide (pick true p = .str z)) = acr ps := rfl
  have len : ps.length = xs.length := hr.length.symm
  have keep : ∀ H', But2 N F Hb H' → Same H H' := fun H' b c o e => b _ _ (sb _ _ e) (fresh c o e).1 (fresh c o e).2
  refine ⟨a, rfl, ⟨_, hqb⟩, for_z (walk_tup (xs := xs)) (fun i σ H' => (∃ s6 s7 s8 s9, σ = [some (.ref a), some (.ref C1), some (.ref C2), some (.ref N), some (.int ((nRows (acr ps) ns0 (ps.take i)).2.2 : Nat)), some (.ref F), s6, s7, s8, s9]) ∧
    NamesAt H' N (nRows (acr ps) ns0 (ps.take i)).2 (2 * i) ∧ (∃ acc, H' F = some (.lst acc) ∧ RowsAt K H' acc (nRows (acr ps) ns0 (ps.take i)).1) ∧ But2 N F Hb H')
    ⟨⟨_, _, _, _, rfl⟩, hN0, ⟨[], hF0, .nil⟩, fun _ _ e _ _ => e⟩ (fun i σ H' _ pv => Z.Same.tup (keep _ pv.2.2.2) hq) (fun i x σ H3 H3' hi pv y => ?_) (fun σ H3 pv => ?_)⟩
  · obtain ⟨⟨s6, s7, s8, s9, e1⟩, pN, ⟨acc, pF, pr⟩, b⟩ := pv
    obtain ⟨rfl, hx⟩ := y
    subst e1
    obtain ⟨p, hp, r, rfl, hrow⟩ := paired_get hr hx
    have hlt : (nRows (acr ps) ns0 (ps.take i)).2.2 ≤ 2 * i := by
      have := nRows_le (acr ps) (ps.take i) ns0
      rw [show ns0.2 = 0 from rfl, List.length_take] at this
      omega
    have hac : acc.length = (ps.take i).length := by rw [pr.length, nRows_length]
    have take : ps.take (i + 1) = ps.take i ++ [p] := by rw [List.take_add_one, hp]; rfl
    have en : nRows (acr ps) ns0 (ps.take (i + 1)) = ((nRows (acr ps) ns0 (ps.take i)).1 ++ [(nRow (acr ps) (nRows (acr ps) ns0 (ps.take i)).2 p).1], (nRow (acr ps) (nRows (acr ps) ns0 (ps.take i)).2 p).2) := by
      rw [take, nRows_append]
      rfl
    refine row_step pN (g10.to fun o e => b _ _ e n1 m1) (g20.to fun o e => b _ _ e n2 m2) pF nNF n1 n2 (Z.Same.tup (keep _ b) hrow) (by omega) (by rw [hac, List.length_take]; omega) (by omega) fun H' T s6' s7' s8' s9' q1 q2 q3 q4 => ?_
    rw [eac] at q1 q3 ⊢
    show (∃ s6 s7 s8 s9, _) ∧ _
    rw [en]
    refine ⟨⟨_, _, _, _, rfl⟩, q1, ⟨_, q2, ?_⟩, fun c o e x1 x2 => q4 _ _ (b _ _ e x1 x2) x1 x2⟩
    obtain ⟨kv, eN, _⟩ := pN
    exact (L2.Paired.mapP pr fun x p h => h.but2 eN pF q4).snoc ⟨T, rfl, q3⟩
  · obtain ⟨⟨s6, s7, s8, s9, e1⟩, pN, ⟨acc, pF, pr⟩, b⟩ := pv
    subst e1
    have en : (nRows (acr ps) ns0 (ps.take xs.length)).1 = norm ps := by
      rw [List.take_of_length_le (by omega)]
      rfl
    rw [en] at pr
    refine ⟨acc, .inl ⟨SqL.of pF, fun D hD => ?_⟩⟩
    have sD : Same H3 (upd H3 D (.tup acc)) := Same.put hD
    exact q D acc _ ((keep _ b).trans sD) (.inl (.inl upd_same)) (RowsAt.same pr sD)
theorem ok_normal_rows {P : Program} {w : World} {K : PySem.W.Frag} {mg : Str → Option Value} {base : Heap} {g : Ads} (T : Txt K mg g) : FnG false P w K mg base 1 g.f_normal_rows g.d_normal_rows ["rows"] (sp_normal_rows K g) := (raw_normal_rows T).imp pf_normal_rows
end Z
namespace Z
open PySem PySem.Spec PyProof.Rows L2
/-! ### what a thing is -/
def Kd0 (K : PySem.W.Frag) (H : Hp) (v : V) : Prop := match v with
  | .non => True | .bl _ => True | .int _ => True | .str _ => True
  | .ref a => ∃ t, KndR K H a t
  | _ => False
theorem KndR.same {K : PySem.W.Frag} {H H' : Hp} {a : Addr} {t : Kd} (h : KndR K H a t) (s : Same H H') : KndR K H' a t := by
  cases t with
  | list => exact h.imp fun xs q => s.seq q
  | tuple => exact h.imp fun xs q => Z.Same.tup s q
  | dict => exact h.imp (fun ⟨x, q⟩ => ⟨x, s _ _ q⟩) fun ⟨x, q⟩ => ⟨x, s _ _ q⟩
  | _ => exact h.elim
theorem Kd0.same {K : PySem.W.Frag} {H H' : Hp} {v : V} (k : Kd0 K H v) (s : Same H H') : Kd0 K H' v := by
  cases v with
  | ref a =>
    obtain ⟨t, ht⟩ := k
    exact ⟨t, ht.same s⟩
  | non => trivial
  | bl _ => trivial
  | int _ => trivial
  | str _ => trivial
  | _ => exact k.elim
def isIntV (v : V) : Bool := match v with
  | .int i => decide (-100000000000000000000 < i) && decide (i < 100000000000000000000)
  | _ => false
def sp_is_int (K : PySem.W.Frag) (g : Ads) : Sp := fun vs H Q E => ∃ v, vs = [v] ∧ Kd0 K H v ∧ Q (.bl (isIntV v)) H
theorem pf_is_int {K : PySem.W.Frag} {g : Ads} (vs : List V) (H : Hp) (Q : VK) (E : XK) (h : sp_is_int K g vs H Q E) : rw_is_int K g vs H Q E := by
  obtain ⟨v, rfl, hk, q⟩ := h
  refine ⟨rfl, ?_⟩
  cases v with
  | non => exact q
  | bl b => exact q
  | str b => exact q
  | int i =>
    show if decide (-100000000000000000000 < i) = true then Q (.bl (decide (i < 100000000000000000000))) H else Q (.bl false) H
    refine zite (fun h => ?_) (fun h => ?_)
    · simpa [isIntV, h] using q
    · simpa [isIntV, h] using q
  | ref a =>
    obtain ⟨t, ht⟩ := hk
    cases t <;> first | exact ht.elim | exact ⟨_, ht, q⟩
  | _ => exact hk.elim
theorem ok_is_int {P : Program} {w : World} {K : PySem.W.Frag} {mg : Str → Option Value} {base : Heap} {g : Ads} (T : Txt K mg g) : FnG false P w K mg base 1 g.f_is_int g.d_is_int ["thing"] (sp_is_int K g) := (raw_is_int T).imp pf_is_int
theorem sc_is_part : FnScope ["thing"] ["thing"] (defScope s_is_part) := ⟨rfl, rfl, rfl, by decide +kernel, rfl, by decide +kernel, by decide +kernel⟩
def R_is_part (K : PySem.W.Frag) (g : Ads) (E : XK) : TS :=
  (tRet (zOrV (tOp zIs (zVar 0) (tC .non)) (zOrV (zIsiT K .str (zVar 0)) (zCall (sp_is_int K g) [] (WE (fun cls d _ H => E cls d H)) (tCons (zVar 0) tNil)))))
def rw_is_part (K : PySem.W.Frag) (g : Ads) : Sp := fun vs H Q E => vs.length = 1 ∧ R_is_part K g E { nx := fun _ H' => Q .non H', rt := Q } (start ["thing"] vs) H
theorem raw_is_part {P : Program} {w : World} {K : PySem.W.Frag} {mg : Str → Option Value} {base : Heap} {g : Ads} (T : Txt K mg g) : FnG false P w K mg base 2 g.f_is_part g.d_is_part ["thing"] (rw_is_part K g) := by
  refine okZ T.f_is_part sc_is_part (fun vs H Q E h => h.1) (fun cdv A outer s H vs Q E hr hgu h => ⟨R_is_part K g E, ?_, h.2⟩)
  exact (pss_one (ps_ret (pez_or (pe_cmpR op_zIs (zv 0) pe_non (nomark _)) (pez_or (pe_isi (kd := .str) (zv 0) (by rfl) T.b_isinstance (by decide +kernel) (by rfl) T.b_str (by decide +kernel)) (pe_one (pe_callZ (ok_is_int T) (hr.mono (by decide)) (fun z => nomatch z) rfl T.g_is_int T.k_is_int T.e_is_int .nil (fun σ => passAt (takes_of rfl rfl rfl rfl) σ) (pa_cons (zv 0) pa_nil)))))))
def isPartV (v : V) : Bool := match v with
  | .non => true | .str _ => true
  | v => isIntV v
def sp_is_part (K : PySem.W.Frag) (g : Ads) : Sp := fun vs H Q E => ∃ v, vs = [v] ∧ Kd0 K H v ∧ Q (.bl (isPartV v)) H
theorem pf_is_part {K : PySem.W.Frag} {g : Ads} (vs : List V) (H : Hp) (Q : VK) (E : XK) (h : sp_is_part K g vs H Q E) : rw_is_part K g vs H Q E := by
  obtain ⟨v, rfl, hk, q⟩ := h
  refine ⟨rfl, ?_⟩
  cases v with
  | non => exact ⟨rfl, q⟩
  | bl b => exact ⟨rfl, _, rfl, hk, q⟩
  | str b => exact ⟨rfl, q⟩
  | int i => exact ⟨rfl, _, rfl, hk, q⟩
  | ref a =>
    obtain ⟨t, ht⟩ := hk
    cases t <;> first | exact ht.elim | exact ⟨rfl, _, ht, _, rfl, ⟨_, ht⟩, q⟩
  | _ => exact hk.elim
theorem ok_is_part {P : Program} {w : World} {K : PySem.W.Frag} {mg : Str → Option Value} {base : Heap} {g : Ads} (T : Txt K mg g) : FnG false P w K mg base 2 g.f_is_part g.d_is_part ["thing"] (sp_is_part K g) := (raw_is_part T).imp pf_is_part
theorem sc_is_pair_row : FnScope ["thing"] ["thing"] (defScope s_is_pair_row) := ⟨rfl, rfl, rfl, by decide +kernel, rfl, by decide +kernel, by decide +kernel⟩
def R_is_pair_row (K : PySem.W.Frag) (g : Ads) (E : XK) : TS :=
  (tRet (zAndV (zIsiT K .tuple (zVar 0)) (zAndV (tOp (zEq K) (tCB (zLen K) (tCons (zVar 0) tNil)) (tC (.int 2))) (zAndV (zCall (sp_is_part K g) [] (WE (fun cls d _ H => E cls d H)) (tCons (tOp (zIx K) (zVar 0) (tC (.int 0))) tNil)) (zCall (sp_is_part K g) [] (WE (fun cls d _ H => E cls d H)) (tCons (tOp (zIx K) (zVar 0) (tC (.int 1))) tNil))))))
def rw_is_pair_row (K : PySem.W.Frag) (g : Ads) : Sp := fun vs H Q E => vs.length = 1 ∧ R_is_pair_row K g E { nx := fun _ H' => Q .non H', rt := Q } (start ["thing"] vs) H
theorem raw_is_pair_row {P : Program} {w : World} {K : PySem.W.Frag} {mg : Str → Option Value} {base : Heap} {g : Ads} (T : Txt K mg g) : FnG false P w K mg base 3 g.f_is_pair_row g.d_is_pair_row ["thing"] (rw_is_pair_row K g) := by
  refine okZ T.f_is_pair_row sc_is_pair_row (fun vs H Q E h => h.1) (fun cdv A outer s H vs Q E hr hgu h => ⟨R_is_pair_row K g E, ?_, h.2⟩)
  exact (pss_one (ps_ret (pez_and (pe_isi (kd := .tuple) (zv 0) (by rfl) T.b_isinstance (by decide +kernel) (by rfl) T.b_tuple (by decide +kernel)) (pez_and (pe_cmpR (op_zEq hr.units) (pe_callB call_lenZ (by rfl) T.b_len (by decide +kernel) (pa_cons (zv 0) pa_nil)) pe_int (nomark _)) (pez_and (pe_callZ (ok_is_part T) (hr.mono (by decide)) (fun z => nomatch z) rfl T.g_is_part T.k_is_part T.e_is_part .nil (fun σ => passAt (takes_of rfl rfl rfl rfl) σ) (pa_cons (pe_ix ix_z (zv 0) pe_int (fun _ _ => rfl)) pa_nil)) (pe_one (pe_callZ (ok_is_part T) (hr.mono (by decide)) (fun z => nomatch z) rfl T.g_is_part T.k_is_part T.e_is_part .nil (fun σ => passAt (takes_of rfl rfl rfl rfl) σ) (pa_cons (pe_ix ix_z (zv 0) pe_int (fun _ _ => rfl)) pa_nil))))))))
def rowB (xs : List V) : Bool := match xs with
  | [x, y] => isPartV x && isPartV y
  | _ => false
inductive IsRow (K : PySem.W.Frag) (H : Hp) : V → Bool → Prop where
  | non : IsRow K H .non false
  | bl (b : Bool) : IsRow K H (.bl b) false
  | int (i : Int) : IsRow K H (.int i) false
  | str (z : Str) : IsRow K H (.str z) false
  | ref {a : Addr} {t : Kd} (h : t ≠ .tuple) (k : KndR K H a t) : IsRow K H (.ref a) false
  | tup {a : Addr} {xs : List V} {b : Bool} (h : SqT K H a xs) (k : ∀ x ∈ xs, Kd0 K H x) (e : rowB xs = b) : IsRow K H (.ref a) b
theorem IsRow.same {K : PySem.W.Frag} {H H' : Hp} {v : V} {b : Bool} (h : IsRow K H v b) (s : Same H H') : IsRow K H' v b := by
  cases h with
  | non => exact .non
  | bl b => exact .bl b
  | int i => exact .int i
  | str z => exact .str z
  | ref h k => exact .ref h (k.same s)
  | tup h k e => exact .tup (Z.Same.tup s h) (fun x hx => (k x hx).same s) e
def sp_is_pair_row (K : PySem.W.Frag) (g : Ads) : Sp := fun vs H Q E => ∃ v b, vs = [v] ∧ IsRow K H v b ∧ Q (.bl b) H
theorem pf_is_pair_row {K : PySem.W.Frag} {g : Ads} (vs : List V) (H : Hp) (Q : VK) (E : XK) (h : sp_is_pair_row K g vs H Q E) : rw_is_pair_row K g vs H Q E := by
  obtain ⟨v, b, rfl, hk, q⟩ := h
  refine ⟨rfl, ?_⟩
  cases hk with
  | non => exact q
  | bl b => exact q
  | int i => exact q
  | str z => exact q
  | @ref a t hn k => cases t <;> first | exact k.elim | exact absurd rfl hn | exact ⟨_, k, q⟩
  | @tup a xs _ h k e =>
    refine ⟨.tuple, ⟨_, h⟩, xs, .inr h, .inl ⟨rfl, zite (fun hl => ?_) (fun hl => ?_)⟩⟩
    · have hl2 : xs.length = 2 := by
        have : (xs.length : Int) = 2 := by simpa using hl
        omega
      match xs, hl2 with
      | [x, y], _ =>
        refine ⟨_, _, .inr h, rfl, x, rfl, k x (by simp), ?_⟩
        have e' : (isPartV x && isPartV y) = b := e
        cases hx : isPartV x with
        | true =>
          rw [hx] at e'
          have e2 : isPartV y = b := by simpa using e'
          exact ⟨_, _, .inr h, rfl, y, rfl, k y (by simp), by rw [e2]; exact q⟩
        | false =>
          rw [hx] at e'
          have e2 : b = false := by simpa using e'.symm
          rw [e2] at q
          exact q
    · have e2 : b = false := by
        rw [← e]
        match xs, hl with
        | [], _ => rfl
        | [_], _ => rfl
        | [_, _], hl => simp at hl
        | _ :: _ :: _ :: _, _ => rfl
      rw [e2] at q
      exact q
theorem ok_is_pair_row {P : Program} {w : World} {K : PySem.W.Frag} {mg : Str → Option Value} {base : Heap} {g : Ads} (T : Txt K mg g) : FnG false P w K mg base 3 g.f_is_pair_row g.d_is_pair_row ["thing"] (sp_is_pair_row K g) := (raw_is_pair_row T).imp pf_is_pair_row
def pOk (p : Prt) : Prop := ∀ i, p = .int i → -100000000000000000000 < i ∧ i < 100000000000000000000
theorem prt_part {p : Prt} (h : pOk p) : isPartV p.v = true := by
  cases p with
  | non => rfl
  | str z => rfl
  | int i =>
    obtain ⟨h1, h2⟩ := h i rfl
    show (decide (-100000000000000000000 < i) && decide (i < 100000000000000000000)) = true
    rw [decide_eq_true h1, decide_eq_true h2]
    rfl
theorem prt_kd {K : PySem.W.Frag} {H : Hp} (p : Prt) : Kd0 K H p.v := by cases p <;> trivial
theorem row_true {K : PySem.W.Frag} {H : Hp} {x : V} {p : Rw} (h : RowAt K H x p) (ok : pOk p.1 ∧ pOk p.2) : IsRow K H x true := by
  obtain ⟨r, rfl, q⟩ := h
  refine .tup q (fun x hx => ?_) ?_
  · simp only [List.mem_cons, List.not_mem_nil, or_false] at hx
    rcases hx with rfl | rfl
    · exact prt_kd _
    · exact prt_kd _
  · show (isPartV p.1.v && isPartV p.2.v) = true
    rw [prt_part ok.1, prt_part ok.2]
    rfl
/-! ### an error with one field -/
def sp_x1 (C : Addr) (f : Str) : Sp := fun vs H Q E => ∃ a v, vs = [.ref a, v] ∧ H a = some (exo a C none) ∧
  ∀ dx, H dx = none → dx ≠ a → Q .non (upd (upd H dx (exd dx [(f, v)])) a (exo a C (some dx)))
theorem raise_at {C : Addr} {f : Str} {v : V} {H : Hp} {R : XK} (k : ∀ d, H d = none → R (.ref C) (some d) (upd H d (.xd [(f, v)]))) :
    [v].length ≤ 1000 ∧ ∀ a, H a = none → sp_x1 C f (.ref a :: [v]) (upd H a (exo a C none))
      (fun v' H2 => v' = .non ∧ ∃ (d : Addr) (fs : List (Str × V)), H2 a = some (exo a C (some d)) ∧ H2 d = some (exd d fs) ∧ H d = none ∧ R (.ref C) (some d) (upd (del H2 a) d (.xd fs))) E0 := by
  refine ⟨by simp, fun a ha => ⟨a, v, rfl, upd_same, fun dx hdx ne => ⟨rfl, dx, [(f, v)], upd_same, by rw [upd_ne ne, upd_same], ?_, ?_⟩⟩⟩
  · rw [upd_ne ne] at hdx
    exact hdx
  · have hd : H dx = none := by
      rw [upd_ne ne] at hdx
      exact hdx
    have e : upd (del (upd (upd (upd H a (exo a C none)) dx (exd dx [(f, v)])) a (exo a C (some dx))) a) dx (.xd [(f, v)]) = upd H dx (.xd [(f, v)]) := by
      funext b
      by_cases h1 : b = dx
      · rw [h1, upd_same, upd_same]
      · rw [upd_ne h1, upd_ne h1]
        by_cases h2 : b = a
        · rw [h2, del_same, ha]
        · rw [del_ne h2, upd_ne h2, upd_ne h1, upd_ne h2]
    rw [e]
    exact k dx hd
theorem sc_BadPair_init : FnScope ["self", "index"] ["self", "index"] (defScope s_BadPair_init) := ⟨rfl, rfl, rfl, by decide +kernel, rfl, by decide +kernel, by decide +kernel⟩
def R_BadPair_init (K : PySem.W.Frag) (g : Ads) (E : XK) : TS :=
  (tOst K "index" (zVar 0) (zVar 1))
def rw_BadPair_init (K : PySem.W.Frag) (g : Ads) : Sp := fun vs H Q E => vs.length = 2 ∧ R_BadPair_init K g E { nx := fun _ H' => Q .non H', rt := Q } (start ["self", "index"] vs) H
theorem raw_BadPair_init {P : Program} {w : World} {K : PySem.W.Frag} {mg : Str → Option Value} {base : Heap} {g : Ads} (T : Txt K mg g) : FnG false P w K mg base 1 g.f_BadPair_init g.d_BadPair_init ["self", "index"] (rw_BadPair_init K g) := by
  refine okZ T.f_BadPair_init sc_BadPair_init (fun vs H Q E h => h.1) (fun cdv A outer s H vs Q E hr hgu h => ⟨R_BadPair_init K g E, ?_, h.2⟩)
  exact (pss_one (ps_ost (zv 0) (zv 1)))
def sp_BadPair_init (K : PySem.W.Frag) (g : Ads) : Sp := sp_x1 g.c_BadPair "index"
theorem ok_BadPair_init {P : Program} {w : World} {K : PySem.W.Frag} {mg : Str → Option Value} {base : Heap} {g : Ads} (T : Txt K mg g) : FnG false P w K mg base 1 g.f_BadPair_init g.d_BadPair_init ["self", "index"] (sp_BadPair_init K g) :=
  (raw_BadPair_init T).imp fun vs H Q E ⟨a, v, e, ha, k⟩ => by
    subst e
    exact ⟨rfl, a, g.c_BadPair, rfl, T.o_BadPair, T.a_BadPair_index, .inl ⟨ha, k⟩⟩
/-! ### a pair as it lies -/
def apUpTo (R : List Rw) (i : Nat) : List Nat := (List.range i).filter fun j => match R[j]? with | some p => !decide (p.1 = p.2) | none => false
/-- the indices of the rows whose parts differ -/
def ApartOf (R : List Rw) (ap : List Nat) : Prop := ap = apUpTo R R.length
structure PairAt (K : PySem.W.Frag) (g : Ads) (H : Hp) (o : Addr) (R : List Rw) (ap : List Nat) : Prop where
  ex : ∃ (dx ra aa : Addr) (fs : List (Str × V)) (ys : List V), H o = some (.ins g.c_Pair dx fs) ∧ fs.lookup ("rows" : Str) = some (V.ref ra) ∧ fs.lookup ("apart" : Str) = some (V.ref aa) ∧ SqT K H ra ys ∧ RowsAt K H ys R ∧
    SqT K H aa (ap.map fun i => V.int (i : Nat))
  apo : ApartOf R ap
  nf : ∃ ps, R = norm ps
  ln : R.length ≤ 1000 ∧ ap.length ≤ 1000
theorem PairAt.same {K : PySem.W.Frag} {g : Ads} {H H' : Hp} {o : Addr} {R : List Rw} {ap : List Nat} (h : PairAt K g H o R ap) (s : Same H H') : PairAt K g H' o R ap := by
  obtain ⟨⟨dx, ra, aa, fs, ys, h1, h2, h3, h4, h5, h6⟩, h7, h8, h9⟩ := h
  exact ⟨⟨dx, ra, aa, fs, ys, s _ _ h1, h2, h3, Z.Same.tup s h4, RowsAt.same h5 s, Z.Same.tup s h6⟩, h7, h8, h9⟩
theorem sc_Pair_init : FnScope ["self", "rows", "index", "row"] ["self", "rows"] (defScope s_Pair_init) := ⟨rfl, rfl, rfl, by decide +kernel, rfl, by decide +kernel, by decide +kernel⟩
def R_Pair_init_3 (K : PySem.W.Frag) (g : Ads) (E : XK) : TS :=
  (zRaise (fun cls d _ H => E cls d H) g.c_BadPair (sp_BadPair_init K g) (tCons (zVar 2) tNil))
def R_Pair_init_2 (K : PySem.W.Frag) (g : Ads) (E : XK) : TS :=
  (tIfS (tNot (zTru K (zCall (sp_is_pair_row K g) [] (WE (fun cls d _ H => E cls d H)) (tCons (zVar 3) tNil))))
  (R_Pair_init_3 K g E)
  tNext)
def R_Pair_init_5 (K : PySem.W.Frag) (g : Ads) (E : XK) : TS :=
  (sFld K (zVar 0) (tCB (zTupOf K) (tCons (zLc (zEnum K (tCons (tFld K (zVar 0) "rows") tNil)) (gTup K 2 (gCons (gName 2) (gCons (gName 3) gNil))) (zTest (tOp (zNe K) (tOp (zIx K) (zVar 3) (tC (.int 0))) (tOp (zIx K) (zVar 3) (tC (.int 1))))) (zVar 2) [2, 3]) tNil)) "apart")
def R_Pair_init_4 (K : PySem.W.Frag) (g : Ads) (E : XK) : TS :=
  (tSeq (sFld K (zVar 0) (zCall (sp_normal_rows K g) [] (WE (fun cls d _ H => E cls d H)) (tCons (zVar 1) tNil)) "rows")
  (R_Pair_init_5 K g E))
def R_Pair_init (K : PySem.W.Frag) (g : Ads) (E : XK) : TS :=
  (tSeq (zFor (zEnum K (tCons (zVar 1) tNil)) (gTup K 2 (gCons (gName 2) (gCons (gName 3) gNil)))
  (R_Pair_init_2 K g E))
  (R_Pair_init_4 K g E))
def rw_Pair_init (K : PySem.W.Frag) (g : Ads) : Sp := fun vs H Q E => vs.length = 2 ∧ R_Pair_init K g E { nx := fun _ H' => Q .non H', rt := Q } (start ["self", "rows", "index", "row"] vs) H
theorem raw_Pair_init {P : Program} {w : World} {K : PySem.W.Frag} {mg : Str → Option Value} {base : Heap} {g : Ads} (T : Txt K mg g) : FnR P w K mg base (L2.CX P w) 4 g.f_Pair_init (spStar 1 (rw_Pair_init K g)) := by
  refine okStar (ps := ["self"]) (pv := "rows") T.f_Pair_init sc_Pair_init (fun kV doc pm an cdv ct => StX.bind_star1 (B := fun l => bindArgs (PySem.W.fnOf "__init__" "Pair.__init__" (defArgs s_Pair_init) (defBody s_Pair_init) (defScope s_Pair_init) .none kV doc pm an cdv ct) ⟨l, []⟩) (fun _ => rfl) (fun _ _ _ => rfl)) (fun cdv A outer s H vs Q E hr h => ⟨R_Pair_init K g E, ?_, h.2⟩)
  exact (pss_cons (psz_for PassesOwn.leaving rfl (pi_zEnum (by rfl) T.b_enumerate (pa_cons (zv 1) pa_nil)) (pg_tup rfl (pgs_cons (pg_name (i := 2) sc_Pair_init.nd rfl (Or.inl rfl)) (pgs_cons (pg_name (i := 3) sc_Pair_init.nd rfl (Or.inl rfl)) pgs_nil)))
  (pss_one (ps_if (pt_not (ptz_truth (pe_callZ (ok_is_pair_row T) (hr.mono (by decide)) (fun z => nomatch z) rfl T.g_is_pair_row T.k_is_pair_row T.e_is_pair_row .nil (fun σ => passAt (takes_of rfl rfl rfl rfl) σ) (pa_cons (zv 3) pa_nil)) (by intro _; rfl)))
  (pss_one (ps_raise rfl (takes_of rfl rfl rfl rfl) (pmk_Z T.o_BadPair T.i_BadPair T.t_BadPair (ok_BadPair_init T) (hr.mono (by decide)) (fun z => nomatch z) T.e_BadPair_init rfl T.g_BadPair (by exact (pa_cons (zv 2) pa_nil)))))
  pss_nil)))
  (pss_cons (ps_fld (zv 0) (pe_callZ (ok_normal_rows T) (hr.mono (by decide)) (fun z => nomatch z) rfl T.g_normal_rows T.k_normal_rows T.e_normal_rows .nil (fun σ => passAt (takes_of rfl rfl rfl rfl) σ) (pa_cons (zv 1) pa_nil)) rfl)
  (pss_one (ps_fld (zv 0) (pe_callTy call_tupZ (by rfl) T.b_tuple (by decide +kernel) (pa_cons (pez_lc (own := [("index", 2), ("row", 3)]) rfl sc_Pair_init.nd (pi_zEnum (by rfl) T.b_enumerate (pa_cons (pe_fld (zv 0) rfl) pa_nil)) (blkOk_by (own := [("index", 2), ("row", 3)]) (N := ["self", "rows", "index", "row"]) (sc := defScope s_Pair_init) (by decide +kernel)) (fun _ _ _ _ _ => pg_tup rfl (pgs_cons (pg_name (i := 2) sc_Pair_init.nd rfl (Or.inl rfl)) (pgs_cons (pg_name (i := 3) sc_Pair_init.nd rfl (Or.inl rfl)) pgs_nil))) (fun _ _ _ _ _ => pts_one (ptz_cmp (op_zNe hr.units) (pe_ix ix_z (zv 3) pe_int (fun _ _ => rfl)) (pe_ix ix_z (zv 3) pe_int (fun _ _ => rfl)) (nomark _))) (fun _ _ _ _ _ => (zv 2))) pa_nil)) rfl))))
theorem apUpTo_succ {R : List Rw} {i : Nat} {p : Rw} (h : R[i]? = some p) : apUpTo R (i + 1) = if p.1 = p.2 then apUpTo R i else apUpTo R i ++ [i] := by
  unfold apUpTo
  rw [List.range_succ, List.filter_append]
  by_cases e : p.1 = p.2
  · rw [if_pos e]
    simp [h, e]
  · rw [if_neg e]
    simp [h, e]
theorem apUpTo_all (R : List Rw) : ApartOf R (apUpTo R R.length) := rfl
theorem scal_v (a b : Prt) : scal a.v b.v = true := by cases a <;> cases b <;> rfl
/-- the first thing that is no row stands at i -/
def FirstBad (K : PySem.W.Frag) (H : Hp) (xs : List V) (i : Nat) : Prop := ∃ bs, Paired (IsRow K H) xs bs ∧ bs[i]? = some false ∧ ∀ j, j < i → bs[j]? = some true
theorem FirstBad.same {K : PySem.W.Frag} {H H' : Hp} {xs : List V} {i : Nat} (h : FirstBad K H xs i) (s : Same H H') : FirstBad K H' xs i := by
  obtain ⟨bs, h1, h2⟩ := h
  exact ⟨bs, L2.Paired.mapP h1 fun _ _ q => q.same s, h2⟩
def Bad (E : XK) (g : Ads) (H : Hp) (i : Nat) : Prop := ∀ H' d, Same H H' → H d = none → H' d = some (.xd [("index", .int (i : Nat))]) → E (.ref g.c_BadPair) (some d) H'
def sp_Pair_init (K : PySem.W.Frag) (g : Ads) : Sp := fun vs H Q E => ∃ (o dx : Addr) (xs : List V), vs = .ref o :: xs ∧ H o = some (.ins g.c_Pair dx []) ∧ xs.length ≤ 1000 ∧
  ((∃ ps : List Rw, RowsAt K H xs ps ∧ (∀ p ∈ ps, pOk p.1 ∧ pOk p.2) ∧ ∀ H' ap, But o H H' → PairAt K g H' o (norm ps) ap → Q .non H') ∨ ∃ i, FirstBad K H xs i ∧ Bad E g H i)
theorem pf_Pair_init {K : PySem.W.Frag} {mg : Str → Option Value} {g : Ads} (T : Txt K mg g) (vs : List V) (H : Hp) (Q : VK) (E : XK) (h : sp_Pair_init K g vs H Q E) : spStar 1 (rw_Pair_init K g) vs H Q E := by
  obtain ⟨o, dx, xs, rfl, ho, hl, h⟩ := h
  refine ⟨[.ref o], xs, rfl, rfl, Nat.le_trans hl (by decide), fun t ht => ⟨rfl, ?_⟩⟩
  have st : Same H (upd H t (.tup xs)) := Same.put ht
  have hq1 : SqT K (upd H t (.tup xs)) t xs := .inl (.inl upd_same)
  have ht' := ht
  generalize upd H t (.tup xs) = H1 at st hq1
  rcases h with ⟨ps, hr, ok, q⟩ | ⟨k, ⟨bs, hb, b1, b2⟩, bad⟩
  case inr =>
    have lb : bs.length = xs.length := hb.length.symm
    have kl : k < bs.length := (List.getElem?_eq_some_iff.mp b1).1
    refine ⟨t, xs, rfl, .inr ⟨hq1, for_z (walk_zeT (xs := xs)) (fun i σ H' => i ≤ k ∧ (∃ s2 s3, σ = [some (.ref o), some (.ref t), s2, s3]) ∧ Same H1 H') ⟨Nat.zero_le _, ⟨_, _, rfl⟩, Same.refl H1⟩ (fun i σ H' _ pv => Z.Same.tup pv.2.2 hq1) (fun i x σ H2 H3 hi pv y => ?_) (fun σ H2 pv => ?_)⟩⟩
    · obtain ⟨ik, ⟨s2, s3, e1⟩, s1⟩ := pv
      obtain ⟨T2, x1, x2, rfl, hT, rfl, g1, g2⟩ := y
      cases g1
      have g2 : xs[i]? = some x2 := g2
      subst e1
      obtain ⟨b, gb, hrow⟩ := paired_get hb g2
      have s5 := s1.trans (Same.put (o := .tup [.int (i : Nat), x2]) hT)
      refine ⟨T2, _, rfl, SqT.of upd_same, rfl, _, _, rfl, _, _, rfl, rfl, x2, b, rfl, hrow.same (st.trans s5), ?_⟩
      by_cases e : i = k
      · subst e
        rw [b1] at gb
        cases gb
        exact raise_at fun d hd => bad _ d ((st.trans s5).trans (Same.put hd)) ((st.trans s5).free hd) upd_same
      · have lt : i < k := by omega
        rw [b2 i lt] at gb
        cases gb
        exact ⟨by omega, ⟨_, _, rfl⟩, s5⟩
    · exact absurd pv.1 (by omega)
  have ho1 := st _ _ ho
  have hr1 := RowsAt.same hr st
  have len : ps.length = xs.length := hr.length.symm
  refine ⟨t, xs, rfl, .inr ⟨hq1, for_z (walk_zeT (xs := xs)) (fun i σ H' => (∃ s2 s3, σ = [some (.ref o), some (.ref t), s2, s3]) ∧ Same H1 H') ⟨⟨_, _, rfl⟩, Same.refl H1⟩ (fun i σ H' _ pv => Z.Same.tup pv.2 hq1) (fun i x σ H2 H3 hi pv y => ?_) (fun σ H2 pv => ?_)⟩⟩
  · obtain ⟨⟨s2, s3, e1⟩, s1⟩ := pv
    obtain ⟨T2, x1, x2, rfl, hT, rfl, g1, g2⟩ := y
    cases g1
    have g2 : xs[i]? = some x2 := g2
    subst e1
    obtain ⟨p, gp, hrow⟩ := paired_get hr1 g2
    have s5 := s1.trans (Same.put (o := .tup [.int (i : Nat), x2]) hT)
    exact ⟨T2, _, rfl, SqT.of upd_same, rfl, _, _, rfl, _, _, rfl, rfl, x2, true, rfl, row_true (hrow.same s5) (ok p (List.mem_of_getElem? gp)), zite (fun h => by cases h) fun _ => ⟨⟨_, _, rfl⟩, s5⟩⟩
  · obtain ⟨⟨s2, s3, e1⟩, s1⟩ := pv
    subst e1
    refine ⟨t, xs, ps, rfl, Z.Same.tup s1 hq1, RowsAt.same hr1 s1, hl, fun D ys H3 s3' hD hy => ?_⟩
    have ho3 := s3' _ _ (s1 _ _ ho1)
    refine ⟨o, _, dx, [], rfl, ho3, T.cl_Pair, T.na_Pair_rows, by decide, ?_⟩
    have b1 : But o H3 (upd H3 o (.ins g.c_Pair dx [("rows", .ref D)])) := But.put
    have e4 : (upd H3 o (.ins g.c_Pair dx [("rows", .ref D)])) o = some (.ins g.c_Pair dx [("rows", .ref D)]) := upd_same
    have nt : ∀ {a : Addr} {zs : List V} {H' : Hp}, But o H3 H' → SqT K H3 a zs → SqT K H' a zs := by
      intro a zs H' b h
      rcases h with (h | ⟨u, h⟩) | h
      · exact .inl (.inl (b _ _ h fun z => by rw [z, ho3] at h; cases h))
      · exact .inl (.inr ⟨u, b _ _ h fun z => by rw [z, ho3] at h; cases h⟩)
      · exact .inr h
    have nr : ∀ {H' : Hp}, But o H3 H' → RowsAt K H' ys (norm ps) := fun b => L2.Paired.mapP hy fun x p ⟨r, e, h⟩ => ⟨r, e, nt b h⟩
    show R_Pair_init_5 K g E { nx := fun _ H' => Q .non H', rt := Q } [some (.ref o), some (.ref t), s2, s3] (upd H3 o (.ins g.c_Pair dx [("rows", .ref D)]))
    generalize upd H3 o (.ins g.c_Pair dx [("rows", .ref D)]) = H4 at b1 e4
    have ln : ys.length = (norm ps).length := hy.length
    have l2 : (norm ps).length = xs.length := by rw [norm_length, len]
    refine ⟨o, _, dx, _, .ref D, rfl, e4, T.cl_Pair, T.na_Pair_rows, rfl, D, ys, rfl, .inr ⟨nt b1 hD, ?_⟩⟩
    refine lc_z (walk_zeT (xs := ys)) (fun L i H' => Same H4 H' ∧ H' L = some (.lst ((apUpTo (norm ps) i).map fun i => V.int (i : Nat)))) (fun L hL => ⟨Same.put hL, upd_same⟩) (fun L i H' hL _ pv => Z.Same.tup pv.1 (nt b1 hD)) (fun L i x H5 H6 hL hi pv y => ?_) (fun L H5 hL pv => ?_)
    · obtain ⟨s4, e5⟩ := pv
      obtain ⟨T2, x1, x2, rfl, hT, rfl, g1, g2⟩ := y
      cases g1
      have g2 : ys[i]? = some x2 := g2
      obtain ⟨p, gp, r, rfl, hrow⟩ := paired_get (nr b1) g2
      have sT : Same H5 (upd H5 T2 (.tup [.int (i : Nat), .ref r])) := Same.put hT
      have s6 := s4.trans sT
      have hrow' := Z.Same.tup s6 hrow
      refine ⟨T2, _, rfl, SqT.of upd_same, rfl, _, _, rfl, _, _, rfl, rfl, rfl, ?_⟩
      refine ⟨_, _, .inr hrow', rfl, _, _, .inr hrow', rfl, .inl ⟨scal_v _ _, zite (fun h => ?_) fun h => ?_⟩⟩
      · have ne : p.1 ≠ p.2 := fun e => by rw [e] at h; simp at h
        refine ⟨_, sT _ _ e5, ?_, ?_, ?_⟩
        · refine Nat.lt_of_le_of_lt (show _ ≤ 1000 from ?_) (by decide)
          rw [List.length_map]
          refine Nat.le_trans (List.length_filter_le _ _) ?_
          rw [List.length_range]
          omega
        · intro b u e
          rw [upd_ne (ne_of_none e hL)]
          exact s6 _ _ e
        · rw [upd_same, apUpTo_succ gp, if_neg ne, List.map_append]
          rfl
      · have eq : p.1 = p.2 := by
          have : p.1.v = p.2.v := by simpa using h
          exact Prt.v_inj this
        exact ⟨s6, by rw [apUpTo_succ gp, if_pos eq]; exact sT _ _ e5⟩
    · obtain ⟨s4, e5⟩ := pv
      refine ⟨_, .inl ⟨SqL.of e5, fun A hA => ?_⟩⟩
      have sA : Same H5 (upd H5 A (.tup ((apUpTo (norm ps) ys.length).map fun i => V.int (i : Nat)))) := Same.put hA
      refine ⟨o, _, dx, _, rfl, sA _ _ (s4 _ _ e4), T.cl_Pair, T.na_Pair_apart, (show 1 < 1000 by decide), ?_⟩
      have nAo : A ≠ o := (ne_of_none (s4 _ _ e4) hA).symm
      have b9 : But o H3 (upd (upd H5 A (.tup ((apUpTo (norm ps) ys.length).map fun i => V.int (i : Nat)))) o (.ins g.c_Pair dx [("rows", .ref D), ("apart", .ref A)])) :=
        (b1.trans (But.same (s4.trans sA))).trans But.put
      refine q _ (apUpTo (norm ps) ys.length) ?_ ⟨⟨dx, D, A, [("rows", .ref D), ("apart", .ref A)], ys, upd_same, rfl, rfl, nt b9 hD, nr b9, .inl (.inl ?_)⟩, ?_, ⟨_, rfl⟩, by omega, ?_⟩
      · exact ((But.same (st.trans s1)).trans (But.same s3')).trans b9
      · rw [upd_ne nAo, upd_same]
      · rw [ln]
        exact apUpTo_all _
      · refine Nat.le_trans (List.length_filter_le _ _) ?_
        rw [List.length_range]
        omega
theorem ok_Pair_init {P : Program} {w : World} {K : PySem.W.Frag} {mg : Str → Option Value} {base : Heap} {g : Ads} (T : Txt K mg g) : FnR P w K mg base (L2.CX P w) 4 g.f_Pair_init (sp_Pair_init K g) := (raw_Pair_init T).imp (pf_Pair_init T)
theorem sc_Pair_made : FnScope ["cls", "rows"] ["cls", "rows"] (defScope s_Pair_made) := ⟨rfl, rfl, rfl, by decide +kernel, rfl, by decide +kernel, by decide +kernel⟩
def R_Pair_made (K : PySem.W.Frag) (g : Ads) (E : XK) : TS :=
  (tRet (zNewL K 0 g.c_Pair (sp_Pair_init K g) E (zVar 1)))
def rw_Pair_made (K : PySem.W.Frag) (g : Ads) : Sp := fun vs H Q E => vs.length = 2 ∧ R_Pair_made K g E { nx := fun _ H' => Q .non H', rt := Q } (start ["cls", "rows"] vs) H
theorem raw_Pair_made {P : Program} {w : World} {K : PySem.W.Frag} {mg : Str → Option Value} {base : Heap} {g : Ads} (T : Txt K mg g) : FnG false P w K mg base 6 g.f_Pair_made g.d_Pair_made ["cls", "rows"] (rw_Pair_made K g) := by
  refine okZ T.f_Pair_made sc_Pair_made (fun vs H Q E h => h.1) (fun cdv A outer s H vs Q E hr hgu h => ⟨R_Pair_made K g E, ?_, h.2⟩)
  exact (pss_one (ps_ret (pe_zNewL (i := 0) T.m_Pair (ok_Pair_init T) (hr.mono (by decide)) rfl (Or.inl rfl) (passes_call (takes_of rfl rfl rfl rfl) (fun _ _ _ _ h => h)) (zv 1))))
def sp_Pair_made (K : PySem.W.Frag) (g : Ads) : Sp := fun vs H Q E => ∃ (a : Addr) (xs : List V), vs = [.ref g.c_Pair, .ref a] ∧ (SqT K H a xs ∨ SqL K H a xs) ∧ xs.length ≤ 1000 ∧
  ((∃ ps : List Rw, RowsAt K H xs ps ∧ (∀ p ∈ ps, pOk p.1 ∧ pOk p.2) ∧ ∀ o H' ap, Same H H' → H o = none → PairAt K g H' o (norm ps) ap → Q (.ref o) H') ∨ ∃ i, FirstBad K H xs i ∧ Bad E g H i)
theorem pf_Pair_made {K : PySem.W.Frag} {g : Ads} (vs : List V) (H : Hp) (Q : VK) (E : XK) (h : sp_Pair_made K g vs H Q E) : rw_Pair_made K g vs H Q E := by
  obtain ⟨a, xs, rfl, hq, hl, h⟩ := h
  refine ⟨rfl, rfl, a, xs, rfl, hq, fun o dx ho hdx ne => ?_⟩
  have s1 : Same H (upd H dx (.own o)) := Same.put hdx
  have ho1 : (upd H dx (.own o)) o = none := by
    rw [upd_ne ne.symm]
    exact ho
  have s2 : Same (upd H dx (.own o)) (upd (upd H dx (.own o)) o (.ins g.c_Pair dx [])) := Same.put ho1
  have s3 := s1.trans s2
  refine ⟨o, dx, xs, rfl, upd_same, hl, ?_⟩
  rcases h with ⟨ps, hr, ok, q⟩ | ⟨i, hb, bad⟩
  · refine .inl ⟨ps, RowsAt.same hr s3, ok, fun H' ap b hp => ⟨rfl, q o H' ap ?_ ho hp⟩⟩
    intro c u e
    exact b _ _ (s3 _ _ e) (ne_of_none e ho)
  · exact .inr ⟨i, hb.same s3, fun H' d s hd e => bad H' d (s3.trans s) (s3.free hd) e⟩
theorem ok_Pair_made {P : Program} {w : World} {K : PySem.W.Frag} {mg : Str → Option Value} {base : Heap} {g : Ads} (T : Txt K mg g) : FnG false P w K mg base 6 g.f_Pair_made g.d_Pair_made ["cls", "rows"] (sp_Pair_made K g) := (raw_Pair_made T).imp pf_Pair_made
end Z
namespace Z
open PySem PySem.Spec PyProof.Rows L2
/-! ### rows as data -/
def Prt.d : Prt → PyData
  | .non => .none | .int i => .int i | .str z => .str z
def rowD (p : Rw) : PyData := .tuple [p.1.d, p.2.d]
theorem prt_dp {K : PySem.W.Frag} {H : Hp} : ∀ p : Prt, Dp K H p.v p.d
  | .non => .non | .int i => .int i | .str z => .str z
theorem rows_dp {K : PySem.W.Frag} {H : Hp} : ∀ {xs : List V} {ps : List Rw}, RowsAt K H xs ps → DpAll K H xs (ps.map rowD)
  | _, _, .nil => .nil
  | _, _, .cons ⟨r, e, h⟩ t => by
    subst e
    exact .cons (.tup h (.cons (prt_dp _) (.cons (prt_dp _) .nil))) (rows_dp t)
theorem prt_eqv (a b : Prt) : PyData.eqv a.d b.d = decide (a = b) := by
  rw [Bool.eq_iff_iff]
  cases a <;> cases b <;> simp [Prt.d, PyData.eqv]
theorem rows_eqv : ∀ ps qs : List Rw, PyData.eqvAll (ps.map rowD) (qs.map rowD) = decide (ps = qs)
  | [], [] => by simp [PyData.eqvAll]
  | [], q :: qs => by simp [PyData.eqvAll]
  | p :: ps, [] => by simp [PyData.eqvAll]
  | p :: ps, q :: qs => by
    have ih := rows_eqv ps qs
    simp only [List.map_cons, PyData.eqvAll, ih, rowD, PyData.eqv, prt_eqv, Bool.and_true]
    obtain ⟨p1, p2⟩ := p
    obtain ⟨q1, q2⟩ := q
    by_cases h1 : p1 = q1 <;> by_cases h2 : p2 = q2 <;> by_cases h3 : ps = qs <;> simp [h1, h2, h3]
theorem vn_ok (k : Nat) : PyData.strOk (vn k) = true := by
  have e : (vn k).cps = ("v" : Str).cps ++ (Str.ofString (toString (k : Int))).cps := rfl
  unfold PyData.strOk
  rw [e, Array.all_append]
  simp only [Bool.and_eq_true]
  refine ⟨by decide +kernel, ?_⟩
  rw [Str.ofString_eq_toList, Array.all_eq_true']
  intro x hx
  have hx' : x ∈ (toString (k : Int)).toList.map Char.toNat := by simpa using hx
  obtain ⟨c, _, rfl⟩ := List.mem_map.mp hx'
  have v := c.valid
  simp only [UInt32.isValidChar, Nat.isValidChar] at v
  refine decide_eq_true ?_
  show c.val.toNat < 0x110000
  omega
def PrtOk (p : Prt) : Prop := ∀ z, p = .str z → PyData.strOk z = true
theorem norm_ok (ps : List Rw) : ∀ p ∈ norm ps, PrtOk p.1 ∧ PrtOk p.2 := by
  obtain ⟨h, b, _⟩ := norm_bec ps
  intro q hq
  obtain ⟨i, hi⟩ := List.getElem?_of_mem hq
  have hl := norm_length ps
  have lt := (List.getElem?_eq_some_iff.mp hi).1
  have e : ps[i]? = some (ps[i]'(by omega)) := by simp [show i < ps.length by omega]
  obtain ⟨b1, b2⟩ := paired_get2 b e hi
  constructor
  · intro z hz
    obtain ⟨_, k, _, e2, _⟩ := bec_out b1 hz
    rw [e2]
    exact vn_ok k
  · intro z hz
    obtain ⟨_, k, _, e2, _⟩ := bec_out b2 hz
    rw [e2]
    exact vn_ok k
theorem prt_lay {p : Prt} (h : PrtOk p) : p.d.canLay0 = true ∧ p.d.depth = 0 := by
  cases p with
  | str z => exact ⟨by simpa [Prt.d, PyData.canLay0] using h z rfl, by simp [Prt.d, PyData.depth]⟩
  | _ => simp [Prt.d, PyData.canLay0, PyData.depth]
theorem rows_lay : ∀ ps : List Rw, (∀ p ∈ ps, PrtOk p.1 ∧ PrtOk p.2) → PyData.canLayAll0 (ps.map rowD) = true ∧ PyData.depthAll (ps.map rowD) ≤ 1
  | [], _ => by simp [PyData.canLayAll0, PyData.depthAll]
  | p :: ps, h => by
    obtain ⟨h1, h2⟩ := rows_lay ps fun q hq => h q (List.mem_cons_of_mem _ hq)
    obtain ⟨o1, o2⟩ := h p List.mem_cons_self
    obtain ⟨a1, a2⟩ := prt_lay o1
    obtain ⟨b1, b2⟩ := prt_lay o2
    constructor
    · simp only [List.map_cons, PyData.canLayAll0, rowD, PyData.canLay0, a1, b1, h1, Bool.and_self]
    · simp only [List.map_cons, PyData.depthAll, rowD, PyData.depth, a2, b2]
      omega
theorem rows_shaped {ps : List Rw} (h : ∀ p ∈ ps, PrtOk p.1 ∧ PrtOk p.2) : SeqAt.shaped (.tuple (ps.map rowD)) = true := by
  obtain ⟨h1, h2⟩ := rows_lay ps h
  simp only [SeqAt.shaped, PyData.canLay0, PyData.depth, h1, Bool.true_and]
  exact decide_eq_true (by omega)
theorem sc_law_digits : FnScope ["script", "at", "cell", "blend", "k", "each"] ["script", "at"] (defScope s_law_digits) := ⟨rfl, rfl, rfl, by decide +kernel, rfl, by decide +kernel, by decide +kernel⟩
def R_law_digits_4 (K : PySem.W.Frag) (g : Ads) (E : XK) : TS :=
  (tAsg (tOp zMod (tCB rInt1 (tCons (tOp zAdd (tOp zAdd (tOp zAdd (tOp zMul (zVar 3) (tC (.int 48271))) (tOp zMod (tCB rInt1 (tCons (zVar 5) tNil)) (tC (.int 2147483587)))) (tOp zMul (tC (.int 97)) (zVar 4))) (tC (.int 5))) tNil)) (tC (.int 2147483629))) (gName 3))
def R_law_digits_5 (K : PySem.W.Frag) (g : Ads) (E : XK) : TS :=
  (tRet (tLst (tCons (tIf (zTest (tOp zGe (tCB rAbs (tCons (zVar 2) tNil)) (tOp zPow (tC (.int 10)) (tC (.int 18))))) (tCB rAbs (tCons (zVar 2) tNil)) (tC (.int 0))) (tCons (zVar 3) tNil))))
def R_law_digits_3 (K : PySem.W.Frag) (g : Ads) (E : XK) : TS :=
  (tSeq (zFor (zEnum K (tCons (tSl (rSlL K) (zVar 0) tNoPart (tPart (tC (.int 48)))) tNil)) (gTup K 2 (gCons (gName 4) (gCons (gName 5) gNil)))
  (R_law_digits_4 K g E))
  (R_law_digits_5 K g E))
def R_law_digits_2 (K : PySem.W.Frag) (g : Ads) (E : XK) : TS :=
  (tSeq (tAsg (tOp zAdd (tOp zMul (tC (.int 7331)) (zVar 1)) (tC (.int 619))) (gName 3))
  (R_law_digits_3 K g E))
def R_law_digits (K : PySem.W.Frag) (g : Ads) (E : XK) : TS :=
  (tSeq (tAsg (tIf (zTest (tOp zLt (zVar 1) (tCB (zLen K) (tCons (zVar 0) tNil)))) (tOp (zIx K) (zVar 0) (zVar 1)) (tC (.int 0))) (gName 2))
  (R_law_digits_2 K g E))
def rw_law_digits (K : PySem.W.Frag) (g : Ads) : Sp := fun vs H Q E => vs.length = 2 ∧ R_law_digits K g E { nx := fun _ H' => Q .non H', rt := Q } (start ["script", "at", "cell", "blend", "k", "each"] vs) H
theorem raw_law_digits {P : Program} {w : World} {K : PySem.W.Frag} {mg : Str → Option Value} {base : Heap} {g : Ads} (T : Txt K mg g) : FnG true P w K mg base 1 g.f_law_digits g.d_law_digits ["script", "at"] (rw_law_digits K g) := by
  refine okZ T.f_law_digits sc_law_digits (fun vs H Q E h => h.1) (fun cdv A outer s H vs Q E hr hgu h => ⟨R_law_digits K g E, ?_, h.2⟩)
  exact (pss_cons (ps_set (i := 2) sc_law_digits.nd rfl (Or.inl rfl) (pe_ifExp (ptz_cmp op_zLt (zv 1) (pe_callB call_lenZ (by rfl) T.b_len (by decide +kernel) (pa_cons (zv 0) pa_nil)) (nomark _)) (pe_ix ix_z (zv 0) (zv 1) (fun _ _ => rfl)) pe_int))
  (pss_cons (ps_set (i := 3) sc_law_digits.nd rfl (Or.inl rfl) (pe_op op_zAdd (pe_op op_zMul pe_int (zv 1)) pe_int))
  (pss_cons (psz_for PassesOwn.leaving rfl (pi_zEnum (by rfl) T.b_enumerate (pa_cons (pe_slice sl_list (zv 0) po_none (po_some pe_int)) pa_nil)) (pg_tup rfl (pgs_cons (pg_name (i := 4) sc_law_digits.nd rfl (Or.inl rfl)) (pgs_cons (pg_name (i := 5) sc_law_digits.nd rfl (Or.inl rfl)) pgs_nil)))
  (pss_one (ps_set (i := 3) sc_law_digits.nd rfl (Or.inl rfl) (pe_op op_zMod (pe_callTy call_intZ (by rfl) T.b_int (by decide +kernel) (pa_cons (pe_op op_zAdd (pe_op op_zAdd (pe_op op_zAdd (pe_op op_zMul (zv 3) pe_int) (pe_op op_zMod (pe_callTy call_intZ (by rfl) T.b_int (by decide +kernel) (pa_cons (zv 5) pa_nil)) pe_int)) (pe_op op_zMul pe_int (zv 4))) pe_int) pa_nil)) pe_int))))
  (pss_one (ps_ret (pe_lst (pa_cons (pe_ifExp (ptz_cmp op_zGe (pe_callB call_absZ (by rfl) T.b_abs (by decide +kernel) (pa_cons (zv 2) pa_nil)) (pe_op op_zPow pe_int pe_int) (nomark _)) (pe_callB call_absZ (by rfl) T.b_abs (by decide +kernel) (pa_cons (zv 2) pa_nil)) pe_int) (pa_cons (zv 3) pa_nil))))))))
theorem sc_law_take : FnScope ["bag", "many", "digit"] ["bag", "many"] (defScope s_law_take) := ⟨rfl, rfl, rfl, by decide +kernel, rfl, by decide +kernel, by decide +kernel⟩
def R_law_take_3 (K : PySem.W.Frag) (g : Ads) (E : XK) : TS :=
  (tSeq (tAsg (tOp zFdiv (tOp (zIx K) (zVar 0) (tC (.int 0))) (zVar 1)) (gSub (zVar 0) (tC (.int 0)) rSetL))
  (tRet (zVar 2)))
def R_law_take_2 (K : PySem.W.Frag) (g : Ads) (E : XK) : TS :=
  (tSeq (tAsg (tOp zMod (tCB rIntS (tCons (tOp (zIx K) (zVar 0) (tC (.int 0))) tNil)) (zVar 1)) (gName 2))
  (R_law_take_3 K g E))
def R_law_take_6 (K : PySem.W.Frag) (g : Ads) (E : XK) : TS :=
  (tRet (tOp zMod (tOp zFdiv (tOp zMod (tCB rInt1 (tCons (tOp zMul (tOp zFdiv (tOp (zIx K) (zVar 0) (tC (.int 1))) (tC (.int 13))) (tC (.int 44497))) tNil)) (tC (.int 2147483563))) (tC (.int 64))) (zVar 1)))
def R_law_take_5 (K : PySem.W.Frag) (g : Ads) (E : XK) : TS :=
  (tSeq (tAsg (tOp zMod (tCB rInt1 (tCons (tOp zAdd (tOp zMul (tOp (zIx K) (zVar 0) (tC (.int 1))) (tC (.int 39373))) (tC (.int 7919))) tNil)) (tC (.int 2147483647))) (gSub (zVar 0) (tC (.int 1)) rSetL))
  (R_law_take_6 K g E))
def R_law_take (K : PySem.W.Frag) (g : Ads) (E : XK) : TS :=
  (tSeq (tIfS (zTest (tOp zGt (tOp (zIx K) (zVar 0) (tC (.int 0))) (tC (.int 0))))
  (R_law_take_2 K g E)
  tNext)
  (R_law_take_5 K g E))
def rw_law_take (K : PySem.W.Frag) (g : Ads) : Sp := fun vs H Q E => vs.length = 2 ∧ R_law_take K g E { nx := fun _ H' => Q .non H', rt := Q } (start ["bag", "many", "digit"] vs) H
theorem raw_law_take {P : Program} {w : World} {K : PySem.W.Frag} {mg : Str → Option Value} {base : Heap} {g : Ads} (T : Txt K mg g) : FnG true P w K mg base 1 g.f_law_take g.d_law_take ["bag", "many"] (rw_law_take K g) := by
  refine okZ T.f_law_take sc_law_take (fun vs H Q E h => h.1) (fun cdv A outer s H vs Q E hr hgu h => ⟨R_law_take K g E, ?_, h.2⟩)
  exact (pss_cons (ps_if (ptz_cmp op_zGt (pe_ix ix_z (zv 0) pe_int (fun _ _ => rfl)) pe_int (nomark _))
  (pss_cons (ps_set (i := 2) sc_law_take.nd rfl (Or.inl rfl) (pe_op op_zMod (pe_callTy call_intS (by rfl) T.b_int (by decide +kernel) (pa_cons (pe_ix ix_z (zv 0) pe_int (fun _ _ => rfl)) pa_nil)) (zv 1)))
  (pss_cons (ps_asg (pe_op op_zFdiv (pe_ix ix_z (zv 0) pe_int (fun _ _ => rfl)) (zv 1)) (pg_sub (zv 0) pe_int set_list))
  (pss_one (ps_ret (zv 2)))))
  pss_nil)
  (pss_cons (ps_asg (pe_op op_zMod (pe_callTy call_intZ (by rfl) T.b_int (by decide +kernel) (pa_cons (pe_op op_zAdd (pe_op op_zMul (pe_ix ix_z (zv 0) pe_int (fun _ _ => rfl)) pe_int) pe_int) pa_nil)) pe_int) (pg_sub (zv 0) pe_int set_list))
  (pss_one (ps_ret (pe_op op_zMod (pe_op op_zFdiv (pe_op op_zMod (pe_callTy call_intZ (by rfl) T.b_int (by decide +kernel) (pa_cons (pe_op op_zMul (pe_op op_zFdiv (pe_ix ix_z (zv 0) pe_int (fun _ _ => rfl)) pe_int) pe_int) pa_nil)) pe_int) pe_int) (zv 1))))))

def BagAt (H : Hp) (p : Addr) : Prop := ∃ c m : Int, H p = some (.lst [.int c, .int m])
theorem BagAt.same {H H' : Hp} {p : Addr} (b : BagAt H p) (s : Same H H') : BagAt H' p := by
  obtain ⟨c, m, e⟩ := b
  exact ⟨c, m, s _ _ e⟩
theorem BagAt.ne {H : Hp} {p b : Addr} (h : BagAt H p) (n : H b = none) : b ≠ p := by
  obtain ⟨c, m, e⟩ := h
  intro z
  rw [z, e] at n
  cases n
theorem divW {n : Int} (h0 : 0 < n) (h : n ≤ 1000000000000000000000000) : CDivW 1 n := wide_div h0 (b := 80) (by omega) (by decide) (by decide)
theorem cut_ints (ns : List Int) (lo hi : Option Int) : ∃ ms : List Int, cutV (ns.map V.int) lo hi = ms.map V.int ∧ ms.length ≤ ns.length := by
  refine ⟨(ns.drop (HT.sIx ns.length 0 lo)).take (HT.sIx ns.length ns.length hi - HT.sIx ns.length 0 lo), ?_, ?_⟩
  · simp [cutV, List.map_take, List.map_drop]
  · simp; omega
def sp_law_digits (K : PySem.W.Frag) (g : Ads) : Sp := fun vs H Q E => ∃ (a : Addr) (ns : List Int) (t : Int), vs = [.ref a, .int t] ∧ SqL K H a (ns.map V.int) ∧ ns.length ≤ 63 ∧ 0 ≤ t ∧
  ∀ p H', H p = none → Same H H' → BagAt H' p → Q (.ref p) H'
theorem pf_law_digits {K : PySem.W.Frag} {g : Ads} (vs : List V) (H : Hp) (Q : VK) (E : XK) (h : sp_law_digits K g vs H Q E) : rw_law_digits K g vs H Q E := by
  obtain ⟨a, ns, t, rfl, hS, hl, ht, q⟩ := h
  refine ⟨rfl, ⟨_, .inl hS, ?_⟩⟩
  have go : ∀ c : Int, R_law_digits_2 K g E { nx := fun _ H' => Q .non H', rt := Q } [some (.ref a), some (.int t), some (.int c), none, none, none] H := by
    intro c
    refine ⟨.inl (by decide), 48, rfl, a, _, rfl, hS, fun p hp => ?_⟩
    obtain ⟨ms, em, lm⟩ := cut_ints ns none (some 48)
    rw [em]
    have s1 : Same H (upd H p (.lst (ms.map V.int))) := Same.put hp
    have e1 : (upd H p (.lst (ms.map V.int))) p = some (.lst (ms.map V.int)) := upd_same
    generalize upd H p (.lst (ms.map V.int)) = H1 at s1 e1
    refine ⟨p, _, rfl, .inl ⟨SqL.of e1, for_z walk_enum (fun i σ H2 => ∃ (m : Int) (v4 v5 : Option V), σ = [some (.ref a), some (.int t), some (.int c), some (.int m), v4, v5] ∧ Same H1 H2)
      ⟨_, none, none, rfl, Same.refl _⟩ (fun i σ H2 _ ⟨_, _, _, _, s2⟩ => SqL.of (s2 _ _ e1)) ?_ ?_⟩⟩
    · rintro i x σ H2 H3 hi ⟨m, v4, v5, rfl, s2⟩ ⟨T, x1, x2, rfl, hT, rfl, f1, f2⟩
      cases f1
      have f2 : (ms.map V.int)[i]? = some x2 := f2
      rw [List.getElem?_map] at f2
      cases e : ms[i]? with
      | none => rw [e] at f2; cases f2
      | some z =>
        rw [e] at f2
        cases f2
        exact ⟨T, _, rfl, SqT.of upd_same, rfl, _, _, rfl, _, _, rfl, rfl, .inr (by decide), by decide, .inl (by decide), by decide, _, _, _, rfl, s2.trans (Same.put hT)⟩
    · rintro σ H2 ⟨m, v4, v5, rfl, s2⟩
      have fin : ∀ c' : Int, (2 ≤ sizeLine ∧ ∀ p2, H2 p2 = none → Q (.ref p2) (upd H2 p2 (.lst [.int c', .int m]))) := fun c' =>
        ⟨by decide, fun p2 hp2 => q _ _ ((s1.trans s2).free hp2) ((s1.trans s2).trans (Same.put hp2)) ⟨c', m, upd_same⟩⟩
      exact ⟨⟨by decide, by decide, by decide⟩, zite (fun _ => fin _) (fun _ => fin _)⟩
  refine zite (fun h1 => ?_) (fun h1 => go 0)
  have h1' : t < (ns.map V.int).length := by simpa using h1
  obtain ⟨k, rfl⟩ : ∃ k : Nat, t = k := ⟨t.toNat, by omega⟩
  have hk : k < ns.length := by
    rw [List.length_map] at h1'
    omega
  exact ⟨_, .int ns[k], .inl hS, atI_nat (by simp [hk]), go _⟩
theorem ok_law_digits {P : Program} {w : World} {K : PySem.W.Frag} {mg : Str → Option Value} {base : Heap} {g : Ads} (T : Txt K mg g) : FnZ P w K mg base 1 g.f_law_digits g.d_law_digits ["script", "at"] (sp_law_digits K g) := (raw_law_digits T).imp pf_law_digits
def sp_law_take (K : PySem.W.Frag) (g : Ads) : Sp := fun vs H Q E => ∃ (p : Addr) (n : Int), vs = [.ref p, .int n] ∧ BagAt H p ∧ 0 < n ∧ n ≤ 1000000000000000000000000 ∧
  ∀ r H', 0 ≤ r → r < n → BagAt H' p → But p H H' → Q (.int r) H'
theorem pf_law_take {K : PySem.W.Frag} {g : Ads} (vs : List V) (H : Hp) (Q : VK) (E : XK) (h : sp_law_take K g vs H Q E) : rw_law_take K g vs H Q E := by
  obtain ⟨p, n, rfl, ⟨c, m, h1⟩, n0, n1, q⟩ := h
  refine ⟨rfl, ⟨_, _, .inl (SqL.of h1), rfl, zite (fun hc => ?_) (fun hc => ?_)⟩⟩
  · refine ⟨_, _, .inl (SqL.of h1), rfl, n0, _, _, .inl (SqL.of h1), rfl, divW n0 n1, p, _, _, _, rfl, rfl, h1, rfl, ?_⟩
    exact q _ _ (Int.emod_nonneg _ (by omega)) (Int.emod_lt_of_pos _ n0) ⟨c / n, m, upd_same⟩ But.put
  · refine ⟨_, _, .inl (SqL.of h1), rfl, .inr (by decide), by decide, p, _, _, _, rfl, rfl, h1, rfl, ?_⟩
    refine ⟨_, _, .inl (SqL.of upd_same), rfl, ⟨by decide, by decide⟩, .inr (by decide), by decide, ⟨by decide, by decide⟩, n0, ?_⟩
    exact q _ _ (Int.emod_nonneg _ (by omega)) (Int.emod_lt_of_pos _ n0) ⟨c, _, upd_same⟩ But.put
theorem ok_law_take {P : Program} {w : World} {K : PySem.W.Frag} {mg : Str → Option Value} {base : Heap} {g : Ads} (T : Txt K mg g) : FnZ P w K mg base 1 g.f_law_take g.d_law_take ["bag", "many"] (sp_law_take K g) := (raw_law_take T).imp pf_law_take
theorem sc_law_number : FnScope ["bag"] ["bag"] (defScope s_law_number) := ⟨rfl, rfl, rfl, by decide +kernel, rfl, by decide +kernel, by decide +kernel⟩
def R_law_number_2 (K : PySem.W.Frag) (g : Ads) (E : XK) : TS :=
  (tRet (tOp zSub (zCall (sp_law_take K g) [] (WE (fun cls d _ H => E cls d H)) (tCons (zVar 0) (tCons (tC (.int 5)) tNil))) (tC (.int 2))))
def R_law_number_3 (K : PySem.W.Frag) (g : Ads) (E : XK) : TS :=
  (tRet (tOp zMul (zCall (sp_law_take K g) [] (WE (fun cls d _ H => E cls d H)) (tCons (zVar 0) (tCons (tOp zPow (tC (.int 10)) (tC (.int 20))) tNil))) (tOp zSub (tC (.int 1)) (tOp zMul (tC (.int 2)) (zCall (sp_law_take K g) [] (WE (fun cls d _ H => E cls d H)) (tCons (zVar 0) (tCons (tC (.int 2)) tNil)))))))
def R_law_number (K : PySem.W.Frag) (g : Ads) (E : XK) : TS :=
  (tSeq (tIfS (zTest (tOp zGt (zCall (sp_law_take K g) [] (WE (fun cls d _ H => E cls d H)) (tCons (zVar 0) (tCons (tC (.int 3)) tNil))) (tC (.int 0))))
  (R_law_number_2 K g E)
  tNext)
  (R_law_number_3 K g E))
def rw_law_number (K : PySem.W.Frag) (g : Ads) : Sp := fun vs H Q E => vs.length = 1 ∧ R_law_number K g E { nx := fun _ H' => Q .non H', rt := Q } (start ["bag"] vs) H
theorem raw_law_number {P : Program} {w : World} {K : PySem.W.Frag} {mg : Str → Option Value} {base : Heap} {g : Ads} (T : Txt K mg g) : FnG true P w K mg base 2 g.f_law_number g.d_law_number ["bag"] (rw_law_number K g) := by
  refine okZ T.f_law_number sc_law_number (fun vs H Q E h => h.1) (fun cdv A outer s H vs Q E hr hgu h => ⟨R_law_number K g E, ?_, h.2⟩)
  exact (pss_cons (ps_if (ptz_cmp op_zGt (pe_callZ (ok_law_take T) (hr.mono (by decide)) hgu rfl T.g_law_take T.k_law_take T.e_law_take .nil (fun σ => passAt (takes_of rfl rfl rfl rfl) σ) (pa_cons (zv 0) (pa_cons pe_int pa_nil))) pe_int (nomark _))
  (pss_one (ps_ret (pe_op op_zSub (pe_callZ (ok_law_take T) (hr.mono (by decide)) hgu rfl T.g_law_take T.k_law_take T.e_law_take .nil (fun σ => passAt (takes_of rfl rfl rfl rfl) σ) (pa_cons (zv 0) (pa_cons pe_int pa_nil))) pe_int)))
  pss_nil)
  (pss_one (ps_ret (pe_op op_zMul (pe_callZ (ok_law_take T) (hr.mono (by decide)) hgu rfl T.g_law_take T.k_law_take T.e_law_take .nil (fun σ => passAt (takes_of rfl rfl rfl rfl) σ) (pa_cons (zv 0) (pa_cons (pe_op op_zPow pe_int pe_int) pa_nil))) (pe_op op_zSub pe_int (pe_op op_zMul pe_int (pe_callZ (ok_law_take T) (hr.mono (by decide)) hgu rfl T.g_law_take T.k_law_take T.e_law_take .nil (fun σ => passAt (takes_of rfl rfl rfl rfl) σ) (pa_cons (zv 0) (pa_cons pe_int pa_nil)))))))))
def sp_law_number (K : PySem.W.Frag) (g : Ads) : Sp := fun vs H Q E => ∃ (p : Addr), vs = [.ref p] ∧ BagAt H p ∧ ∀ i H', -100000000000000000000 < i → i < 100000000000000000000 → BagAt H' p → But p H H' → Q (.int i) H'
theorem pf_law_number {K : PySem.W.Frag} {g : Ads} (vs : List V) (H : Hp) (Q : VK) (E : XK) (h : sp_law_number K g vs H Q E) : rw_law_number K g vs H Q E := by
  obtain ⟨p, rfl, hb, q⟩ := h
  refine ⟨rfl, p, _, rfl, hb, by decide, by decide, fun r H1 r0 r1 d1 b1 => zite (fun h1 => ?_) (fun h1 => ?_)⟩
  · exact ⟨p, _, rfl, d1, by decide, by decide, fun r2 H2 r3 r4 d2 b2 => q _ _ (by omega) (by omega) d2 (b1.trans b2)⟩
  · refine ⟨⟨by decide, by decide, by decide⟩, p, _, rfl, d1, by decide, by decide, fun r2 H2 r3 r4 d2 b2 => ⟨p, _, rfl, d2, by decide, by decide, fun r5 H3 r6 r7 d3 b3 => ⟨.inl (by decide), ?_⟩⟩⟩
    have r4' : r2 < 100000000000000000000 := r4
    have e : r5 = 0 ∨ r5 = 1 := by omega
    rcases e with rfl | rfl
    · exact ⟨.inr (by decide), q _ _ (by omega) (by omega) d3 ((b1.trans b2).trans b3)⟩
    · exact ⟨.inr (by decide), q _ _ (by omega) (by omega) d3 ((b1.trans b2).trans b3)⟩
theorem ok_law_number {P : Program} {w : World} {K : PySem.W.Frag} {mg : Str → Option Value} {base : Heap} {g : Ads} (T : Txt K mg g) : FnZ P w K mg base 2 g.f_law_number g.d_law_number ["bag"] (sp_law_number K g) := (raw_law_number T).imp pf_law_number
theorem sc_law_drawn : FnScope ["bag", "many", "words", "rows", "turn", "parts", "side", "pick"] ["bag", "many"] (defScope s_law_drawn) := ⟨rfl, rfl, rfl, by decide +kernel, rfl, by decide +kernel, by decide +kernel⟩
def R_law_drawn_8 (K : PySem.W.Frag) (g : Ads) (E : XK) : TS :=
  (tDrop (tBM K "list" rAppend (zVar 5) (tCons (tC .non) tNil)))
def R_law_drawn_10 (K : PySem.W.Frag) (g : Ads) (E : XK) : TS :=
  (tDrop (tBM K "list" rAppend (zVar 5) (tCons (zCall (sp_law_number K g) [] (WE (fun cls d _ H => E cls d H)) (tCons (zVar 0) tNil)) tNil)))
def R_law_drawn_12 (K : PySem.W.Frag) (g : Ads) (E : XK) : TS :=
  (tDrop (tBM K "list" rAppend (zVar 5) (tCons (tOp (zIx K) (zVar 2) (zCall (sp_law_take K g) [] (WE (fun cls d _ H => E cls d H)) (tCons (zVar 0) (tCons (tCB (zLen K) (tCons (zVar 2) tNil)) tNil)))) tNil)))
def R_law_drawn_9 (K : PySem.W.Frag) (g : Ads) (E : XK) : TS :=
  (tIfS (zTest (tOp (zEq K) (zVar 7) (tC (.int 1))))
  (R_law_drawn_10 K g E)
  (R_law_drawn_12 K g E))
def R_law_drawn_7 (K : PySem.W.Frag) (g : Ads) (E : XK) : TS :=
  (tIfS (zTest (tOp (zEq K) (zVar 7) (tC (.int 0))))
  (R_law_drawn_8 K g E)
  (R_law_drawn_9 K g E))
def R_law_drawn_6 (K : PySem.W.Frag) (g : Ads) (E : XK) : TS :=
  (tSeq (tAsg (zCall (sp_law_take K g) [] (WE (fun cls d _ H => E cls d H)) (tCons (zVar 0) (tCons (tC (.int 8)) tNil))) (gName 7))
  (R_law_drawn_7 K g E))
def R_law_drawn_13 (K : PySem.W.Frag) (g : Ads) (E : XK) : TS :=
  (tDrop (tBM K "list" rAppend (zVar 3) (tCons (tTup (tCons (tOp (zIx K) (zVar 5) (tC (.int 0))) (tCons (tOp (zIx K) (zVar 5) (tC (.int 1))) tNil))) tNil)))
def R_law_drawn_5 (K : PySem.W.Frag) (g : Ads) (E : XK) : TS :=
  (tSeq (zFor (iRng1 (tCons (tC (.int 2)) tNil)) (gName 6)
  (R_law_drawn_6 K g E))
  (R_law_drawn_13 K g E))
def R_law_drawn_4 (K : PySem.W.Frag) (g : Ads) (E : XK) : TS :=
  (tSeq (tAsg (tLst tNil) (gName 5))
  (R_law_drawn_5 K g E))
def R_law_drawn_3 (K : PySem.W.Frag) (g : Ads) (E : XK) : TS :=
  (tSeq (zFor (iRng1 (tCons (zVar 1) tNil)) (gName 4)
  (R_law_drawn_4 K g E))
  (tRet (zVar 3)))
def R_law_drawn_2 (K : PySem.W.Frag) (g : Ads) (E : XK) : TS :=
  (tSeq (tAsg (tLst tNil) (gName 3))
  (R_law_drawn_3 K g E))
def R_law_drawn (K : PySem.W.Frag) (g : Ads) (E : XK) : TS :=
  (tSeq (tAsg (tSl (rSlL K) (tLst (tCons (tC (.str "")) (tCons (tC (.str "none")) (tCons (tC (.str "v0")) (tCons (tC (.str "v1")) (tCons (tC (.str "v10")) (tCons (tC (.str "V0")) (tCons (tC (.str "x y")) tNil)))))))) tNoPart (tPart (tOp zAdd (tC (.int 1)) (zCall (sp_law_take K g) [] (WE (fun cls d _ H => E cls d H)) (tCons (zVar 0) (tCons (tC (.int 7)) tNil)))))) (gName 2))
  (R_law_drawn_2 K g E))
def rw_law_drawn (K : PySem.W.Frag) (g : Ads) : Sp := fun vs H Q E => vs.length = 2 ∧ R_law_drawn K g E { nx := fun _ H' => Q .non H', rt := Q } (start ["bag", "many", "words", "rows", "turn", "parts", "side", "pick"] vs) H
theorem raw_law_drawn {P : Program} {w : World} {K : PySem.W.Frag} {mg : Str → Option Value} {base : Heap} {g : Ads} (T : Txt K mg g) : FnG true P w K mg base 3 g.f_law_drawn g.d_law_drawn ["bag", "many"] (rw_law_drawn K g) := by
  refine okZ T.f_law_drawn sc_law_drawn (fun vs H Q E h => h.1) (fun cdv A outer s H vs Q E hr hgu h => ⟨R_law_drawn K g E, ?_, h.2⟩)
  exact (pss_cons (ps_set (i := 2) sc_law_drawn.nd rfl (Or.inl rfl) (pe_slice sl_list (pe_lst (pa_cons pe_str (pa_cons pe_str (pa_cons pe_str (pa_cons pe_str (pa_cons pe_str (pa_cons pe_str (pa_cons pe_str pa_nil)))))))) po_none (po_some (pe_op op_zAdd pe_int (pe_callZ (ok_law_take T) (hr.mono (by decide)) hgu rfl T.g_law_take T.k_law_take T.e_law_take .nil (fun σ => passAt (takes_of rfl rfl rfl rfl) σ) (pa_cons (zv 0) (pa_cons pe_int pa_nil)))))))
  (pss_cons (ps_set (i := 3) sc_law_drawn.nd rfl (Or.inl rfl) (pe_lst pa_nil))
  (pss_cons (psz_for PassesOwn.leaving rfl (pi_range1 rfl T.b_range (pa_cons (zv 1) pa_nil)) (pg_name (i := 4) sc_law_drawn.nd rfl (Or.inl rfl))
  (pss_cons (ps_set (i := 5) sc_law_drawn.nd rfl (Or.inl rfl) (pe_lst pa_nil))
  (pss_cons (psz_for PassesOwn.leaving rfl (pi_range1 rfl T.b_range (pa_cons pe_int pa_nil)) (pg_name (i := 6) sc_law_drawn.nd rfl (Or.inl rfl))
  (pss_cons (ps_set (i := 7) sc_law_drawn.nd rfl (Or.inl rfl) (pe_callZ (ok_law_take T) (hr.mono (by decide)) hgu rfl T.g_law_take T.k_law_take T.e_law_take .nil (fun σ => passAt (takes_of rfl rfl rfl rfl) σ) (pa_cons (zv 0) (pa_cons pe_int pa_nil))))
  (pss_one (ps_if (ptz_cmp (op_zEq hr.units) (zv 7) pe_int (nomark _))
  (pss_one (ps_expr (pe_bm PySem.F.plainAttrs_list PySem.F.slot_list_append PySem.F.type_list_append mt_append (zv 5) (pa_cons pe_non pa_nil))))
  (pss_one (ps_if (ptz_cmp (op_zEq hr.units) (zv 7) pe_int (nomark _))
  (pss_one (ps_expr (pe_bm PySem.F.plainAttrs_list PySem.F.slot_list_append PySem.F.type_list_append mt_append (zv 5) (pa_cons (pe_callZ (ok_law_number T) (hr.mono (by decide)) hgu rfl T.g_law_number T.k_law_number T.e_law_number .nil (fun σ => passAt (takes_of rfl rfl rfl rfl) σ) (pa_cons (zv 0) pa_nil)) pa_nil))))
  (pss_one (ps_expr (pe_bm PySem.F.plainAttrs_list PySem.F.slot_list_append PySem.F.type_list_append mt_append (zv 5) (pa_cons (pe_ix ix_z (zv 2) (pe_callZ (ok_law_take T) (hr.mono (by decide)) hgu rfl T.g_law_take T.k_law_take T.e_law_take .nil (fun σ => passAt (takes_of rfl rfl rfl rfl) σ) (pa_cons (zv 0) (pa_cons (pe_callB call_lenZ (by rfl) T.b_len (by decide +kernel) (pa_cons (zv 2) pa_nil)) pa_nil))) (fun _ _ => rfl)) pa_nil))))))))))
  (pss_one (ps_expr (pe_bm PySem.F.plainAttrs_list PySem.F.slot_list_append PySem.F.type_list_append mt_append (zv 3) (pa_cons (pe_tup (pa_cons (pe_ix ix_z (zv 5) pe_int (fun _ _ => rfl)) (pa_cons (pe_ix ix_z (zv 5) pe_int (fun _ _ => rfl)) pa_nil))) pa_nil)))))))
  (pss_one (ps_ret (zv 3))))))

/-! ### what is kept while lists change -/
def KeepT (H H' : Hp) : Prop := ∀ b o, H b = some o → (∀ l, o ≠ .lst l) → H' b = some o
theorem KeepT.refl (H : Hp) : KeepT H H := fun _ _ e _ => e
theorem KeepT.trans {A B C : Hp} (h : KeepT A B) (k : KeepT B C) : KeepT A C := fun b o e n => k b o (h b o e n) n
theorem KeepT.same {H H' : Hp} (s : Same H H') : KeepT H H' := fun b o e _ => s b o e
theorem KeepT.but {H H' : Hp} {p : Addr} (h : BagAt H p) (b : But p H H') : KeepT H H' := fun c o e n => b c o e fun z => by
  obtain ⟨x, y, e2⟩ := h
  rw [z, e2] at e
  cases e
  exact n _ rfl
theorem KeepT.put {H : Hp} {a : Addr} {l : List V} {o : HO} (e : H a = some (.lst l)) : KeepT H (upd H a o) := fun b u e2 n => by
  rw [upd_ne fun z => ?_]
  · exact e2
  · rw [z, e] at e2
    cases e2
    exact n _ rfl
theorem SqT.keepT {K : PySem.W.Frag} {H H' : Hp} {a : Addr} {xs : List V} (k : KeepT H H') (h : SqT K H a xs) : SqT K H' a xs := by
  rcases h with (h | ⟨o, h⟩) | h
  · exact .inl (.inl (k _ _ h fun l z => (nomatch z)))
  · exact .inl (.inr ⟨o, k _ _ h fun l z => (nomatch z)⟩)
  · exact .inr h
theorem RowAt.keepT {K : PySem.W.Frag} {H H' : Hp} {x : V} {p : Rw} (k : KeepT H H') (h : RowAt K H x p) : RowAt K H' x p := by
  obtain ⟨r, e, q⟩ := h
  exact ⟨r, e, Z.SqT.keepT k q⟩
theorem RowsAt.keepT {K : PySem.W.Frag} {H H' : Hp} {xs : List V} {ps : List Rw} (k : KeepT H H') (h : RowsAt K H xs ps) : RowsAt K H' xs ps := L2.Paired.mapP h fun _ _ q => q.keepT k
theorem PairAt.keepT {K : PySem.W.Frag} {g : Ads} {H H' : Hp} {o : Addr} {R : List Rw} {ap : List Nat} (k : KeepT H H') (h : PairAt K g H o R ap) : PairAt K g H' o R ap := by
  obtain ⟨⟨dx, ra, aa, fs, ys, h1, h2, h3, h4, h5, h6⟩, h7, h8, h9⟩ := h
  exact ⟨⟨dx, ra, aa, fs, ys, k _ _ h1 fun l z => (nomatch z), h2, h3, Z.SqT.keepT k h4, RowsAt.keepT k h5, Z.SqT.keepT k h6⟩, h7, h8, h9⟩
/-- a short text of plain signs -/
def wTxt (z : Str) : Prop := z.length ≤ 20 ∧ ∀ c ∈ z.cps.toList, c < 1114112
def uOk (p : Prt) : Prop := pOk p ∧ ∀ z, p = .str z → wTxt z
abbrev pwords : List Str := ["", "none", "v0", "v1", "v10", "V0", "x y"]
theorem pwords_ok : ∀ z ∈ pwords, z.length ≤ 20 ∧ ∀ c ∈ z.cps.toList, c < 1114112 := by decide +kernel
theorem cut_words {r : Int} (h0 : 0 ≤ r) (h1 : r < 7) : ∃ zs : List Str, cutV (pwords.map V.str) none (some (1 + r)) = zs.map V.str ∧ 0 < zs.length ∧ zs.length ≤ 7 ∧ ∀ z ∈ zs, wTxt z := by
  have e : r = 0 ∨ r = 1 ∨ r = 2 ∨ r = 3 ∨ r = 4 ∨ r = 5 ∨ r = 6 := by omega
  rcases e with rfl | rfl | rfl | rfl | rfl | rfl | rfl
  · exact ⟨pwords.take 1, rfl, by decide, by decide, fun z hz => pwords_ok z (List.mem_of_mem_take hz)⟩
  · exact ⟨pwords.take 2, rfl, by decide, by decide, fun z hz => pwords_ok z (List.mem_of_mem_take hz)⟩
  · exact ⟨pwords.take 3, rfl, by decide, by decide, fun z hz => pwords_ok z (List.mem_of_mem_take hz)⟩
  · exact ⟨pwords.take 4, rfl, by decide, by decide, fun z hz => pwords_ok z (List.mem_of_mem_take hz)⟩
  · exact ⟨pwords.take 5, rfl, by decide, by decide, fun z hz => pwords_ok z (List.mem_of_mem_take hz)⟩
  · exact ⟨pwords.take 6, rfl, by decide, by decide, fun z hz => pwords_ok z (List.mem_of_mem_take hz)⟩
  · exact ⟨pwords.take 7, rfl, by decide, by decide, fun z hz => pwords_ok z (List.mem_of_mem_take hz)⟩
def rOk (p : Rw) : Prop := uOk p.1 ∧ uOk p.2
def sp_law_drawn (K : PySem.W.Frag) (g : Ads) : Sp := fun vs H Q E => ∃ (p : Addr) (n : Int), vs = [.ref p, .int n] ∧ BagAt H p ∧ 0 ≤ n ∧ n ≤ 500 ∧
  ∀ D xs ps H', BagAt H' p → But p H H' → H D = none → H' D = some (.lst xs) → RowsAt K H' xs ps → (∀ q ∈ ps, rOk q) → ps.length ≤ 500 → (ps.length : Int) ≤ n → Q (.ref D) H'
theorem pf_law_drawn {K : PySem.W.Frag} {g : Ads} (vs : List V) (H : Hp) (Q : VK) (E : XK) (h : sp_law_drawn K g vs H Q E) : rw_law_drawn K g vs H Q E := by
  obtain ⟨p, n, rfl, hb, n0, n1, q⟩ := h
  refine ⟨rfl, show 7 ≤ sizeLine by decide, fun l hl => ⟨p, 7, rfl, hb.same (Same.put hl), by decide, by decide, fun r H1 r0 r1 b1 bt1 => ?_⟩⟩
  have sl : Same H (upd H l (.lst (pwords.map V.str))) := Same.put hl
  have nl : l ≠ p := hb.ne hl
  have el : H1 l = some (.lst (pwords.map V.str)) := bt1 _ _ upd_same nl
  refine ⟨1 + r, rfl, l, _, rfl, SqL.of el, fun W hW => ?_⟩
  obtain ⟨zs, ez, z0, z7, zw⟩ := cut_words r0 r1
  show R_law_drawn_2 K g E { nx := fun _ H' => Q .non H', rt := Q } [some (.ref p), some (.int n), some (.ref W), none, none, none, none, none] (upd H1 W (.lst (cutV (pwords.map V.str) none (some (1 + r)))))
  rw [ez]
  have sW : Same H1 (upd H1 W (.lst (zs.map V.str))) := Same.put hW
  refine ⟨show 0 ≤ sizeLine by decide, fun R hR => ?_⟩
  have sR : Same (upd H1 W (.lst (zs.map V.str))) (upd (upd H1 W (.lst (zs.map V.str))) R (.lst [])) := Same.put hR
  have b2 : BagAt (upd (upd H1 W (.lst (zs.map V.str))) R (.lst [])) p := b1.same (sW.trans sR)
  have nW : W ≠ p := b1.ne hW
  have nR : R ≠ p := (b1.same sW).ne hR
  have nWR : W ≠ R := ne_of_none upd_same hR
  have bt : But p H (upd (upd H1 W (.lst (zs.map V.str))) R (.lst [])) := (But.same sl).trans (bt1.trans (But.same (sW.trans sR)))
  have hRn : H R = none := by
    cases e : H R with
    | none => rfl
    | some o =>
      have e2 := (sW) _ _ (bt1 _ _ (sl _ _ e) nR)
      rw [e2] at hR
      cases hR
  have eW : (upd (upd H1 W (.lst (zs.map V.str))) R (.lst [])) W = some (.lst (zs.map V.str)) := sR _ _ upd_same
  have eR : (upd (upd H1 W (.lst (zs.map V.str))) R (.lst [])) R = some (.lst []) := upd_same
  generalize upd (upd H1 W (.lst (zs.map V.str))) R (.lst []) = H2 at b2 bt eW eR
  refine ⟨n, rfl, by omega, by omega, for_z (walk_range (lo := 0) (n := n.toNat)) (fun i σ H' => (∃ s4 s5 s6 s7, σ = [some (.ref p), some (.int n), some (.ref W), some (.ref R), s4, s5, s6, s7]) ∧ BagAt H' p ∧ But p H H' ∧ H' W = some (.lst (zs.map V.str)) ∧
    ∃ acc ps, H' R = some (.lst acc) ∧ RowsAt K H' acc ps ∧ (∀ q ∈ ps, rOk q) ∧ ps.length = i) ⟨⟨none, none, none, none, rfl⟩, b2, bt, eW, [], [], eR, .nil, fun q hq => absurd hq (by simp), rfl⟩ (fun _ _ _ _ _ => trivial) (fun i x σ H3 H3' hi pv y => ?_) (fun σ H3 pv => ?_)⟩
  · obtain ⟨⟨s4, s5, s6, s7, e1⟩, c1, c2, c3, acc, ps, c4, c5, c6, c7⟩ := pv
    obtain ⟨rfl, rfl⟩ := y
    subst e1
    refine ⟨show 0 ≤ sizeLine by decide, fun S hS => ?_⟩
    have sS : Same H3' (upd H3' S (.lst [])) := Same.put hS
    have nS : S ≠ p := c1.ne hS
    have nSW : S ≠ W := (ne_of_none c3 hS).symm
    have nSR : S ≠ R := (ne_of_none c4 hS).symm
    have hSn : H S = none := by
      cases e : H S with
      | none => rfl
      | some o =>
        have e2 := c2 _ _ e nS
        rw [e2] at hS
        cases hS
    refine ⟨2, rfl, by decide, by decide, for_z (walk_range (lo := 0) (n := 2)) (fun j σ H' => (∃ s6 s7, σ = [some (.ref p), some (.int n), some (.ref W), some (.ref R), some (.int (0 + (i : Nat))), some (.ref S), s6, s7]) ∧ BagAt H' p ∧ But p H H' ∧ H' W = some (.lst (zs.map V.str)) ∧
      H' R = some (.lst acc) ∧ RowsAt K H' acc ps ∧ ∃ qs : List Prt, H' S = some (.lst (qs.map Prt.v)) ∧ qs.length = j ∧ ∀ u ∈ qs, uOk u)
      ⟨⟨_, _, rfl⟩, c1.same sS, c2.trans (But.same sS), sS _ _ c3, sS _ _ c4, RowsAt.same c5 sS, [], upd_same, rfl, fun u hu => absurd hu (by simp)⟩ (fun _ _ _ _ _ => trivial) (fun j x σ H4 H4' hj pv y => ?_) (fun σ H4 pv => ?_)⟩
    · obtain ⟨⟨s6, s7, e1⟩, d1, d2, d3, d4, d5, qs, d6, d7, d8⟩ := pv
      obtain ⟨rfl, rfl⟩ := y
      subst e1
      -- one more part
      have app : ∀ (H5 : Hp) (u : Prt) (s7' : Option V), BagAt H5 p → But p H4' H5 → uOk u →
          (∃ s6 s7, [some (V.ref p), some (.int n), some (.ref W), some (.ref R), some (.int (0 + (i : Nat))), some (.ref S), some (.int (0 + (j : Nat))), s7'] = [some (.ref p), some (.int n), some (.ref W), some (.ref R), some (.int (0 + (i : Nat))), some (.ref S), s6, s7]) ∧
          BagAt (upd H5 S (.lst (qs.map Prt.v ++ [u.v]))) p ∧ But p H (upd H5 S (.lst (qs.map Prt.v ++ [u.v]))) ∧ (upd H5 S (.lst (qs.map Prt.v ++ [u.v]))) W = some (.lst (zs.map V.str)) ∧
          (upd H5 S (.lst (qs.map Prt.v ++ [u.v]))) R = some (.lst acc) ∧ RowsAt K (upd H5 S (.lst (qs.map Prt.v ++ [u.v]))) acc ps ∧
          ∃ qs2 : List Prt, (upd H5 S (.lst (qs.map Prt.v ++ [u.v]))) S = some (.lst (qs2.map Prt.v)) ∧ qs2.length = j + 1 ∧ ∀ u ∈ qs2, uOk u := by
        intro H5 u s7' a1 a2 a3
        have a4 : H5 S = some (.lst (qs.map Prt.v)) := a2 _ _ d6 nS
        refine ⟨⟨_, _, rfl⟩, ?_, ?_, ?_, ?_, ?_, qs ++ [u], ?_, by simp [d7], ?_⟩
        · obtain ⟨c, m, e⟩ := a1
          exact ⟨c, m, by rw [upd_ne nS.symm]; exact e⟩
        · intro b o e nb
          rw [upd_ne (ne_of_none e hSn)]
          exact a2 _ _ (d2 _ _ e nb) nb
        · rw [upd_ne nSW.symm]
          exact a2 _ _ d3 nW
        · rw [upd_ne nSR.symm]
          exact a2 _ _ d4 nR
        · exact RowsAt.keepT ((KeepT.but d1 a2).trans (KeepT.put a4)) d5
        · rw [upd_same, List.map_append]
          rfl
        · intro v hv
          rcases List.mem_append.mp hv with h | h
          · exact d8 v h
          · obtain rfl : v = u := by simpa using h
            exact a3
      have lt : (qs.map Prt.v).length < sizeLine := Nat.lt_of_le_of_lt (show _ ≤ 2 by rw [List.length_map]; omega) (by decide)
      refine ⟨p, 8, rfl, d1, by decide, by decide, fun k H5 k0 k1 e1 f1 => .inl ⟨rfl, zite (fun _ => ?_) (fun _ => .inl ⟨rfl, zite (fun _ => ?_) (fun _ => ?_)⟩)⟩⟩
      · exact ⟨.inl ⟨rfl, _, SqL.of (f1 _ _ d6 nS)⟩, S, _, _, rfl, rfl, f1 _ _ d6 nS, lt, app H5 .non _ e1 f1 ⟨fun i h => (nomatch h), fun z h => (nomatch h)⟩⟩
      · exact ⟨.inl ⟨rfl, _, SqL.of (f1 _ _ d6 nS)⟩, p, rfl, e1, fun m H6 m0 m1 e2 f2 => ⟨S, _, _, rfl, rfl, f2 _ _ (f1 _ _ d6 nS) nS, lt, app H6 (.int m) _ e2 (f1.trans f2) ⟨fun i h => by cases h; exact ⟨m0, m1⟩, fun z h => (nomatch h)⟩⟩⟩
      · have eW5 := f1 _ _ d3 nW
        have l0 : (0 : Int) < ((zs.map V.str).length : Nat) := by
          rw [List.length_map]
          omega
        refine ⟨.inl ⟨rfl, _, SqL.of (f1 _ _ d6 nS)⟩, _, .inl (SqL.of eW5), p, _, rfl, e1, l0, ?_, fun k2 H6 g0 g1 e2 f2 => ?_⟩
        · rw [List.length_map]
          omega
        · have lz : k2.toNat < zs.length := by
            rw [List.length_map] at g1
            omega
          have hat : atI (zs.map V.str) k2 = some (.str zs[k2.toNat]) := by
            have := atI_nat (xs := zs.map V.str) (j := k2.toNat) (v := .str zs[k2.toNat]) (by simp [lz])
            rwa [show ((k2.toNat : Nat) : Int) = k2 by omega] at this
          exact ⟨_, _, .inl (SqL.of (f2 _ _ eW5 nW)), hat, S, _, _, rfl, rfl, f2 _ _ (f1 _ _ d6 nS) nS, lt, app H6 (.str zs[k2.toNat]) _ e2 (f1.trans f2) ⟨fun i h => (nomatch h), fun z h => by cases h; exact zw _ (List.getElem_mem lz)⟩⟩
    · obtain ⟨⟨s6, s7, e1⟩, d1, d2, d3, d4, d5, qs, d6, d7, d8⟩ := pv
      subst e1
      match qs, d7, d6, d8 with
      | [u1, u2], _, d6, d8 =>
        refine ⟨.inl ⟨rfl, _, SqL.of d4⟩, _, _, .inl (SqL.of d6), rfl, _, _, .inl (SqL.of d6), rfl, show 2 ≤ sizeLine by decide, fun T hT => ?_⟩
        have sT : Same H4 (upd H4 T (.tup [u1.v, u2.v])) := Same.put hT
        have eR := sT _ _ d4
        have la : acc.length ≤ 500 := by rw [c5.length]; omega
        have nTR : T ≠ R := (ne_of_none d4 hT).symm
        refine ⟨R, acc, _, rfl, rfl, eR, Nat.lt_of_le_of_lt la (by decide), ⟨_, _, _, _, rfl⟩, ?_, ?_, ?_, acc ++ [.ref T], ps ++ [(u1, u2)], upd_same, ?_, ?_, by simp [c7]⟩
        · obtain ⟨c, m, e⟩ := d1.same sT
          exact ⟨c, m, by rw [upd_ne nR.symm]; exact e⟩
        · intro b o e nb
          rw [upd_ne (ne_of_none e hRn)]
          exact sT _ _ (d2 _ _ e nb)
        · rw [upd_ne nWR]
          exact sT _ _ d3
        · have k5 : KeepT H4 (upd (upd H4 T (.tup [u1.v, u2.v])) R (.lst (acc ++ [.ref T]))) := (KeepT.same sT).trans (KeepT.put eR)
          refine (RowsAt.keepT k5 d5).snoc ⟨T, rfl, .inl (.inl ?_)⟩
          rw [upd_ne nTR, upd_same]
        · intro v hv
          rcases List.mem_append.mp hv with h | h
          · exact c6 v h
          · obtain rfl : v = (u1, u2) := by simpa using h
            exact ⟨d8 _ (by simp), d8 _ (by simp)⟩
  · obtain ⟨⟨s4, s5, s6, s7, e1⟩, c1, c2, c3, acc, ps, c4, c5, c6, c7⟩ := pv
    subst e1
    exact q R acc ps H3 c1 c2 hRn c4 c5 c6 (by omega) (by omega)
theorem ok_law_drawn {P : Program} {w : World} {K : PySem.W.Frag} {mg : Str → Option Value} {base : Heap} {g : Ads} (T : Txt K mg g) : FnZ P w K mg base 3 g.f_law_drawn g.d_law_drawn ["bag", "many"] (sp_law_drawn K g) := (raw_law_drawn T).imp pf_law_drawn
end Z
namespace Z
open PySem PySem.Spec PyProof.Rows L2
theorem exa_put {K : PySem.W.Frag} {H : Hp} {x d C : Addr} {fs : List (Str × V)} (hx : H x = none) (e : H d = some (.xd fs)) : ExA (upd H x (ExV (.ref C) (some d) x)) x C fs :=
  ⟨d, upd_same, by rw [upd_ne (ne_of_none e hx)]; exact e⟩
theorem sc_law_refused : FnScope ["rows", "due", "made", "e"] ["rows", "due"] (defScope s_law_refused) := ⟨rfl, rfl, rfl, by decide +kernel, rfl, by decide +kernel, by decide +kernel⟩
def R_law_refused_9 (K : PySem.W.Frag) (g : Ads) (E : XK) : TS :=
  (tRet (zAndV (tOp (zEq K) (tXv g.c_BadPair "index" (zVar 2)) (zVar 1)) (zAndV (zIsiT K .int (tXv g.c_BadPair "index" (zVar 2))) (zNotV (zIsiT K .bool (tXv g.c_BadPair "index" (zVar 2)))))))
def R_law_refused_7 (K : PySem.W.Frag) (g : Ads) (E : XK) : TS :=
  (tSeq (tIfS (zTru K (tCB (rIsVT K) (tCons (zVar 2) (tCons (tTup (tCons (tC (.ref g.c_BadKind)) (tCons (tC (.ref g.c_BadStep)) tNil))) tNil))))
  (tRet (tC (.bl false)))
  tNext)
  (R_law_refused_9 K g E))
def R_law_refused_5 (K : PySem.W.Frag) (g : Ads) (E : XK) : TS :=
  (tSeq (tIfS (tOr (tNot (zTru K (tCB (rIsV K) (tCons (zVar 2) (tCons (tC (.ref g.c_BadPair)) tNil))))) (tNot (zTru K (tCB (rIsV K) (tCons (zVar 2) (tCons (tC (.ty "ValueError")) tNil))))))
  (tRet (tC (.bl false)))
  tNext)
  (R_law_refused_7 K g E))
def R_law_refused (K : PySem.W.Frag) (g : Ads) (E : XK) : TS :=
  (tSeq (fun D σ H => (fun W => (tAsg (tCMethS g.c_Pair (sp_Pair_made K g) (WE W) (tC (.ref g.c_Pair)) (tCons (zVar 0) tNil)) (gName 2))) (wAsV K (.ref g.c_BadPair) 3 (tAsg (zVar 3) (gName 2)) D) D σ H)
  (R_law_refused_5 K g E))
def rw_law_refused (K : PySem.W.Frag) (g : Ads) : Sp := fun vs H Q E => vs.length = 2 ∧ R_law_refused K g E { nx := fun _ H' => Q .non H', rt := Q } (start ["rows", "due", "made", "e"] vs) H
theorem raw_law_refused {P : Program} {w : World} {K : PySem.W.Frag} {mg : Str → Option Value} {base : Heap} {g : Ads} (T : Txt K mg g) : FnG true P w K mg base 7 g.f_law_refused g.d_law_refused ["rows", "due"] (rw_law_refused K g) := by
  refine okZ T.f_law_refused sc_law_refused (fun vs H Q E h => h.1) (fun cdv A outer s H vs Q E hr hgu h => ⟨R_law_refused K g E, ?_, h.2⟩)
  exact (pss_cons (ps_try_asV (i := 3) (tb := fun W => (tAsg (tCMethS g.c_Pair (sp_Pair_made K g) (WE W) (tC (.ref g.c_Pair)) (tCons (zVar 0) tNil)) (gName 2))) (ts := (tAsg (zVar 3) (gName 2))) rfl rfl sc_law_refused.nd rfl rfl ⟨rfl, by decide, Or.inl T.g_BadPair⟩
  (fun W pn xe tk po => (pss_one (ps_set (i := 2) sc_law_refused.nd rfl (Or.inl rfl) (pe_cmethS (pe_glob rfl T.g_Pair rfl) T.cr_Pair T.cm_Pair_made (ok_Pair_made T) (hr.mono (by decide)) (fun z => nomatch z) T.e_Pair_made (fun σ => passAt tk σ) (pa_cons (zv 0) pa_nil)))))
  (fun a pn => (pss_one (ps_set (i := 2) sc_law_refused.nd rfl (Or.inl rfl) (zv 3)))))
  (pss_cons (ps_if (PW.pt (pw_or (pt_not (ptz_truth (pe_callB call_isV (by rfl) T.b_isinstance (by decide +kernel) (pa_cons (zv 2) (pa_cons (pe_glob rfl T.g_BadPair rfl) pa_nil))) (by intro _; rfl))) (pw_or1 (pt_not (ptz_truth (pe_callB call_isV (by rfl) T.b_isinstance (by decide +kernel) (pa_cons (zv 2) (pa_cons (pe_bltn (by rfl) T.b_ValueError (by decide +kernel) rfl) pa_nil))) (by intro _; rfl))))))
  (pss_one (ps_ret pe_bl))
  pss_nil)
  (pss_cons (ps_if (ptz_truth (pe_callB call_isVT (by rfl) T.b_isinstance (by decide +kernel) (pa_cons (zv 2) (pa_cons (pe_tup (pa_cons (pe_glob rfl T.g_BadKind rfl) (pa_cons (pe_glob rfl T.g_BadStep rfl) pa_nil))) pa_nil))) (by intro _; rfl))
  (pss_one (ps_ret pe_bl))
  pss_nil)
  (pss_one (ps_ret (pez_and (pe_cmpR (op_zEq hr.units) (pe_xv T.xv_BadPair T.a_BadPair_index (zv 2)) (zv 1) (nomark _)) (pez_and (pe_isi (kd := .int) (pe_xv T.xv_BadPair T.a_BadPair_index (zv 2)) (by rfl) T.b_isinstance (by decide +kernel) (by rfl) T.b_int (by decide +kernel)) (pe_one (pez_not (pe_isi (kd := .bool) (pe_xv T.xv_BadPair T.a_BadPair_index (zv 2)) (by rfl) T.b_isinstance (by decide +kernel) (by rfl) T.b_bool (by decide +kernel)))))))))))
def sp_law_refused (K : PySem.W.Frag) (g : Ads) : Sp := fun vs H Q E => ∃ (a : Addr) (xs : List V) (i : Nat), vs = [.ref a, .int (i : Nat)] ∧ SqL K H a xs ∧ xs.length ≤ 1000 ∧ FirstBad K H xs i ∧ ∀ H', Same H H' → Q (.bl true) H'
theorem pf_law_refused {K : PySem.W.Frag} {mg : Str → Option Value} {g : Ads} (T : Txt K mg g) (vs : List V) (H : Hp) (Q : VK) (E : XK) (h : sp_law_refused K g vs H Q E) : rw_law_refused K g vs H Q E := by
  obtain ⟨a, xs, i, rfl, hq, hl, fb, q⟩ := h
  refine ⟨rfl, rfl, a, xs, rfl, .inr hq, hl, .inr ⟨i, fb, fun H1 d s1 hd e => ⟨T.h_BadPair, fun x hx => ?_⟩⟩⟩
  have sx : Same H1 (upd H1 x (ExV (.ref g.c_BadPair) (some d) x)) := Same.put hx
  have ex : ExA (upd H1 x (ExV (.ref g.c_BadPair) (some d) x)) x g.c_BadPair [("index", .int (i : Nat))] := exa_put (K := K) hx e
  have s2 := s1.trans sx
  show R_law_refused_5 K g E { nx := fun _ H' => Q .non H', rt := Q } [some (.ref a), some (.int (i : Nat)), some (.ref x), none] (upd H1 x (ExV (.ref g.c_BadPair) (some d) x))
  generalize upd H1 x (ExV (.ref g.c_BadPair) (some d) x) = H2 at ex s2
  refine ⟨x, _, _, .ref _, _, true, rfl, ex, T.xv_BadPair, .own _, T.kx_BadPair_BadPair, zite (fun h => by cases h) fun _ => ⟨x, _, _, .ty _, _, true, rfl, ex, T.xv_BadPair, .ty _, T.kx_BadPair_ValueError, zite (fun h => by cases h) fun _ => ?_⟩⟩
  refine ⟨show 2 ≤ sizeLine by decide, fun tp ht => ?_⟩
  have st : Same H2 (upd H2 tp (.tup [.ref g.c_BadKind, .ref g.c_BadStep])) := Same.put ht
  have ex3 := ex.same st
  refine ⟨x, _, tp, _, _, _, false, rfl, upd_same, .cons (.own _) (.cons (.own _) .nil), ex3, T.xv_BadPair, kitAny_cons T.kx_BadPair_BadKind (fun _ => kitAny_cons T.kx_BadPair_BadStep (fun _ => kitAny_nil) (fun h => by cases h)) (fun h => by cases h), zite (fun h => by cases h) fun _ => ?_⟩
  exact ⟨x, _, .int (i : Nat), rfl, ex3, rfl, .inl ⟨rfl, zite (fun _ => ⟨x, _, .int (i : Nat), rfl, ex3, rfl, ⟨x, _, .int (i : Nat), rfl, ex3, rfl, q _ (s2.trans st)⟩⟩) (fun h => by simp at h)⟩⟩
theorem ok_law_refused {P : Program} {w : World} {K : PySem.W.Frag} {mg : Str → Option Value} {base : Heap} {g : Ads} (T : Txt K mg g) : FnZ P w K mg base 7 g.f_law_refused g.d_law_refused ["rows", "due"] (sp_law_refused K g) := (raw_law_refused T).imp (pf_law_refused T)
theorem sc_law_refused_three : FnScope ["rows", "due", "made", "e"] ["rows", "due"] (defScope s_law_refused_three) := ⟨rfl, rfl, rfl, by decide +kernel, rfl, by decide +kernel, by decide +kernel⟩
def R_law_refused_three_5 (K : PySem.W.Frag) (g : Ads) (E : XK) : TS :=
  (tRet (tOp (zEq K) (tCB (zRepr K) (tCons (zVar 2) tNil)) (tCB (zRepr K) (tCons (zVar 1) tNil))))
def R_law_refused_three (K : PySem.W.Frag) (g : Ads) (E : XK) : TS :=
  (tSeq (fun D σ H => (fun W => (tAsg (tMakeRS g.c_Pair (sp_Pair_init K g) (WE W) (tCons (tOp (zIx K) (zVar 0) (tC (.int 0))) (tCons (tOp (zIx K) (zVar 0) (tC (.int 1))) (tCons (tOp (zIx K) (zVar 0) (tC (.int 2))) tNil)))) (gName 2))) (wAsV K (.ref g.c_BadPair) 3 (tAsg (tXv g.c_BadPair "index" (zVar 3)) (gName 2)) D) D σ H)
  (R_law_refused_three_5 K g E))
def rw_law_refused_three (K : PySem.W.Frag) (g : Ads) : Sp := fun vs H Q E => vs.length = 2 ∧ R_law_refused_three K g E { nx := fun _ H' => Q .non H', rt := Q } (start ["rows", "due", "made", "e"] vs) H
theorem raw_law_refused_three {P : Program} {w : World} {K : PySem.W.Frag} {mg : Str → Option Value} {base : Heap} {g : Ads} (T : Txt K mg g) : FnG true P w K mg base 6 g.f_law_refused_three g.d_law_refused_three ["rows", "due"] (rw_law_refused_three K g) := by
  refine okZ T.f_law_refused_three sc_law_refused_three (fun vs H Q E h => h.1) (fun cdv A outer s H vs Q E hr hgu h => ⟨R_law_refused_three K g E, ?_, h.2⟩)
  exact (pss_cons (ps_try_asV (i := 3) (tb := fun W => (tAsg (tMakeRS g.c_Pair (sp_Pair_init K g) (WE W) (tCons (tOp (zIx K) (zVar 0) (tC (.int 0))) (tCons (tOp (zIx K) (zVar 0) (tC (.int 1))) (tCons (tOp (zIx K) (zVar 0) (tC (.int 2))) tNil)))) (gName 2))) (ts := (tAsg (tXv g.c_BadPair "index" (zVar 3)) (gName 2))) rfl rfl sc_law_refused_three.nd rfl rfl ⟨rfl, by decide, Or.inl T.g_BadPair⟩
  (fun W pn xe tk po => (pss_one (ps_set (i := 2) sc_law_refused_three.nd rfl (Or.inl rfl) (pe_makeRS T.m_Pair (ok_Pair_init T) (hr.mono (by decide)) rfl T.g_Pair (fun σ => passAt tk σ) (pa_cons (pe_ix ix_z (zv 0) pe_int (fun _ _ => rfl)) (pa_cons (pe_ix ix_z (zv 0) pe_int (fun _ _ => rfl)) (pa_cons (pe_ix ix_z (zv 0) pe_int (fun _ _ => rfl)) pa_nil)))))))
  (fun a pn => (pss_one (ps_set (i := 2) sc_law_refused_three.nd rfl (Or.inl rfl) (pe_xv T.xv_BadPair T.a_BadPair_index (zv 3))))))
  (pss_one (ps_ret (pe_cmpR (op_zEq hr.units) (pe_callB (call_reprZ (hgu rfl) hr.units) (by rfl) T.b_repr (by decide +kernel) (pa_cons (zv 2) pa_nil)) (pe_callB (call_reprZ (hgu rfl) hr.units) (by rfl) T.b_repr (by decide +kernel) (pa_cons (zv 1) pa_nil)) (nomark _)))))
def sp_law_refused_three (K : PySem.W.Frag) (g : Ads) : Sp := fun vs H Q E => ∃ (a : Addr) (x0 x1 x2 : V) (i : Nat), vs = [.ref a, .int (i : Nat)] ∧ SqL K H a [x0, x1, x2] ∧ FirstBad K H [x0, x1, x2] i ∧ i ≤ 2 ∧ ∀ H', Same H H' → Q (.bl true) H'
theorem pf_law_refused_three {K : PySem.W.Frag} {mg : Str → Option Value} {g : Ads} (T : Txt K mg g) (vs : List V) (H : Hp) (Q : VK) (E : XK) (h : sp_law_refused_three K g vs H Q E) : rw_law_refused_three K g vs H Q E := by
  obtain ⟨a, x0, x1, x2, i, rfl, hq, fb, hi, q⟩ := h
  refine ⟨rfl, _, x0, .inl hq, rfl, _, x1, .inl hq, rfl, _, x2, .inl hq, rfl, fun o dx ho hdx ne => ?_⟩
  have s1 : Same H (upd H dx (.own o)) := Same.put hdx
  have ho1 : (upd H dx (.own o)) o = none := by
    rw [upd_ne ne.symm]
    exact ho
  have s2 : Same (upd H dx (.own o)) (upd (upd H dx (.own o)) o (.ins g.c_Pair dx [])) := Same.put ho1
  have s3 := s1.trans s2
  refine ⟨o, dx, [x0, x1, x2], rfl, upd_same, (show 3 ≤ 1000 by decide), .inr ⟨i, fb.same s3, fun H1 d s4 hd e => ⟨T.h_BadPair, fun x hx => ?_⟩⟩⟩
  have sx : Same H1 (upd H1 x (ExV (.ref g.c_BadPair) (some d) x)) := Same.put hx
  have ex : ExA (upd H1 x (ExV (.ref g.c_BadPair) (some d) x)) x g.c_BadPair [("index", .int (i : Nat))] := exa_put (K := K) hx e
  refine ⟨x, _, .int (i : Nat), rfl, ex, rfl, ?_⟩
  have dp : DpR K (upd H1 x (ExV (.ref g.c_BadPair) (some d) x)) (.int (i : Nat)) (.int (i : Nat)) := .inl ⟨.int _, by simp [PyData.hasDict]⟩
  have sh : (PyData.int (i : Nat)).showable = true ∧ (PyData.int (i : Nat)).depth ≤ 32 ∧ (PyData.int (i : Nat)).shown.length ≤ sizeLine := by
    have : i = 0 ∨ i = 1 ∨ i = 2 := by omega
    rcases this with rfl | rfl | rfl <;> exact ⟨by decide +kernel, by decide +kernel, by decide +kernel⟩
  exact ⟨_, _, rfl, dp, sh.1, sh.2.1, sh.2.2, _, _, rfl, dp, sh.1, sh.2.1, sh.2.2, .inl ⟨rfl, by
    rw [decide_eq_true rfl]
    exact q _ ((s3.trans s4).trans sx)⟩⟩
theorem ok_law_refused_three {P : Program} {w : World} {K : PySem.W.Frag} {mg : Str → Option Value} {base : Heap} {g : Ads} (T : Txt K mg g) : FnZ P w K mg base 6 g.f_law_refused_three g.d_law_refused_three ["rows", "due"] (sp_law_refused_three K g) := (raw_law_refused_three T).imp (pf_law_refused_three T)
end Z
namespace Z
open PySem PySem.Spec PyProof.Rows L2
mutual
theorem Dp_same {K : PySem.W.Frag} {H H' : Hp} (s : Same H H') : ∀ (d : PyData) (v : V), Dp K H v d → Dp K H' v d
  | .none, _, h => by cases h; exact .non
  | .bool b, _, h => by cases h; exact .bl _
  | .int i, _, h => by cases h; exact .int _
  | .str x, _, h => by cases h; exact .str _
  | .list ds, _, h => by
    cases h with
    | lst a b => exact .lst (s.seq a) (Dp_sames s ds _ b)
  | .tuple ds, _, h => by
    cases h with
    | tup a b => exact .tup (Z.Same.tup s a) (Dp_sames s ds _ b)
  | .dict _, _, h => by cases h
theorem Dp_sames {K : PySem.W.Frag} {H H' : Hp} (s : Same H H') : ∀ (ds : List PyData) (vs : List V), DpAll K H vs ds → DpAll K H' vs ds
  | [], _, h => by cases h; exact .nil
  | d :: ds, _, h => by
    cases h with
    | cons a b => exact .cons (Dp_same s d _ a) (Dp_sames s ds _ b)
end
theorem DpR.same {K : PySem.W.Frag} {H H' : Hp} {v : V} {d : PyData} (h : DpR K H v d) (s : Same H H') : DpR K H' v d := by
  rcases h with ⟨h, e⟩ | ⟨a, kvs, kds, e1, e2, e3, e4⟩
  · exact .inl ⟨Dp_same s _ _ h, e⟩
  · exact .inr ⟨a, kvs, kds, e1, s _ _ e2, e3, e4⟩
theorem DpR2.same {K : PySem.W.Frag} {H H' : Hp} {v : V} {d : PyData} (h : DpR2 K H v d) (s : Same H H') : DpR2 K H' v d := by
  rcases h with h | ⟨a, b, u, du, e1, e2, e3, e4, e5⟩
  · exact .inl (h.same s)
  · exact .inr ⟨a, b, u, du, e1, Z.Same.tup s e2, s _ _ e3, e4, e5⟩
structure Fit (d : PyData) (n : Nat) : Prop where
  sh : d.showable = true
  hd : d.hasDict = false
  lv : d.leavesShort 22 = true
  wt : d.weight ≤ n
theorem prt_fit {p : Prt} (h : uOk p) : Fit p.d 68 ∧ p.d.depth = 0 := by
  cases p with
  | non => exact ⟨⟨rfl, rfl, rfl, by simp [Prt.d, PyData.weight]⟩, by simp [Prt.d, PyData.depth]⟩
  | int i =>
    obtain ⟨h1, h2⟩ := h.1 i rfl
    have la : i.natAbs < 10 ^ 20 := by omega
    have lg : i.natAbs.log2 < 67 := by
      by_cases h0 : i.natAbs = 0
      · rw [h0]
        decide
      · exact (Nat.log2_lt h0).mpr (show i.natAbs < 2 ^ 67 by omega)
    refine ⟨⟨?_, rfl, ?_, ?_⟩, by simp [Prt.d, PyData.depth]⟩
    · exact decide_eq_true (Nat.lt_trans lg (by decide))
    rotate_left
    · simp only [Prt.d, PyData.weight]
      split <;> omega
    · refine decide_eq_true ?_
      have := int_text_length_le10 (a := i) (k := 20) (by decide) la
      show (Str.ofString (toString i)).length ≤ 22
      rw [PySem.ofString_length]
      omega
  | str z =>
    obtain ⟨h1, h2⟩ := h.2 z rfl
    refine ⟨⟨rfl, rfl, ?_, ?_⟩, by simp [Prt.d, PyData.depth]⟩
    · simp only [Prt.d, PyData.leavesShort, List.all_eq_true, decide_eq_true_eq]
      exact fun c hc => Nat.lt_trans (h2 c hc) (by decide)
    · simp only [Prt.d, PyData.weight]
      exact Nat.le_trans h1 (by decide)
/-! ### what a thing in the list of odd things tells -/
structure FitX (d : PyData) : Prop where
  sh : d.showable = true
  lv : d.leavesShort 22 = true
  wt : d.weight ≤ 400
  dp : d.depth ≤ 4
def isBlV (v : V) : Bool := match v with
  | .bl _ => true
  | _ => false
inductive MkOk (K : PySem.W.Frag) (H : Hp) (ps : List Rw) : V → Bool → Prop where
  | non : MkOk K H ps .non false
  | bl (b : Bool) : MkOk K H ps (.bl b) false
  | int (i : Int) : MkOk K H ps (.int i) false
  | str (z : Str) : MkOk K H ps (.str z) false
  | ref {a : Addr} {t : Kd} (h : t ≠ .tuple) (k : KndR K H a t) : MkOk K H ps (.ref a) false
  | tup {a : Addr} {xs : List V} {d : PyData} {b : Bool} (h : SqT K H a xs) (e : Dp K H (.ref a) d) (s : SeqAt.shaped d = true) (k : ∀ x ∈ xs, Kd0 K H x) (l : xs.length ≤ 10) (m : ((ps.map rowD).any (fun z => PyData.eqv z d) && !(xs.any isBlV)) = b) : MkOk K H ps (.ref a) b
  | dic {a d : Addr} {v : V} {kvs : List (Key × V)} (h : SqT K H a [.ref d, v]) (e : H d = some (.dK kvs)) (f : tflat v) : MkOk K H ps (.ref a) false
theorem MkOk.same {K : PySem.W.Frag} {H H' : Hp} {ps : List Rw} {v : V} {b : Bool} (h : MkOk K H ps v b) (s : Same H H') : MkOk K H' ps v b := by
  cases h with
  | non => exact .non
  | bl b => exact .bl b
  | int i => exact .int i
  | str z => exact .str z
  | ref h k => exact .ref h (k.same s)
  | tup h e d k l m => exact .tup (Z.Same.tup s h) (Dp_same s _ _ e) d (fun x hx => (k x hx).same s) l m
  | dic h e f => exact .dic (Z.Same.tup s h) (s _ _ e) f
def Itm (K : PySem.W.Frag) (H : Hp) (ps : List Rw) (v : V) (b : Bool) : Prop := ∃ d, IsRow K H v b ∧ DpR2 K H v d ∧ FitX d ∧ MkOk K H ps v b
theorem Itm.same {K : PySem.W.Frag} {H H' : Hp} {ps : List Rw} {v : V} {b : Bool} (h : Itm K H ps v b) (s : Same H H') : Itm K H' ps v b := by
  obtain ⟨d, h1, h2, h3, h4⟩ := h
  exact ⟨d, h1.same s, h2.same s, h3, h4.same s⟩
def OddAt (K : PySem.W.Frag) (H : Hp) (v : V) : Prop := ∀ ps, Itm K H ps v false
theorem OddAt.same {K : PySem.W.Frag} {H H' : Hp} {v : V} (h : OddAt K H v) (s : Same H H') : OddAt K H' v := fun ps => (h ps).same s
/-! ### what is new since H -/
def nwr (H H' : Hp) : Hp := fun b => match H b with | none => H' b | some _ => none
theorem nwr_at {H H' : Hp} {a : Addr} {o : HO} (n : H a = none) (e : H' a = some o) : nwr H H' a = some o := by
  unfold nwr
  rw [n]
  exact e
theorem nwr_of {H H' : Hp} {a : Addr} {o : HO} (e : nwr H H' a = some o) : H a = none ∧ H' a = some o := by
  unfold nwr at e
  cases h : H a with
  | none =>
    rw [h] at e
    exact ⟨rfl, e⟩
  | some u =>
    rw [h] at e
    cases e
theorem nwr_same {H H1 H2 : Hp} (s : Same H1 H2) : Same (nwr H H1) (nwr H H2) := fun b o e => nwr_at (nwr_of e).1 (s _ _ (nwr_of e).2)
theorem nwr_but {H H1 H2 : Hp} {p : Addr} (n : H p ≠ none) (s : But p H1 H2) : Same (nwr H H1) (nwr H H2) := fun b o e => nwr_at (nwr_of e).1 (s _ _ (nwr_of e).2 fun z => n (z ▸ (nwr_of e).1))
theorem nstep {H Hk : Hp} {T p : Addr} {o : HO} (f : But p H Hk) (hb : BagAt Hk p) (h : Hk T = none) : But p H (upd Hk T o) ∧ BagAt (upd Hk T o) p ∧ Same (nwr H Hk) (nwr H (upd Hk T o)) ∧ nwr H (upd Hk T o) T = some o := by
  have s : Same Hk (upd Hk T o) := Same.put h
  have n : H T = none := by
    cases e : H T with
    | none => rfl
    | some u =>
      have := f _ _ e (hb.ne h)
      rw [this] at h
      cases h
  exact ⟨f.trans (But.same s), hb.same s, nwr_same s, nwr_at n upd_same⟩
/-! ### the odd things -/
theorem prt_seq (p : Prt) (xs : List PyData) : PyData.eqv p.d (.tuple xs) = false ∧ PyData.eqv p.d (.list xs) = false := by
  cases p <;> simp [Prt.d, PyData.eqv]
theorem no_any {d : PyData} (h : ∀ q : Rw, PyData.eqv (rowD q) d = false) (ps : List Rw) (b : Bool) : ((ps.map rowD).any (fun z => PyData.eqv z d) && b) = false := by
  have : (ps.map rowD).any (fun z => PyData.eqv z d) = false := by
    rw [List.any_eq_false]
    intro z hz
    obtain ⟨q, _, rfl⟩ := List.mem_map.mp hz
    rw [h q]
    simp
  rw [this]
  rfl
theorem odd_tup {K : PySem.W.Frag} {N : Hp} {a : Addr} {xs : List V} {ds : List PyData} (h : SqT K N a xs) (hd : DpAll K N xs ds) (nd : PyData.hasDictAll ds = false) (sh : SeqAt.shaped (.tuple ds) = true) (kd : ∀ x ∈ xs, Kd0 K N x) (rb : rowB xs = false)
    (mk : ∀ ps : List Rw, ((ps.map rowD).any (fun z => PyData.eqv z (.tuple ds)) && !(xs.any isBlV)) = false) (fit : FitX (.tuple ds)) (l : xs.length ≤ 10 := by simp) : OddAt K N (.ref a) := fun ps =>
  ⟨_, .tup h kd rb, .inl (.inl ⟨.tup h hd, by simpa [PyData.hasDict] using nd⟩), fit, .tup h (.tup h hd) sh kd l (mk ps)⟩
theorem odd_lst {K : PySem.W.Frag} {N : Hp} {a : Addr} {xs : List V} {ds : List PyData} (h : SqL K N a xs) (hd : DpAll K N xs ds) (nd : PyData.hasDictAll ds = false) (fit : FitX (.list ds)) : OddAt K N (.ref a) := fun ps =>
  ⟨_, .ref (t := .list) (by decide) ⟨_, h⟩, .inl (.inl ⟨.lst h hd, by simpa [PyData.hasDict] using nd⟩), fit, .ref (t := .list) (by decide) ⟨_, h⟩⟩
def oddDs (e : PyData) : List PyData := [.none, e, .str "ab", .str "", .tuple [], .tuple [e], .tuple [e, e, .none], .list [e, .none], .tuple [e, .bool true], .tuple [.bool false, .none], .tuple [e, .tuple []], .tuple [.tuple [e, e], .str "v0"],
  .tuple [.str "v0", .list [.str "v0"]], .dict [(.str "a", e)], .list [.tuple [e, e]], .tuple [.tuple [], .tuple []], .tuple [.dict [], e], .bool true]
theorem odd_fit {e : PyData} (f : Fit e 68) (hd : e.depth = 0) : ∀ d ∈ oddDs e, FitX d := by
  have h1 := f.sh
  have h2 := f.lv
  have h3 := f.wt
  intro d hm
  simp only [oddDs, List.mem_cons, List.not_mem_nil, or_false] at hm
  rcases hm with rfl | rfl | rfl | rfl | rfl | rfl | rfl | rfl | rfl | rfl | rfl | rfl | rfl | rfl | rfl | rfl | rfl | rfl
  case inr.inl => exact ⟨h1, h2, by omega, by omega⟩
  all_goals refine ⟨?_, ?_, ?_, ?_⟩
  all_goals first
    | decide +kernel
    | (simp [PyData.showable, PyData.showableAll, PyData.showableKv, h1]; done)
    | (simp [PyData.leavesShort, PyData.leavesShortAll, PyData.leavesShortKv, h2]; done)
    | (simp [PyData.leavesShort, PyData.leavesShortAll, PyData.leavesShortKv, h2]; decide +kernel)
    | (simp only [PyData.weight, PyData.weightAll, PyData.weightKv]; omega)
    | (simp only [PyData.weight, PyData.weightAll, PyData.weightKv]; have a1 : (Str.ofString "v0").cps.size = 2 := by decide +kernel
       have a2 : (Str.ofString "a").cps.size = 1 := by decide +kernel
       omega)
    | (simp [PyData.depth, PyData.depthAll, PyData.depthKv, hd]; done)
end Z
namespace Z
open PySem PySem.Spec PyProof.Rows L2
theorem sc_law_oddity : FnScope ["bag", "part", "odd"] ["bag"] (defScope s_law_oddity) := ⟨rfl, rfl, rfl, by decide +kernel, rfl, by decide +kernel, by decide +kernel⟩
def R_law_oddity_3 (K : PySem.W.Frag) (g : Ads) (E : XK) : TS :=
  (tRet (tOp (zIx K) (zVar 2) (zCall (sp_law_take K g) [] (WE (fun cls d _ H => E cls d H)) (tCons (zVar 0) (tCons (tCB (zLen K) (tCons (zVar 2) tNil)) tNil)))))
def R_law_oddity_2 (K : PySem.W.Frag) (g : Ads) (E : XK) : TS :=
  (tSeq (tAsg (tLst (tCons (tC .non) (tCons (zVar 1) (tCons (tC (.str "ab")) (tCons (tC (.str "")) (tCons (tTup tNil) (tCons (tTup (tCons (zVar 1) tNil)) (tCons (tTup (tCons (zVar 1) (tCons (zVar 1) (tCons (tC .non) tNil)))) (tCons (tLst (tCons (zVar 1) (tCons (tC .non) tNil))) (tCons (tTup (tCons (zVar 1) (tCons (tC (.bl true)) tNil))) (tCons (tTup (tCons (tC (.bl false)) (tCons (tC .non) tNil))) (tCons (tTup (tCons (zVar 1) (tCons (tTup tNil) tNil))) (tCons (tTup (tCons (tTup (tCons (zVar 1) (tCons (zVar 1) tNil))) (tCons (tC (.str "v0")) tNil))) (tCons (tTup (tCons (tC (.str "v0")) (tCons (tLst (tCons (tC (.str "v0")) tNil)) tNil))) (tCons (tDisp [((tC (.str "a")), (zVar 1))]) (tCons (tLst (tCons (tTup (tCons (zVar 1) (tCons (zVar 1) tNil))) tNil)) (tCons (tTup (tCons (tTup tNil) (tCons (tTup tNil) tNil))) (tCons (tTup (tCons tDNewK (tCons (zVar 1) tNil))) (tCons (tC (.bl true)) tNil))))))))))))))))))) (gName 2))
  (R_law_oddity_3 K g E))
def R_law_oddity (K : PySem.W.Frag) (g : Ads) (E : XK) : TS :=
  (tSeq (tAsg (zCall (sp_law_number K g) [] (WE (fun cls d _ H => E cls d H)) (tCons (zVar 0) tNil)) (gName 1))
  (R_law_oddity_2 K g E))
def rw_law_oddity (K : PySem.W.Frag) (g : Ads) : Sp := fun vs H Q E => vs.length = 1 ∧ R_law_oddity K g E { nx := fun _ H' => Q .non H', rt := Q } (start ["bag", "part", "odd"] vs) H
theorem raw_law_oddity {P : Program} {w : World} {K : PySem.W.Frag} {mg : Str → Option Value} {base : Heap} {g : Ads} (T : Txt K mg g) : FnG true P w K mg base 3 g.f_law_oddity g.d_law_oddity ["bag"] (rw_law_oddity K g) := by
  refine okZ T.f_law_oddity sc_law_oddity (fun vs H Q E h => h.1) (fun cdv A outer s H vs Q E hr hgu h => ⟨R_law_oddity K g E, ?_, h.2⟩)
  exact (pss_cons (ps_set (i := 1) sc_law_oddity.nd rfl (Or.inl rfl) (pe_callZ (ok_law_number T) (hr.mono (by decide)) hgu rfl T.g_law_number T.k_law_number T.e_law_number .nil (fun σ => passAt (takes_of rfl rfl rfl rfl) σ) (pa_cons (zv 0) pa_nil)))
  (pss_cons (ps_set (i := 2) sc_law_oddity.nd rfl (Or.inl rfl) (pe_lst (pa_cons pe_non (pa_cons (zv 1) (pa_cons pe_str (pa_cons pe_str (pa_cons (pe_tup pa_nil) (pa_cons (pe_tup (pa_cons (zv 1) pa_nil)) (pa_cons (pe_tup (pa_cons (zv 1) (pa_cons (zv 1) (pa_cons pe_non pa_nil)))) (pa_cons (pe_lst (pa_cons (zv 1) (pa_cons pe_non pa_nil))) (pa_cons (pe_tup (pa_cons (zv 1) (pa_cons pe_bl pa_nil))) (pa_cons (pe_tup (pa_cons pe_bl (pa_cons pe_non pa_nil))) (pa_cons (pe_tup (pa_cons (zv 1) (pa_cons (pe_tup pa_nil) pa_nil))) (pa_cons (pe_tup (pa_cons (pe_tup (pa_cons (zv 1) (pa_cons (zv 1) pa_nil))) (pa_cons pe_str pa_nil))) (pa_cons (pe_tup (pa_cons pe_str (pa_cons (pe_lst (pa_cons pe_str pa_nil)) pa_nil))) (pa_cons (pe_disp (pps_cons pe_str (zv 1) pps_nil) (by rfl) (by rfl) (fun z => by cases z) (by decide)) (pa_cons (pe_lst (pa_cons (pe_tup (pa_cons (zv 1) (pa_cons (zv 1) pa_nil))) pa_nil)) (pa_cons (pe_tup (pa_cons (pe_tup pa_nil) (pa_cons (pe_tup pa_nil) pa_nil))) (pa_cons (pe_tup (pa_cons pe_dnewK (pa_cons (zv 1) pa_nil))) (pa_cons pe_bl pa_nil))))))))))))))))))))
  (pss_one (ps_ret (pe_ix ix_z (zv 2) (pe_callZ (ok_law_take T) (hr.mono (by decide)) hgu rfl T.g_law_take T.k_law_take T.e_law_take .nil (fun σ => passAt (takes_of rfl rfl rfl rfl) σ) (pa_cons (zv 0) (pa_cons (pe_callB call_lenZ (by rfl) T.b_len (by decide +kernel) (pa_cons (zv 2) pa_nil)) pa_nil))) (fun _ _ => rfl))))))
theorem drawn_at {xs : List V} {r : Int} (h0 : 0 ≤ r) (h1 : r < (xs.length : Int)) : ∃ x, x ∈ xs ∧ atI xs r = some x := by
  obtain ⟨k, rfl⟩ : ∃ k : Nat, r = k := ⟨r.toNat, by omega⟩
  have hk : k < xs.length := by omega
  exact ⟨xs[k], List.getElem_mem hk, atI_nat (List.getElem?_eq_getElem hk)⟩
def sp_law_oddity (K : PySem.W.Frag) (g : Ads) : Sp := fun vs H Q E => ∃ (p : Addr), vs = [.ref p] ∧ BagAt H p ∧ ∀ v H', BagAt H' p → But p H H' → OddAt K (nwr H H') v → Q v H'
theorem odd_all {K : PySem.W.Frag} {N : Hp} {i : Int} {T5 T6 T7 T8 T9 T10 T11a T11 T12a T12 T13a T13 T14 T15a T15 T16a T16b T16 T17a T17 : Addr} (h1 : -100000000000000000000 < i) (h2 : i < 100000000000000000000)
    (e5 : N T5 = some (.tup [])) (e6 : N T6 = some (.tup [.int i])) (e7 : N T7 = some (.tup [.int i, .int i, .non])) (e8 : N T8 = some (.lst [.int i, .non])) (e9 : N T9 = some (.tup [.int i, .bl true])) (e10 : N T10 = some (.tup [.bl false, .non]))
    (e11a : N T11a = some (.tup [])) (e11 : N T11 = some (.tup [.int i, .ref T11a])) (e12a : N T12a = some (.tup [.int i, .int i])) (e12 : N T12 = some (.tup [.ref T12a, .str "v0"])) (e13a : N T13a = some (.lst [.str "v0"])) (e13 : N T13 = some (.tup [.str "v0", .ref T13a]))
    (e14 : N T14 = some (.dK [(.inr "a", .int i)])) (e15a : N T15a = some (.tup [.int i, .int i])) (e15 : N T15 = some (.lst [.ref T15a])) (e16a : N T16a = some (.tup [])) (e16b : N T16b = some (.tup [])) (e16 : N T16 = some (.tup [.ref T16a, .ref T16b]))
    (e17a : N T17a = some (.dK [])) (e17 : N T17 = some (.tup [.ref T17a, .int i])) :
    ∀ x ∈ [V.non, .int i, .str "ab", .str "", .ref T5, .ref T6, .ref T7, .ref T8, .ref T9, .ref T10, .ref T11, .ref T12, .ref T13, .ref T14, .ref T15, .ref T16, .ref T17, .bl true], OddAt K N x := by
  obtain ⟨f, fd⟩ := prt_fit (p := .int i) ⟨fun j e => by cases e; exact ⟨h1, h2⟩, fun z e => nomatch e⟩
  have ft := odd_fit f fd
  have fit : ∀ d, d ∈ oddDs (.int i) → FitX d := ft
  have so : PyData.strOk (Str.ofString "v0") = true := by decide +kernel
  intro x hx
  simp only [List.mem_cons, List.not_mem_nil, or_false] at hx
  rcases hx with rfl | rfl | rfl | rfl | rfl | rfl | rfl | rfl | rfl | rfl | rfl | rfl | rfl | rfl | rfl | rfl | rfl | rfl
  · exact fun ps => ⟨.none, .non, .inl (.inl ⟨.non, rfl⟩), fit _ (by simp [oddDs]), .non⟩
  · exact fun ps => ⟨.int i, .int i, .inl (.inl ⟨.int _, rfl⟩), fit _ (by simp [oddDs]), .int _⟩
  · exact fun ps => ⟨.str "ab", .str _, .inl (.inl ⟨.str _, rfl⟩), fit _ (by simp [oddDs]), .str _⟩
  · exact fun ps => ⟨.str "", .str _, .inl (.inl ⟨.str _, rfl⟩), fit _ (by simp [oddDs]), .str _⟩
  · exact odd_tup (ds := []) (SqT.of e5) .nil rfl (by decide +kernel) (fun x hx => absurd hx (by simp)) rfl (no_any (fun q => by simp [rowD, PyData.eqv, PyData.eqvAll]) · _) (fit _ (by simp [oddDs]))
  · exact odd_tup (ds := [.int i]) (SqT.of e6) (.cons (.int _) .nil) rfl (by simp [SeqAt.shaped, PyData.canLay0, PyData.canLayAll0, PyData.depth, PyData.depthAll]) (fun x hx => by simp at hx; subst hx; trivial) rfl
      (no_any (fun q => by simp [rowD, PyData.eqv, PyData.eqvAll]) · _) (fit _ (by simp [oddDs]))
  · exact odd_tup (ds := [.int i, .int i, .none]) (SqT.of e7) (.cons (.int _) (.cons (.int _) (.cons .non .nil))) rfl (by simp [SeqAt.shaped, PyData.canLay0, PyData.canLayAll0, PyData.depth, PyData.depthAll]) (fun x hx => by simp at hx; rcases hx with rfl | rfl <;> trivial) rfl
      (no_any (fun q => by simp [rowD, PyData.eqv, PyData.eqvAll]) · _) (fit _ (by simp [oddDs]))
  · exact odd_lst (ds := [.int i, .none]) (SqL.of e8) (.cons (.int _) (.cons .non .nil)) rfl (fit _ (by simp [oddDs]))
  · exact odd_tup (ds := [.int i, .bool true]) (SqT.of e9) (.cons (.int _) (.cons (.bl _) .nil)) rfl (by simp [SeqAt.shaped, PyData.canLay0, PyData.canLayAll0, PyData.depth, PyData.depthAll]) (fun x hx => by simp at hx; rcases hx with rfl | rfl <;> trivial)
      (by simp [rowB, isPartV, isIntV]) (fun ps => by simp [isBlV]) (fit _ (by simp [oddDs]))
  · exact odd_tup (ds := [.bool false, .none]) (SqT.of e10) (.cons (.bl _) (.cons .non .nil)) rfl (by simp [SeqAt.shaped, PyData.canLay0, PyData.canLayAll0, PyData.depth, PyData.depthAll]) (fun x hx => by simp at hx; rcases hx with rfl | rfl <;> trivial)
      (by simp [rowB, isPartV, isIntV]) (fun ps => by simp [isBlV]) (fit _ (by simp [oddDs]))
  · exact odd_tup (ds := [.int i, .tuple []]) (SqT.of e11) (.cons (.int _) (.cons (.tup (SqT.of e11a) .nil) .nil)) rfl (by simp [SeqAt.shaped, PyData.canLay0, PyData.canLayAll0, PyData.depth, PyData.depthAll])
      (fun x hx => by simp at hx; rcases hx with rfl | rfl; trivial; exact ⟨.tuple, _, SqT.of e11a⟩) (by simp [rowB, isPartV, isIntV]) (no_any (fun q => by simp [rowD, PyData.eqv, PyData.eqvAll, prt_seq]) · _) (fit _ (by simp [oddDs]))
  · exact odd_tup (ds := [.tuple [.int i, .int i], .str "v0"]) (SqT.of e12) (.cons (.tup (SqT.of e12a) (.cons (.int _) (.cons (.int _) .nil))) (.cons (.str _) .nil)) rfl (by simp [SeqAt.shaped, PyData.canLay0, PyData.canLayAll0, PyData.depth, PyData.depthAll, so])
      (fun x hx => by simp at hx; rcases hx with rfl | rfl; exact ⟨.tuple, _, SqT.of e12a⟩; trivial) (by simp [rowB, isPartV, isIntV]) (no_any (fun q => by simp [rowD, PyData.eqv, PyData.eqvAll, prt_seq]) · _) (fit _ (by simp [oddDs]))
  · exact odd_tup (ds := [.str "v0", .list [.str "v0"]]) (SqT.of e13) (.cons (.str _) (.cons (.lst (SqL.of e13a) (.cons (.str _) .nil)) .nil)) rfl (by simp [SeqAt.shaped, PyData.canLay0, PyData.canLayAll0, PyData.depth, PyData.depthAll, so])
      (fun x hx => by simp at hx; rcases hx with rfl | rfl; trivial; exact ⟨.list, _, SqL.of e13a⟩) (by simp [rowB, isPartV, isIntV]) (no_any (fun q => by simp [rowD, PyData.eqv, PyData.eqvAll, prt_seq]) · _) (fit _ (by simp [oddDs]))
  · exact fun ps => ⟨.dict [(.str "a", .int i)], .ref (t := .dict) (by decide) (.inl ⟨_, e14⟩), .inl (.inr ⟨_, _, _, rfl, e14, rfl, .cons ⟨rfl, rfl⟩ .nil⟩), fit _ (by simp [oddDs]), .ref (t := .dict) (by decide) (.inl ⟨_, e14⟩)⟩
  · exact odd_lst (ds := [.tuple [.int i, .int i]]) (SqL.of e15) (.cons (.tup (SqT.of e15a) (.cons (.int _) (.cons (.int _) .nil))) .nil) rfl (fit _ (by simp [oddDs]))
  · exact odd_tup (ds := [.tuple [], .tuple []]) (SqT.of e16) (.cons (.tup (SqT.of e16a) .nil) (.cons (.tup (SqT.of e16b) .nil) .nil)) rfl (by decide +kernel)
      (fun x hx => by simp at hx; rcases hx with rfl | rfl; exact ⟨.tuple, _, SqT.of e16a⟩; exact ⟨.tuple, _, SqT.of e16b⟩) (by simp [rowB, isPartV, isIntV]) (no_any (fun q => by simp [rowD, PyData.eqv, PyData.eqvAll, prt_seq]) · _) (fit _ (by simp [oddDs]))
  · exact fun ps => ⟨.tuple [.dict [], .int i], .tup (SqT.of e17) (fun x hx => by simp at hx; rcases hx with rfl | rfl; exact ⟨.dict, .inl ⟨_, e17a⟩⟩; trivial) (by simp [rowB, isPartV, isIntV]), .inr ⟨_, _, _, _, rfl, SqT.of e17, e17a, rfl, rfl⟩, fit _ (by simp [oddDs]), .dic (SqT.of e17) e17a (.inr (.inl ⟨_, rfl⟩))⟩
  · exact fun ps => ⟨.bool true, .bl true, .inl (.inl ⟨.bl _, rfl⟩), fit _ (by simp [oddDs]), .bl _⟩
theorem pf_law_oddity {K : PySem.W.Frag} {g : Ads} (vs : List V) (H : Hp) (Q : VK) (E : XK) (h : sp_law_oddity K g vs H Q E) : rw_law_oddity K g vs H Q E := by
  obtain ⟨p, rfl, hb, q⟩ := h
  have hpn : H p ≠ none := by
    obtain ⟨c, m, e⟩ := hb
    rw [e]
    simp
  refine ⟨rfl, p, rfl, hb, fun i H1 i0 i1 b1 f1 => ?_⟩
  refine ⟨show 0 ≤ sizeLine by decide, fun T5 h5 => ?_⟩
  obtain ⟨f5, b5, s5, e5⟩ := nstep (o := .tup []) f1 b1 h5
  generalize upd H1 T5 (.tup []) = H5 at f5 b5 s5 e5
  refine ⟨show 1 ≤ sizeLine by decide, fun T6 h6 => ?_⟩
  obtain ⟨f6, b6, s6, e6⟩ := nstep (o := .tup [.int i]) f5 b5 h6
  generalize upd H5 T6 (.tup [V.int i]) = H6 at f6 b6 s6 e6
  refine ⟨show 3 ≤ sizeLine by decide, fun T7 h7 => ?_⟩
  obtain ⟨f7, b7, s7, e7⟩ := nstep (o := .tup [.int i, .int i, .non]) f6 b6 h7
  generalize upd H6 T7 (.tup [V.int i, .int i, .non]) = H7 at f7 b7 s7 e7
  refine ⟨show 2 ≤ sizeLine by decide, fun T8 h8 => ?_⟩
  obtain ⟨f8, b8, s8, e8⟩ := nstep (o := .lst [.int i, .non]) f7 b7 h8
  generalize upd H7 T8 (.lst [V.int i, .non]) = H8 at f8 b8 s8 e8
  refine ⟨show 2 ≤ sizeLine by decide, fun T9 h9 => ?_⟩
  obtain ⟨f9, b9, s9, e9⟩ := nstep (o := .tup [.int i, .bl true]) f8 b8 h9
  generalize upd H8 T9 (.tup [V.int i, .bl true]) = H9 at f9 b9 s9 e9
  refine ⟨show 2 ≤ sizeLine by decide, fun T10 h10 => ?_⟩
  obtain ⟨f10, b10, s10, e10⟩ := nstep (o := .tup [.bl false, .non]) f9 b9 h10
  generalize upd H9 T10 (.tup [V.bl false, .non]) = H10 at f10 b10 s10 e10
  refine ⟨show 0 ≤ sizeLine by decide, fun T11a h11a => ?_⟩
  obtain ⟨f11, b11, s11, e11a⟩ := nstep (o := .tup []) f10 b10 h11a
  generalize upd H10 T11a (.tup []) = H11 at f11 b11 s11 e11a
  refine ⟨show 2 ≤ sizeLine by decide, fun T11 h11 => ?_⟩
  obtain ⟨f12, b12, s12, e11⟩ := nstep (o := .tup [.int i, .ref T11a]) f11 b11 h11
  generalize upd H11 T11 (.tup [V.int i, .ref T11a]) = H12 at f12 b12 s12 e11
  refine ⟨show 2 ≤ sizeLine by decide, fun T12a h12a => ?_⟩
  obtain ⟨f13, b13, s13, e12a⟩ := nstep (o := .tup [.int i, .int i]) f12 b12 h12a
  generalize upd H12 T12a (.tup [V.int i, .int i]) = H13 at f13 b13 s13 e12a
  refine ⟨show 2 ≤ sizeLine by decide, fun T12 h12 => ?_⟩
  obtain ⟨f14, b14, s14, e12⟩ := nstep (o := .tup [.ref T12a, .str "v0"]) f13 b13 h12
  generalize upd H13 T12 (.tup [V.ref T12a, .str "v0"]) = H14 at f14 b14 s14 e12
  refine ⟨show 1 ≤ sizeLine by decide, fun T13a h13a => ?_⟩
  obtain ⟨f15, b15, s15, e13a⟩ := nstep (o := .lst [.str "v0"]) f14 b14 h13a
  generalize upd H14 T13a (.lst [V.str "v0"]) = H15 at f15 b15 s15 e13a
  refine ⟨show 2 ≤ sizeLine by decide, fun T13 h13 => ?_⟩
  obtain ⟨f16, b16, s16, e13⟩ := nstep (o := .tup [.str "v0", .ref T13a]) f15 b15 h13
  generalize upd H15 T13 (.tup [V.str "v0", .ref T13a]) = H16 at f16 b16 s16 e13
  refine fun T14 h14 => ⟨upd_same, [(.inr "a", .int i)], rfl, (show 1 ≤ 15 by decide), ?_⟩
  rw [upd_upd]
  obtain ⟨f17, b17, s17, e14⟩ := nstep (o := .dK [(.inr "a", .int i)]) f16 b16 h14
  have em : mergeK [] [((.inr "a" : Key), V.int i)] = [(.inr "a", .int i)] := rfl
  rw [em]
  generalize upd H16 T14 (.dK [(.inr "a", V.int i)]) = H17 at f17 b17 s17 e14
  refine ⟨show 2 ≤ sizeLine by decide, fun T15a h15a => ?_⟩
  obtain ⟨f18, b18, s18, e15a⟩ := nstep (o := .tup [.int i, .int i]) f17 b17 h15a
  generalize upd H17 T15a (.tup [V.int i, .int i]) = H18 at f18 b18 s18 e15a
  refine ⟨show 1 ≤ sizeLine by decide, fun T15 h15 => ?_⟩
  obtain ⟨f19, b19, s19, e15⟩ := nstep (o := .lst [.ref T15a]) f18 b18 h15
  generalize upd H18 T15 (.lst [V.ref T15a]) = H19 at f19 b19 s19 e15
  refine ⟨show 0 ≤ sizeLine by decide, fun T16a h16a => ?_⟩
  obtain ⟨f20, b20, s20, e16a⟩ := nstep (o := .tup []) f19 b19 h16a
  generalize upd H19 T16a (.tup []) = H20 at f20 b20 s20 e16a
  refine ⟨show 0 ≤ sizeLine by decide, fun T16b h16b => ?_⟩
  obtain ⟨f21, b21, s21, e16b⟩ := nstep (o := .tup []) f20 b20 h16b
  generalize upd H20 T16b (.tup []) = H21 at f21 b21 s21 e16b
  refine ⟨show 2 ≤ sizeLine by decide, fun T16 h16 => ?_⟩
  obtain ⟨f22, b22, s22, e16⟩ := nstep (o := .tup [.ref T16a, .ref T16b]) f21 b21 h16
  generalize upd H21 T16 (.tup [V.ref T16a, .ref T16b]) = H22 at f22 b22 s22 e16
  refine fun T17a h17a => ?_
  obtain ⟨f23, b23, s23, e17a⟩ := nstep (o := .dK []) f22 b22 h17a
  generalize upd H22 T17a (.dK []) = H23 at f23 b23 s23 e17a
  refine ⟨show 2 ≤ sizeLine by decide, fun T17 h17 => ?_⟩
  obtain ⟨f24, b24, s24, e17⟩ := nstep (o := .tup [.ref T17a, .int i]) f23 b23 h17
  generalize upd H23 T17 (.tup [V.ref T17a, .int i]) = H24 at f24 b24 s24 e17
  refine ⟨show 18 ≤ sizeLine by decide, fun O hO => ?_⟩
  obtain ⟨f25, b25, s25, eO⟩ := nstep (o := .lst [V.non, .int i, .str "ab", .str "", .ref T5, .ref T6, .ref T7, .ref T8, .ref T9, .ref T10, .ref T11, .ref T12, .ref T13, .ref T14, .ref T15, .ref T16, .ref T17, .bl true]) f24 b24 hO
  have eO2 := (nwr_of eO).2
  have nO : O ≠ p := b24.ne hO
  generalize upd H24 O (.lst [V.non, .int i, .str "ab", .str "", .ref T5, .ref T6, .ref T7, .ref T8, .ref T9, .ref T10, .ref T11, .ref T12, .ref T13, .ref T14, .ref T15, .ref T16, .ref T17, .bl true]) = H25 at f25 b25 s25 eO2
  refine ⟨_, .inl (SqL.of eO2), p, 18, rfl, b25, by decide, by decide, fun r H26 r0 r1 b26 f26 => ?_⟩
  obtain ⟨x, hx, hat⟩ := drawn_at (xs := [V.non, .int i, .str "ab", .str "", .ref T5, .ref T6, .ref T7, .ref T8, .ref T9, .ref T10, .ref T11, .ref T12, .ref T13, .ref T14, .ref T15, .ref T16, .ref T17, .bl true]) r0 r1
  refine ⟨_, x, .inl (SqL.of (f26 _ _ eO2 nO)), hat, q x H26 b26 (f25.trans f26) ?_⟩
  have z26 := nwr_but (H := H) hpn f26
  have z25 := s25.trans z26
  have z24 := s24.trans z25
  have z23 := s23.trans z24
  have z22 := s22.trans z23
  have z21 := s21.trans z22
  have z20 := s20.trans z21
  have z19 := s19.trans z20
  have z18 := s18.trans z19
  have z17 := s17.trans z18
  have z16 := s16.trans z17
  have z15 := s15.trans z16
  have z14 := s14.trans z15
  have z13 := s13.trans z14
  have z12 := s12.trans z13
  have z11 := s11.trans z12
  have z10 := s10.trans z11
  have z9 := s9.trans z10
  have z8 := s8.trans z9
  have z7 := s7.trans z8
  have z6 := s6.trans z7
  exact odd_all i0 i1 (z6 _ _ e5) (z7 _ _ e6) (z8 _ _ e7) (z9 _ _ e8) (z10 _ _ e9) (z11 _ _ e10) (z12 _ _ e11a) (z13 _ _ e11) (z14 _ _ e12a) (z15 _ _ e12) (z16 _ _ e13a) (z17 _ _ e13) (z18 _ _ e14) (z19 _ _ e15a) (z20 _ _ e15) (z21 _ _ e16a) (z22 _ _ e16b) (z23 _ _ e16) (z24 _ _ e17a) (z25 _ _ e17) x hx
theorem ok_law_oddity {P : Program} {w : World} {K : PySem.W.Frag} {mg : Str → Option Value} {base : Heap} {g : Ads} (T : Txt K mg g) : FnZ P w K mg base 3 g.f_law_oddity g.d_law_oddity ["bag"] (sp_law_oddity K g) := (raw_law_oddity T).imp pf_law_oddity
end Z
namespace Z
open PySem PySem.Spec PyProof.Rows L2
theorem sc_law : FnScope ["script", "at", "bag", "rows", "odd", "turn", "right", "marks", "k", "kept", "three", "place", "row", "part"] ["script"] (defScope s_law) := ⟨rfl, rfl, rfl, by decide +kernel, rfl, by decide +kernel, by decide +kernel⟩
def R_law_6 (K : PySem.W.Frag) (g : Ads) (E : XK) : TS :=
  (tDrop (tBM K "list" rInsZ (zVar 4) (tCons (zCall (sp_law_take K g) [] (WE (fun cls d _ H => E cls d H)) (tCons (zVar 2) (tCons (tOp zAdd (tCB (zLen K) (tCons (zVar 4) tNil)) (tC (.int 1))) tNil))) (tCons (zCall (sp_law_oddity K g) [] (WE (fun cls d _ H => E cls d H)) (tCons (zVar 2) tNil)) tNil))))
def R_law_10 (K : PySem.W.Frag) (g : Ads) (E : XK) : TS :=
  (tDrop (tBM K "list" rAppend (zVar 7) (tCons (zAndV (tOp (zIx K) (zVar 6) (zVar 8)) (zNotV (tCB (rAny K) (tCons (zLc (iTup K (tOp (zIx K) (zVar 4) (zVar 8))) (gName 13) tYes (zIsiT K .bool (zVar 13)) [13]) tNil)))) tNil)))
def R_law_19 (K : PySem.W.Frag) (g : Ads) (E : XK) : TS :=
  (tIfS (zTest (tOp (zNe K) (tCB (zLen K) (tCons (tFld K (ClX.tCMeth g.c_Pair (sp_Pair_made K g) (fun _ _ _ => False) (tC (.ref g.c_Pair)) (tCons (zVar 3) tNil)) "rows") tNil)) (tCB (zLen K) (tCons (zVar 3) tNil))))
  (tRet (tC (.bl false)))
  tNext)
def R_law_17 (K : PySem.W.Frag) (g : Ads) (E : XK) : TS :=
  (tSeq (tIfS (tNot (zTru K (zCall (sp_law_refused_three K g) [] (WE (fun cls d _ H => E cls d H)) (tCons (zVar 10) (tCons (zVar 11) tNil)))))
  (tRet (tC (.bl false)))
  tNext)
  (R_law_19 K g E))
def R_law_16 (K : PySem.W.Frag) (g : Ads) (E : XK) : TS :=
  (tSeq (tAsg (zCall (sp_law_oddity K g) [] (WE (fun cls d _ H => E cls d H)) (tCons (zVar 2) tNil)) (gSub (zVar 10) (zVar 11) rSetL))
  (R_law_17 K g E))
def R_law_15 (K : PySem.W.Frag) (g : Ads) (E : XK) : TS :=
  (tSeq (tAsg (zCall (sp_law_take K g) [] (WE (fun cls d _ H => E cls d H)) (tCons (zVar 2) (tCons (tC (.int 3)) tNil))) (gName 11))
  (R_law_16 K g E))
def R_law_14 (K : PySem.W.Frag) (g : Ads) (E : XK) : TS :=
  (tSeq (tAsg (tLst (tCons (tTup (tCons (tC .non) (tCons (tC .non) tNil))) (tCons (tTup (tCons (tC (.str "v0")) (tCons (tC (.int 3)) tNil))) (tCons (tTup (tCons (tC (.int 4)) (tCons (tC (.str "v0")) tNil))) tNil)))) (gName 10))
  (R_law_15 K g E))
def R_law_12 (K : PySem.W.Frag) (g : Ads) (E : XK) : TS :=
  (tSeq (tIfS (tOr (tNot (zTru K (zCall (sp_law_refused K g) [] (WE (fun cls d _ H => E cls d H)) (tCons (zVar 4) (tCons (tBM K "list" (rIndex K) (zVar 7) (tCons (tC (.bl false)) tNil)) tNil))))) (zTest (tOp (zNe K) (tCB (rReprL K) (tCons (zVar 4) tNil)) (zVar 9))))
  (tRet (tC (.bl false)))
  tNext)
  (R_law_14 K g E))
def R_law_11 (K : PySem.W.Frag) (g : Ads) (E : XK) : TS :=
  (tSeq (tAsg (tCB (rReprL K) (tCons (zVar 4) tNil)) (gName 9))
  (R_law_12 K g E))
def R_law_9 (K : PySem.W.Frag) (g : Ads) (E : XK) : TS :=
  (tSeq (zFor (iRng1 (tCons (tCB (zLen K) (tCons (zVar 4) tNil)) tNil)) (gName 8)
  (R_law_10 K g E))
  (R_law_11 K g E))
def R_law_8 (K : PySem.W.Frag) (g : Ads) (E : XK) : TS :=
  (tSeq (tAsg (tLst tNil) (gName 7))
  (R_law_9 K g E))
def R_law_7 (K : PySem.W.Frag) (g : Ads) (E : XK) : TS :=
  (tSeq (tAsg (zLc (iList K (zVar 4)) (gName 12) tYes (zAndV (zIsiT K .tuple (zVar 12)) (tOp (zInD K) (zVar 12) (zVar 3))) [12]) (gName 6))
  (R_law_8 K g E))
def R_law_5 (K : PySem.W.Frag) (g : Ads) (E : XK) : TS :=
  (tSeq (zFor (iRng1 (tCons (tOp zAdd (tC (.int 1)) (zCall (sp_law_take K g) [] (WE (fun cls d _ H => E cls d H)) (tCons (zVar 2) (tCons (tC (.int 3)) tNil)))) tNil)) (gName 5)
  (R_law_6 K g E))
  (R_law_7 K g E))
def R_law_4 (K : PySem.W.Frag) (g : Ads) (E : XK) : TS :=
  (tSeq (tAsg (tCB (rListOf K) (tCons (zVar 3) tNil)) (gName 4))
  (R_law_5 K g E))
def R_law_3 (K : PySem.W.Frag) (g : Ads) (E : XK) : TS :=
  (tSeq (tAsg (zCall (sp_law_drawn K g) [] (WE (fun cls d _ H => E cls d H)) (tCons (zVar 2) (tCons (zCall (sp_law_take K g) [] (WE (fun cls d _ H => E cls d H)) (tCons (zVar 2) (tCons (tC (.int 10)) tNil))) tNil))) (gName 3))
  (R_law_4 K g E))
def R_law_2 (K : PySem.W.Frag) (g : Ads) (E : XK) : TS :=
  (tSeq (tAsg (zCall (sp_law_digits K g) [] (WE (fun cls d _ H => E cls d H)) (tCons (zVar 0) (tCons (zVar 1) tNil))) (gName 2))
  (R_law_3 K g E))
def R_law (K : PySem.W.Frag) (g : Ads) (E : XK) : TS :=
  (tSeq (zFor (iRng1 (tCons (tCB rMx2 (tCons (tC (.int 1)) (tCons (tCB rMn2 (tCons (tC (.int 5)) (tCons (tCB (zLen K) (tCons (zVar 0) tNil)) tNil))) tNil))) tNil)) (gName 1)
  (R_law_2 K g E))
  (tRet (tC (.bl true))))
def rw_law (K : PySem.W.Frag) (g : Ads) : Sp := fun vs H Q E => vs.length = 1 ∧ R_law K g E { nx := fun _ H' => Q .non H', rt := Q } (start ["script", "at", "bag", "rows", "odd", "turn", "right", "marks", "k", "kept", "three", "place", "row", "part"] vs) H
theorem raw_law {P : Program} {w : World} {K : PySem.W.Frag} {mg : Str → Option Value} {base : Heap} {g : Ads} (T : Txt K mg g) : FnG true P w K mg base 8 g.f_law g.d_law ["script"] (rw_law K g) := by
  refine okZ T.f_law sc_law (fun vs H Q E h => h.1) (fun cdv A outer s H vs Q E hr hgu h => ⟨R_law K g E, ?_, h.2⟩)
  exact (pss_cons (psz_for PassesOwn.leaving rfl (pi_range1 rfl T.b_range (pa_cons (pe_callB (call_mx2 rfl) (by rfl) T.b_max (by decide +kernel) (pa_cons pe_int (pa_cons (pe_callB (call_mn2 rfl) (by rfl) T.b_min (by decide +kernel) (pa_cons pe_int (pa_cons (pe_callB call_lenZ (by rfl) T.b_len (by decide +kernel) (pa_cons (zv 0) pa_nil)) pa_nil))) pa_nil))) pa_nil)) (pg_name (i := 1) sc_law.nd rfl (Or.inl rfl))
  (pss_cons (ps_set (i := 2) sc_law.nd rfl (Or.inl rfl) (pe_callZ (ok_law_digits T) (hr.mono (by decide)) hgu rfl T.g_law_digits T.k_law_digits T.e_law_digits .nil (fun σ => passAt (takes_of rfl rfl rfl rfl) σ) (pa_cons (zv 0) (pa_cons (zv 1) pa_nil))))
  (pss_cons (ps_set (i := 3) sc_law.nd rfl (Or.inr rfl) (pe_callZ (ok_law_drawn T) (hr.mono (by decide)) hgu rfl T.g_law_drawn T.k_law_drawn T.e_law_drawn .nil (fun σ => passAt (takes_of rfl rfl rfl rfl) σ) (pa_cons (zv 2) (pa_cons (pe_callZ (ok_law_take T) (hr.mono (by decide)) hgu rfl T.g_law_take T.k_law_take T.e_law_take .nil (fun σ => passAt (takes_of rfl rfl rfl rfl) σ) (pa_cons (zv 2) (pa_cons pe_int pa_nil))) pa_nil))))
  (pss_cons (ps_set (i := 4) sc_law.nd rfl (Or.inl rfl) (pe_callTy call_listZ (by rfl) T.b_list (by decide +kernel) (pa_cons (zv 3) pa_nil)))
  (pss_cons (psz_for PassesOwn.leaving rfl (pi_range1 rfl T.b_range (pa_cons (pe_op op_zAdd pe_int (pe_callZ (ok_law_take T) (hr.mono (by decide)) hgu rfl T.g_law_take T.k_law_take T.e_law_take .nil (fun σ => passAt (takes_of rfl rfl rfl rfl) σ) (pa_cons (zv 2) (pa_cons pe_int pa_nil)))) pa_nil)) (pg_name (i := 5) sc_law.nd rfl (Or.inl rfl))
  (pss_one (ps_expr (pe_bm PySem.F.plainAttrs_list PySem.F.slot_list_insert PySem.F.type_list_insert mt_insZ (zv 4) (pa_cons (pe_callZ (ok_law_take T) (hr.mono (by decide)) hgu rfl T.g_law_take T.k_law_take T.e_law_take .nil (fun σ => passAt (takes_of rfl rfl rfl rfl) σ) (pa_cons (zv 2) (pa_cons (pe_op op_zAdd (pe_callB call_lenZ (by rfl) T.b_len (by decide +kernel) (pa_cons (zv 4) pa_nil)) pe_int) pa_nil))) (pa_cons (pe_callZ (ok_law_oddity T) (hr.mono (by decide)) hgu rfl T.g_law_oddity T.k_law_oddity T.e_law_oddity .nil (fun σ => passAt (takes_of rfl rfl rfl rfl) σ) (pa_cons (zv 2) pa_nil)) pa_nil))))))
  (pss_cons (psz_setLc (i := 6) (own := [("row", 12)]) rfl sc_law.nd rfl rfl (sw_true rfl rfl rfl (by decide +kernel)) (pi_list (zv 4)) (blkOk_by (own := [("row", 12)]) (N := ["script", "at", "bag", "rows", "odd", "turn", "right", "marks", "k", "kept", "three", "place", "row", "part"]) (sc := defScope s_law) (by decide +kernel)) (fun _ _ _ _ _ => pg_name (i := 12) sc_law.nd rfl (Or.inl rfl)) (fun _ _ _ _ _ => pts_nil) (fun _ _ _ _ _ => (pez_and (pe_isi (kd := .tuple) (zv 12) (by rfl) T.b_isinstance (by decide +kernel) (by rfl) T.b_tuple (by decide +kernel)) (pe_one (pe_cmpR (op_zInD (room65 hr)) (zv 12) (zv 3) (by rfl))))))
  (pss_cons (ps_set (i := 7) sc_law.nd rfl (Or.inl rfl) (pe_lst pa_nil))
  (pss_cons (psz_for PassesOwn.leaving rfl (pi_range1 rfl T.b_range (pa_cons (pe_callB call_lenZ (by rfl) T.b_len (by decide +kernel) (pa_cons (zv 4) pa_nil)) pa_nil)) (pg_name (i := 8) sc_law.nd rfl (Or.inl rfl))
  (pss_one (ps_expr (pe_bm PySem.F.plainAttrs_list PySem.F.slot_list_append PySem.F.type_list_append mt_append (zv 7) (pa_cons (pez_and (pe_ix ix_z (zv 6) (zv 8) (fun _ _ => rfl)) (pe_one (pez_not (pe_callB (cr_any rfl) (by rfl) T.b_any (by decide +kernel) (pa_cons (pez_lc (own := [("part", 13)]) rfl sc_law.nd (pi_tup (pe_ix ix_z (zv 4) (zv 8) (fun _ _ => rfl))) (blkOk_by (own := [("part", 13)]) (N := ["script", "at", "bag", "rows", "odd", "turn", "right", "marks", "k", "kept", "three", "place", "row", "part"]) (sc := defScope s_law) (by decide +kernel)) (fun _ _ _ _ _ => pg_name (i := 13) sc_law.nd rfl (Or.inl rfl)) (fun _ _ _ _ _ => pts_nil) (fun _ _ _ _ _ => (pe_isi (kd := .bool) (zv 13) (by rfl) T.b_isinstance (by decide +kernel) (by rfl) T.b_bool (by decide +kernel)))) pa_nil))))) pa_nil)))))
  (pss_cons (ps_set (i := 9) sc_law.nd rfl (Or.inl rfl) (pe_callB (call_reprL (hgu rfl) hr.units) (by rfl) T.b_repr (by decide +kernel) (pa_cons (zv 4) pa_nil)))
  (pss_cons (ps_if (PW.pt (pw_or (pt_not (ptz_truth (pe_callZ (ok_law_refused T) (hr.mono (by decide)) hgu rfl T.g_law_refused T.k_law_refused T.e_law_refused .nil (fun σ => passAt (takes_of rfl rfl rfl rfl) σ) (pa_cons (zv 4) (pa_cons (pe_bm PySem.F.plainAttrs_list PySem.F.slot_list_index PySem.F.type_list_index mt_index (zv 7) (pa_cons pe_bl pa_nil)) pa_nil))) (by intro _; rfl))) (pw_or1 (ptz_cmp (op_zNe hr.units) (pe_callB (call_reprL (hgu rfl) hr.units) (by rfl) T.b_repr (by decide +kernel) (pa_cons (zv 4) pa_nil)) (zv 9) (nomark _)))))
  (pss_one (ps_ret pe_bl))
  pss_nil)
  (pss_cons (ps_set (i := 10) sc_law.nd rfl (Or.inl rfl) (pe_lst (pa_cons (pe_tup (pa_cons pe_non (pa_cons pe_non pa_nil))) (pa_cons (pe_tup (pa_cons pe_str (pa_cons pe_int pa_nil))) (pa_cons (pe_tup (pa_cons pe_int (pa_cons pe_str pa_nil))) pa_nil)))))
  (pss_cons (ps_set (i := 11) sc_law.nd rfl (Or.inl rfl) (pe_callZ (ok_law_take T) (hr.mono (by decide)) hgu rfl T.g_law_take T.k_law_take T.e_law_take .nil (fun σ => passAt (takes_of rfl rfl rfl rfl) σ) (pa_cons (zv 2) (pa_cons pe_int pa_nil))))
  (pss_cons (ps_asg (pe_callZ (ok_law_oddity T) (hr.mono (by decide)) hgu rfl T.g_law_oddity T.k_law_oddity T.e_law_oddity .nil (fun σ => passAt (takes_of rfl rfl rfl rfl) σ) (pa_cons (zv 2) pa_nil)) (pg_sub (zv 10) (zv 11) set_list))
  (pss_cons (ps_if (pt_not (ptz_truth (pe_callZ (ok_law_refused_three T) (hr.mono (by decide)) hgu rfl T.g_law_refused_three T.k_law_refused_three T.e_law_refused_three .nil (fun σ => passAt (takes_of rfl rfl rfl rfl) σ) (pa_cons (zv 10) (pa_cons (zv 11) pa_nil))) (by intro _; rfl)))
  (pss_one (ps_ret pe_bl))
  pss_nil)
  (pss_one (ps_if (ptz_cmp (op_zNe hr.units) (pe_callB call_lenZ (by rfl) T.b_len (by decide +kernel) (pa_cons (pe_fld (ClX.pe_cmeth (pe_glob rfl T.g_Pair rfl) T.cr_Pair T.cm_Pair_made ((ok_Pair_made T).raw T.e_Pair_made) (hr.mono (by decide)) passN (pa_cons (zv 3) pa_nil)) rfl) pa_nil)) (pe_callB call_lenZ (by rfl) T.b_len (by decide +kernel) (pa_cons (zv 3) pa_nil)) (nomark _))
  (pss_one (ps_ret pe_bl))
  pss_nil))))))))))))))))
  (pss_one (ps_ret pe_bl)))
theorem paired_app {α β : Type} {F : α → β → Prop} : ∀ {xs xs' : List α} {ys ys' : List β}, Paired F xs ys → Paired F xs' ys' → Paired F (xs ++ xs') (ys ++ ys')
  | _, _, _, _, .nil, h => h
  | _, _, _, _, .cons a r, h => .cons a (paired_app r h)
theorem paired_drop {α β : Type} {F : α → β → Prop} : ∀ (n : Nat) {xs : List α} {ys : List β}, Paired F xs ys → Paired F (xs.drop n) (ys.drop n)
  | 0, _, _, h => h
  | n + 1, _, _, .nil => .nil
  | n + 1, _, _, .cons _ r => paired_drop n r
theorem paired_take {α β : Type} {F : α → β → Prop} : ∀ (n : Nat) {xs : List α} {ys : List β}, Paired F xs ys → Paired F (xs.take n) (ys.take n)
  | 0, _, _, _ => .nil
  | n + 1, _, _, .nil => .nil
  | n + 1, _, _, .cons a r => .cons a (paired_take n r)
/-! ### what is not changed -/
def hid (S : List Addr) (H : Hp) : Hp := fun b => if b ∈ S then none else H b
theorem hid_of {S : List Addr} {H : Hp} {b : Addr} {o : HO} (e : hid S H b = some o) : b ∉ S ∧ H b = some o := by
  unfold hid at e
  by_cases h : b ∈ S
  · rw [if_pos h] at e
    cases e
  · rw [if_neg h] at e
    exact ⟨h, e⟩
theorem hid_at {S : List Addr} {H : Hp} {b : Addr} {o : HO} (h : b ∉ S) (e : H b = some o) : hid S H b = some o := by
  unfold hid
  rw [if_neg h]
  exact e
theorem hid_same {S : List Addr} {H H' : Hp} (k : ∀ b o, H b = some o → b ∉ S → H' b = some o) : Same (hid S H) (hid S H') := fun b o e => hid_at (hid_of e).1 (k _ _ (hid_of e).2 (hid_of e).1)
theorem hid_sub {S : List Addr} {H : Hp} : Same (hid S H) H := fun b o e => (hid_of e).2
theorem nwr_hid {S : List Addr} {H H' : Hp} (h : ∀ s ∈ S, H s ≠ none) : Same (nwr H H') (hid S H') := fun b o e => hid_at (fun z => h _ z (nwr_of e).1) (nwr_of e).2
theorem rowAt_hid {K : PySem.W.Frag} {S : List Addr} {H : Hp} (hS : ∀ s ∈ S, ∃ l, H s = some (.lst l)) {x : V} {p : Rw} (h : RowAt K H x p) : RowAt K (hid S H) x p := by
  obtain ⟨r, rfl, q⟩ := h
  have nr : ∀ {o : HO}, H r = some o → (∀ l, o ≠ .lst l) → r ∉ S := fun e n hr => by
    obtain ⟨l, e2⟩ := hS r hr
    rw [e2] at e
    cases e
    exact n _ rfl
  refine ⟨r, rfl, ?_⟩
  rcases q with (q | ⟨o, q⟩) | q
  · exact .inl (.inl (hid_at (nr q fun l z => nomatch z) q))
  · exact .inl (.inr ⟨o, hid_at (nr q fun l z => nomatch z) q⟩)
  · exact .inr q
theorem wTxt_ok {z : Str} (h : wTxt z) : PyData.strOk z = true := by
  unfold PyData.strOk
  rw [Array.all_eq_true']
  intro c hc
  have := h.2 c (by simpa using hc)
  simpa using this
theorem rok_prt {q : Rw} (h : rOk q) : PrtOk q.1 ∧ PrtOk q.2 := ⟨fun z e => wTxt_ok (h.1.2 z e), fun z e => wTxt_ok (h.2.2 z e)⟩
theorem rows_list_shaped {ps : List Rw} (h : ∀ q ∈ ps, rOk q) : SeqAt.shaped (.list (ps.map rowD)) = true := by
  obtain ⟨h1, h2⟩ := rows_lay ps fun q hq => rok_prt (h q hq)
  simp only [SeqAt.shaped, PyData.canLay0, PyData.depth, h1, Bool.true_and]
  exact decide_eq_true (by omega)
theorem rowD_shaped {p : Rw} (h : rOk p) : SeqAt.shaped (rowD p) = true := by
  obtain ⟨o1, o2⟩ := rok_prt h
  obtain ⟨a1, a2⟩ := prt_lay o1
  obtain ⟨b1, b2⟩ := prt_lay o2
  simp [SeqAt.shaped, rowD, PyData.canLay0, PyData.canLayAll0, PyData.depth, PyData.depthAll, a1, a2, b1, b2]
theorem rowD_fit {p : Rw} (h : rOk p) : FitX (rowD p) := by
  obtain ⟨a, da⟩ := prt_fit h.1
  obtain ⟨b, db⟩ := prt_fit h.2
  have := a.wt
  have := b.wt
  refine ⟨?_, ?_, ?_, ?_⟩
  · simp only [rowD, PyData.showable, PyData.showableAll, a.sh, b.sh, Bool.and_self]
  · simp only [rowD, PyData.leavesShort, PyData.leavesShortAll, a.lv, b.lv, Bool.and_self]
  · simp only [rowD, PyData.weight, PyData.weightAll]
    omega
  · simp only [rowD, PyData.depth, PyData.depthAll, da, db]
    omega
theorem row_dp {K : PySem.W.Frag} {H : Hp} {x : V} {p : Rw} (h : RowAt K H x p) : Dp K H x (rowD p) := by
  obtain ⟨r, rfl, q⟩ := h
  exact .tup q (.cons (prt_dp _) (.cons (prt_dp _) .nil))
theorem row_itm {K : PySem.W.Frag} {H : Hp} {ps : List Rw} {x : V} {p : Rw} (h : RowAt K H x p) (ok : rOk p) (hp : p ∈ ps) : Itm K H ps x true := by
  have dp := row_dp h
  refine ⟨rowD p, row_true h ⟨ok.1.1, ok.2.1⟩, .inl (.inl ⟨dp, ?_⟩), rowD_fit ok, ?_⟩
  · have h1 := (prt_fit ok.1).1.hd
    have h2 := (prt_fit ok.2).1.hd
    simp [rowD, PyData.hasDict, PyData.hasDictAll, h1, h2]
  · obtain ⟨r, rfl, q⟩ := h
    refine .tup q dp (rowD_shaped ok) (fun x hx => ?_) (by simp) ?_
    · simp only [List.mem_cons, List.not_mem_nil, or_false] at hx
      rcases hx with rfl | rfl
      · exact prt_kd _
      · exact prt_kd _
    · have e1 : (ps.map rowD).any (fun z => PyData.eqv z (rowD p)) = true := by
        rw [List.any_eq_true]
        refine ⟨rowD p, List.mem_map.mpr ⟨p, hp, rfl⟩, ?_⟩
        simp [rowD, PyData.eqv, PyData.eqvAll, prt_eqv]
      have e2 : ([p.1.v, p.2.v] : List V).any isBlV = false := by
        obtain ⟨a, b⟩ := p
        cases a <;> cases b <;> rfl
      rw [e1, e2]
      rfl
/-! ### the odd list is made -/
structure S5 (K : PySem.W.Frag) (p RW OD : Addr) (xs : List V) (ps : List Rw) (i : Nat) (H0 H : Hp) : Prop where
  bag : BagAt H p
  rows : H RW = some (.lst xs)
  at_ : RowsAt K H xs ps
  odd : ∃ vs bs, H OD = some (.lst vs) ∧ Paired (Itm K (hid [p, OD] H) ps) vs bs ∧ vs.length = ps.length + i ∧ (0 < i → false ∈ bs)
  old : Same H0 H
theorem law_ins {K : PySem.W.Frag} {mg : Str → Option Value} {g : Ads} (T : Txt K mg g) {E : XK} {D : Ends} {p RW OD : Addr} {s0 s1 s3 s5 s6 s7 s8 s9 s10 s11 s12 s13 : Option V} {xs : List V} {ps : List Rw} {i : Nat} {H0 H : Hp}
    (hp0 : H0 p = none) (hO0 : H0 OD = none) (n1 : RW ≠ p) (n2 : OD ≠ p) (n3 : RW ≠ OD) (lp : ps.length ≤ 100) (hi : i ≤ 10) (S : S5 K p RW OD xs ps i H0 H)
    (fin : ∀ H', S5 K p RW OD xs ps (i + 1) H0 H' → D.nx [s0, s1, some (.ref p), s3, some (.ref OD), s5, s6, s7, s8, s9, s10, s11, s12, s13] H') :
    R_law_6 K g E D [s0, s1, some (.ref p), s3, some (.ref OD), s5, s6, s7, s8, s9, s10, s11, s12, s13] H := by
  obtain ⟨hb, eR, hr, ⟨vs, bs, eO, hI, lv, hf⟩, sm⟩ := S
  refine ⟨.inl ⟨rfl, _, SqL.of eO⟩, vs, .inl (SqL.of eO), p, _, rfl, hb, by omega, by omega, fun r H1 r0 r1 b1 f1 => ⟨p, rfl, b1, fun v H2 b2 f2 od => ?_⟩⟩
  have k1 : KeepT H H1 := KeepT.but hb f1
  have k2 : KeepT H H2 := k1.trans (KeepT.but b1 f2)
  have eO1 := f1 _ _ eO n2
  have eO2 := f2 _ _ eO1 n2
  have eR2 := f2 _ _ (f1 _ _ eR n1) n1
  refine ⟨OD, vs, r, v, rfl, rfl, eO2, Nat.lt_of_le_of_lt (show _ ≤ 200 by omega) (by decide), r0, by omega, fin _ ⟨?_, ?_, (hr.keepT k2).keepT (KeepT.put eO2), ⟨_, bs.take r.toNat ++ [false] ++ bs.drop r.toNat, upd_same, ?_, ?_, fun _ => by simp⟩, ?_⟩⟩
  · obtain ⟨c, m, e⟩ := b2
    exact ⟨c, m, by rw [upd_ne n2.symm]; exact e⟩
  · rw [upd_ne n3]
    exact eR2
  · have a1 : Same (hid [p, OD] H) (hid [p, OD] (upd H2 OD (.lst (vs.take r.toNat ++ [v] ++ vs.drop r.toNat)))) := hid_same fun b o e nb => by
      have nb' : b ≠ p ∧ b ≠ OD := by simpa using nb
      rw [upd_ne nb'.2]
      exact f2 _ _ (f1 _ _ e nb'.1) nb'.1
    have a2 : Same (nwr H1 H2) (hid [p, OD] (upd H2 OD (.lst (vs.take r.toNat ++ [v] ++ vs.drop r.toNat)))) := by
      refine (nwr_hid (S := [p, OD]) (H' := H2) fun s hs => ?_).trans (hid_same fun b o e nb => ?_)
      · simp only [List.mem_cons, List.not_mem_nil, or_false] at hs
        rcases hs with rfl | rfl
        · obtain ⟨c, m, e⟩ := b1
          rw [e]
          simp
        · rw [eO1]
          simp
      · have nb' : b ≠ p ∧ b ≠ OD := by simpa using nb
        rw [upd_ne nb'.2]
        exact e
    have hI2 : Paired (Itm K (hid [p, OD] (upd H2 OD (.lst (vs.take r.toNat ++ [v] ++ vs.drop r.toNat)))) ps) vs bs := L2.Paired.mapP hI fun _ _ q => q.same a1
    exact paired_app (paired_app (paired_take _ hI2) (.cons ((od ps).same a2) .nil)) (paired_drop _ hI2)
  · have := List.length_take (i := r.toNat) (l := vs)
    simp only [List.length_append, List.length_take, List.length_drop, List.length_cons, List.length_nil]
    omega
  · intro b u e
    rw [upd_ne (ne_of_none e hO0)]
    exact f2.old (f1.old sm hp0) hp0 _ _ e
/-! ### which of them stand in the rows -/
def Rt (K : PySem.W.Frag) (H : Hp) (v : V) (b r : Bool) : Prop := (r = false ∧ b = false) ∨ ∃ a xs, v = .ref a ∧ SqT K H a xs ∧ (∀ x ∈ xs, Kd0 K H x) ∧ xs.length ≤ 10 ∧ (!(xs.any isBlV)) = b ∧ r = true
theorem Rt.same {K : PySem.W.Frag} {H H' : Hp} {v : V} {b r : Bool} (h : Rt K H v b r) (s : Same H H') : Rt K H' v b r := by
  rcases h with h | ⟨a, xs, e, h1, h2, h3⟩
  · exact .inl h
  · exact .inr ⟨a, xs, e, Z.Same.tup s h1, fun x hx => (h2 x hx).same s, h3⟩
theorem right_of {K : PySem.W.Frag} {H : Hp} {ps : List Rw} {xs : List V} {RW : Addr} {v : V} {b : Bool} (eR : H RW = some (.lst xs)) (hr : RowsAt K H xs ps) (ok : ∀ q ∈ ps, rOk q) (h : MkOk K H ps v b) :
    ∃ r, Rt K H v b r ∧ ∀ (H' : Hp) (Q : VK) (s0 s1 s2 s4 s5 s6 s7 s8 s9 s10 s11 s13 : Option V), Same H H' → Q (.bl r) H' → zAndV (zIsiT K .tuple (zVar 12)) (tOp (zInD K) (zVar 12) (zVar 3)) [s0, s1, s2, some (.ref RW), s4, s5, s6, s7, s8, s9, s10, s11, some v, s13] H' Q := by
  cases h with
  | non => exact ⟨false, .inl ⟨rfl, rfl⟩, fun H' Q s0 s1 s2 s4 s5 s6 s7 s8 s9 s10 s11 s13 s q => q⟩
  | bl b => exact ⟨false, .inl ⟨rfl, rfl⟩, fun H' Q s0 s1 s2 s4 s5 s6 s7 s8 s9 s10 s11 s13 s q => q⟩
  | int i => exact ⟨false, .inl ⟨rfl, rfl⟩, fun H' Q s0 s1 s2 s4 s5 s6 s7 s8 s9 s10 s11 s13 s q => q⟩
  | str z => exact ⟨false, .inl ⟨rfl, rfl⟩, fun H' Q s0 s1 s2 s4 s5 s6 s7 s8 s9 s10 s11 s13 s q => q⟩
  | @ref a t h k =>
    refine ⟨false, .inl ⟨rfl, rfl⟩, fun H' Q s0 s1 s2 s4 s5 s6 s7 s8 s9 s10 s11 s13 s q => ?_⟩
    have k' := k.same s
    cases t <;> first | exact k.elim | exact absurd rfl h | exact ⟨_, k', q⟩
  | @tup a ys d _ h e sd k l m =>
    refine ⟨(ps.map rowD).any (fun z => PyData.eqv z d), ?_, fun H' Q s0 s1 s2 s4 s5 s6 s7 s8 s9 s10 s11 s13 s q => ⟨.tuple, ⟨_, Z.Same.tup s h⟩, .inl ⟨d, ps.map rowD, Dp_same s _ _ e, .lst (SqL.of (s _ _ eR)) (rows_dp (RowsAt.same hr s)), sd, rows_list_shaped ok, q⟩⟩⟩
    cases hh : (ps.map rowD).any (fun z => PyData.eqv z d) with
    | true =>
      rw [hh] at m
      exact .inr ⟨a, ys, rfl, h, k, l, by simpa using m, rfl⟩
    | false =>
      rw [hh] at m
      exact .inl ⟨rfl, by simpa using m.symm⟩
  | @dic a d w kvs h e f =>
    refine ⟨false, .inl ⟨rfl, rfl⟩, fun H' Q s0 s1 s2 s4 s5 s6 s7 s8 s9 s10 s11 s13 s q => ⟨.tuple, ⟨_, Z.Same.tup s h⟩, .inr ⟨a, d, RW, w, xs, kvs, rfl, rfl, Z.Same.tup s h, s _ _ e, f, SqL.of (s _ _ eR), fun x hx => ?_, q⟩⟩⟩
    obtain ⟨i, hi⟩ := List.getElem?_of_mem hx
    obtain ⟨pr, _, c, ec, hc⟩ := paired_get hr hi
    have tf : ∀ t : Prt, tflat t.v := fun t => by
      cases t with
      | non => exact .inl rfl
      | int i => exact .inr (.inl ⟨_, rfl⟩)
      | str z => exact .inr (.inr ⟨_, rfl⟩)
    exact ⟨c, _, _, ec, Z.Same.tup s hc, tf _, tf _⟩
end Z
namespace Z
open PySem PySem.Spec PyProof.Rows L2
theorem first_false : ∀ {bs : List Bool}, false ∈ bs → ∃ j : Nat, bs[j]? = some false ∧ ∀ m, m < j → bs[m]? = some true
  | [], h => absurd h (by simp)
  | false :: r, _ => ⟨0, rfl, fun m h => absurd h (by omega)⟩
  | true :: r, h => by
    obtain ⟨j, h1, h2⟩ := first_false (bs := r) (by simpa using h)
    refine ⟨j + 1, h1, fun m hm => ?_⟩
    cases m with
    | zero => rfl
    | succ m => exact h2 m (by omega)
theorem itm_ds {K : PySem.W.Frag} {N : Hp} {ps : List Rw} : ∀ {vs : List V} {bs : List Bool}, Paired (Itm K N ps) vs bs → ∃ ds, Paired (DpR2 K N) vs ds ∧ ds.length = vs.length ∧ ∀ d ∈ ds, FitX d
  | _, _, .nil => ⟨[], .nil, rfl, fun d h => absurd h (by simp)⟩
  | _, _, .cons ⟨d, _, h2, h3, _⟩ t => by
    obtain ⟨ds, p, l, f⟩ := itm_ds t
    refine ⟨d :: ds, .cons h2 p, by simp [l], fun e he => ?_⟩
    rcases List.mem_cons.mp he with rfl | he
    · exact h3
    · exact f e he
theorem fitx_all : ∀ (ds : List PyData), (∀ d ∈ ds, FitX d) → PyData.showableAll ds = true ∧ PyData.leavesShortAll 22 ds = true ∧ PyData.weightAll ds ≤ 401 * ds.length ∧ PyData.depthAll ds ≤ 4
  | [], _ => ⟨rfl, rfl, by simp [PyData.weightAll], by simp [PyData.depthAll]⟩
  | d :: ds, h => by
    obtain ⟨h1, h2, h3, h4⟩ := fitx_all ds fun e he => h e (List.mem_cons_of_mem _ he)
    obtain ⟨a1, a2, a3, a4⟩ := h d List.mem_cons_self
    refine ⟨by simp only [PyData.showableAll, a1, h1, Bool.and_self], by simp only [PyData.leavesShortAll, a2, h2, Bool.and_self], ?_, ?_⟩
    · simp only [PyData.weightAll, List.length_cons]
      omega
    · simp only [PyData.depthAll]
      omega
theorem fitx_len {ds : List PyData} (h : ∀ d ∈ ds, FitX d) (hl : ds.length ≤ 400) : (PyData.list ds).shown.length ≤ sizeLine := by
  obtain ⟨_, h2, h3, _⟩ := fitx_all ds h
  have := PyData.shown_le 22 (by decide) (.list ds) (by simpa only [PyData.leavesShort] using h2)
  have w : (PyData.list ds).weight ≤ 401 * 400 := by
    simp only [PyData.weight]
    omega
  have : (22 + 2) * (PyData.list ds).weight ≤ 24 * (401 * 400) := Nat.mul_le_mul (Nat.le_refl _) w
  rw [sizeLine_eq]
  omega
theorem bls_flat (bs : List Bool) : (bs.map V.bl).all flatV = true := by
  rw [List.all_eq_true]
  intro v hv
  obtain ⟨b, _, rfl⟩ := List.mem_map.mp hv
  rfl
/-- the last part: three -/
theorem law_three {K : PySem.W.Frag} {mg : Str → Option Value} {g : Ads} (T : Txt K mg g) {E : XK} {D : Ends} {p RW : Addr} {s0 s1 s4 s5 s6 s7 s8 s9 s10 s11 s12 s13 : Option V} {xs : List V} {ps : List Rw} {H0 H : Hp}
    (hp0 : H0 p = none) (n1 : RW ≠ p) (hb : BagAt H p) (eR : H RW = some (.lst xs)) (hr : RowsAt K H xs ps) (ok : ∀ q ∈ ps, rOk q) (lp : ps.length ≤ 100) (sm : Same H0 H)
    (fin : ∀ H' s10 s11, Same H0 H' → D.nx [s0, s1, some (.ref p), some (.ref RW), s4, s5, s6, s7, s8, s9, s10, s11, s12, s13] H') :
    R_law_14 K g E D [s0, s1, some (.ref p), some (.ref RW), s4, s5, s6, s7, s8, s9, s10, s11, s12, s13] H := by
  refine ⟨show 2 ≤ sizeLine by decide, fun T1 h1 => ?_⟩
  have z1 : Same H (upd H T1 (.tup [.non, .non])) := Same.put h1
  have e1 : (upd H T1 (.tup [.non, .non])) T1 = some (.tup [.non, .non]) := upd_same
  generalize upd H T1 (.tup [V.non, .non]) = H1 at z1 e1
  refine ⟨show 2 ≤ sizeLine by decide, fun T2 h2 => ?_⟩
  have z2 : Same H1 (upd H1 T2 (.tup [.str "v0", .int 3])) := Same.put h2
  have e2 : (upd H1 T2 (.tup [.str "v0", .int 3])) T2 = some (.tup [.str "v0", .int 3]) := upd_same
  generalize upd H1 T2 (.tup [V.str "v0", .int 3]) = H2 at z2 e2
  refine ⟨show 2 ≤ sizeLine by decide, fun T3 h3 => ?_⟩
  have z3 : Same H2 (upd H2 T3 (.tup [.int 4, .str "v0"])) := Same.put h3
  have e3 : (upd H2 T3 (.tup [.int 4, .str "v0"])) T3 = some (.tup [.int 4, .str "v0"]) := upd_same
  generalize upd H2 T3 (.tup [V.int 4, .str "v0"]) = H3 at z3 e3
  refine ⟨show 3 ≤ sizeLine by decide, fun L hL => ?_⟩
  have z4 : Same H3 (upd H3 L (.lst [.ref T1, .ref T2, .ref T3])) := Same.put hL
  have eL : (upd H3 L (.lst [.ref T1, .ref T2, .ref T3])) L = some (.lst [.ref T1, .ref T2, .ref T3]) := upd_same
  show R_law_15 K g E D [s0, s1, some (.ref p), some (.ref RW), s4, s5, s6, s7, s8, s9, some (.ref L), s11, s12, s13] (upd H3 L (.lst [.ref T1, .ref T2, .ref T3]))
  have z13 := (z1.trans z2).trans z3
  have nL : L ≠ p := (hb.same z13).ne hL
  have nRL : RW ≠ L := ne_of_none (z13 _ _ eR) hL
  have hL0 : H0 L = none := by
    cases e : H0 L with
    | none => rfl
    | some o =>
      rw [z13 _ _ (sm _ _ e)] at hL
      cases hL
  generalize upd H3 L (.lst [V.ref T1, .ref T2, .ref T3]) = H4 at z4 eL
  have z04 := z13.trans z4
  have w1 : ∀ {H'}, Same H4 H' → RowAt K H' (.ref T1) (.non, .non) := fun s => ⟨T1, rfl, SqT.of (s _ _ (z4 _ _ (z3 _ _ (z2 _ _ e1))))⟩
  have w2 : ∀ {H'}, Same H4 H' → RowAt K H' (.ref T2) (.str "v0", .int 3) := fun s => ⟨T2, rfl, SqT.of (s _ _ (z4 _ _ (z3 _ _ e2)))⟩
  have w3 : ∀ {H'}, Same H4 H' → RowAt K H' (.ref T3) (.int 4, .str "v0") := fun s => ⟨T3, rfl, SqT.of (s _ _ (z4 _ _ e3))⟩
  have r1 := row_true (w1 (Same.refl _)) ⟨fun i h => (nomatch h), fun i h => (nomatch h)⟩
  have r2 := row_true (w2 (Same.refl _)) ⟨fun i h => (nomatch h), fun i h => by cases h; decide⟩
  have r3 := row_true (w3 (Same.refl _)) ⟨fun i h => by cases h; decide, fun i h => (nomatch h)⟩
  refine ⟨p, 3, rfl, hb.same z04, by decide, by decide, fun r H5 r0 r1' b5 f5 => ⟨p, rfl, b5, fun v H6 b6 f6 od => ?_⟩⟩
  have eL5 := f5 _ _ eL nL
  have eL6 := f6 _ _ eL5 nL
  -- behind the store
  have go : ∀ (y0 y1 y2 : V) (i : Nat), r = (i : Nat) → i ≤ 2 → FirstBad K (upd H6 L (.lst [y0, y1, y2])) [y0, y1, y2] i → R_law_17 K g E D [s0, s1, some (.ref p), some (.ref RW), s4, s5, s6, s7, s8, s9, some (.ref L), some (.int r), s12, s13] (upd H6 L (.lst [y0, y1, y2])) := by
    intro y0 y1 y2 i er hi fb
    subst er
    have eL7 : (upd H6 L (.lst [y0, y1, y2])) L = some (.lst [y0, y1, y2]) := upd_same
    have eR6 := f6 _ _ (f5 _ _ (z04 _ _ eR) n1) n1
    have eR7 : (upd H6 L (.lst [y0, y1, y2])) RW = some (.lst xs) := by
      rw [upd_ne nRL]
      exact eR6
    have k7 : KeepT H (upd H6 L (.lst [y0, y1, y2])) := ((KeepT.same z04).trans ((KeepT.but (hb.same z04) f5).trans (KeepT.but b5 f6))).trans (KeepT.put eL6)
    have s7' : Same H0 (upd H6 L (.lst [y0, y1, y2])) := by
      intro b u e
      rw [upd_ne (ne_of_none e hL0)]
      exact (f6.old (f5.old (sm.trans z04) hp0) hp0) _ _ e
    refine ⟨L, y0, y1, y2, i, rfl, SqL.of eL7, fb, hi, fun H8 z8 => zite (fun h => by cases h) fun _ => ?_⟩
    have hr8 := RowsAt.same (hr.keepT k7) z8
    refine ⟨rfl, RW, xs, rfl, .inr (SqL.of (z8 _ _ eR7)), by rw [hr.length]; omega, .inl ⟨ps, hr8, fun q hq => ⟨(ok q hq).1.1, (ok q hq).2.1⟩, fun o H9 ap z9 ho pr => ?_⟩⟩
    obtain ⟨⟨dx, ra, aa, fs, ys, g1, g2, g3, g4, g5, g6⟩, _, _, _⟩ := pr
    refine ⟨o, _, _, _, _, rfl, g1, T.cl_Pair, T.na_Pair_rows, g2, ys, .inr g4, xs, .inl (SqL.of (z9 _ _ (z8 _ _ eR7))), .inl ⟨rfl, zite (fun h => ?_) fun _ => fin _ _ _ ((s7'.trans z8).trans z9)⟩⟩
    have e1 : ys.length = (norm ps).length := g5.length
    have e2 : xs.length = ps.length := hr.length
    rw [norm_length] at e1
    rw [e1, e2] at h
    simp at h
  have ib : ∀ ys : List V, IsRow K (upd H6 L (.lst ys)) v false := fun ys => by
    obtain ⟨d, h1, _⟩ := od ps
    refine h1.same ((nwr_hid (S := [p, L]) (H' := H6) fun s hs => ?_).trans ((hid_same fun b o e nb => ?_).trans (hid_sub (S := [p, L]))))
    · simp only [List.mem_cons, List.not_mem_nil, or_false] at hs
      rcases hs with rfl | rfl
      · obtain ⟨c, m, e⟩ := b5
        rw [e]
        simp
      · rw [eL5]
        simp
    · have nb' : b ≠ p ∧ b ≠ L := by simpa using nb
      rw [upd_ne nb'.2]
      exact e
  have it : ∀ {x : V} (ys : List V), IsRow K H4 x true → (∀ {H'}, KeepT H4 H' → IsRow K H4 x true → IsRow K H' x true) → IsRow K (upd H6 L (.lst ys)) x true := fun ys h k =>
    k (((KeepT.but (hb.same z04) f5).trans (KeepT.but b5 f6)).trans (KeepT.put eL6)) h
  have kr : ∀ {x : V} {q : Rw}, RowAt K H4 x q → pOk q.1 ∧ pOk q.2 → ∀ ys : List V, IsRow K (upd H6 L (.lst ys)) x true := fun h o ys =>
    row_true (RowAt.keepT (((KeepT.but (hb.same z04) f5).trans (KeepT.but b5 f6)).trans (KeepT.put eL6)) h) o
  have t1 := kr (w1 (Same.refl _)) ⟨fun i h => (nomatch h), fun i h => (nomatch h)⟩
  have t2 := kr (w2 (Same.refl _)) ⟨fun i h => (nomatch h), fun i h => by cases h; decide⟩
  have t3 := kr (w3 (Same.refl _)) ⟨fun i h => by cases h; decide, fun i h => (nomatch h)⟩
  have hr3 : r = 0 ∨ r = 1 ∨ r = 2 := by omega
  rcases hr3 with rfl | rfl | rfl
  · exact ⟨L, _, _, _, rfl, rfl, eL6, rfl, go v (.ref T2) (.ref T3) 0 rfl (by decide) ⟨[false, true, true], .cons (ib _) (.cons (t2 _) (.cons (t3 _) .nil)), rfl, fun j h => absurd h (by omega)⟩⟩
  · exact ⟨L, _, _, _, rfl, rfl, eL6, rfl, go (.ref T1) v (.ref T3) 1 rfl (by decide) ⟨[true, false, true], .cons (t1 _) (.cons (ib _) (.cons (t3 _) .nil)), rfl, fun j h => by
      obtain rfl : j = 0 := by omega
      rfl⟩⟩
  · exact ⟨L, _, _, _, rfl, rfl, eL6, rfl, go (.ref T1) (.ref T2) v 2 rfl (by decide) ⟨[true, true, false], .cons (t1 _) (.cons (t2 _) (.cons (ib _) .nil)), rfl, fun j h => by
      have : j = 0 ∨ j = 1 := by omega
      rcases this with rfl | rfl <;> rfl⟩⟩
end Z
namespace Z
open PySem PySem.Spec PyProof.Rows L2
theorem law_tail {K : PySem.W.Frag} {mg : Str → Option Value} {g : Ads} (T : Txt K mg g) {E : XK} {D : Ends} {p RW OD : Addr} {s0 s1 s5 s6 s7 s8 s9 s10 s11 s12 s13 : Option V} {xs : List V} {ps : List Rw} {i : Nat} {H0 H : Hp}
    (hp0 : H0 p = none) (n1 : RW ≠ p) (ok : ∀ q ∈ ps, rOk q) (lp : ps.length ≤ 100) (hi : 0 < i) (hi2 : i ≤ 10) (S : S5 K p RW OD xs ps i H0 H)
    (fin : ∀ H' s6 s7 s8 s9 s10 s11, Same H0 H' → D.nx [s0, s1, some (.ref p), some (.ref RW), some (.ref OD), s5, s6, s7, s8, s9, s10, s11, s12, s13] H') :
    R_law_7 K g E D [s0, s1, some (.ref p), some (.ref RW), some (.ref OD), s5, s6, s7, s8, s9, s10, s11, s12, s13] H := by
  obtain ⟨hb, eR, hr, ⟨vs, bs, eO, hI0, lv, hf⟩, sm⟩ := S
  have hI : Paired (Itm K H ps) vs bs := L2.Paired.mapP hI0 fun _ _ q => q.same hid_sub
  have lb : vs.length = bs.length := hI.length
  refine ⟨OD, rfl, ⟨_, SqL.of eO⟩, lc_z (walk_list (xs := vs)) (fun L i H' => Same H H' ∧ ∃ rs : List Bool, H' L = some (.lst (rs.map V.bl)) ∧ rs.length = i ∧ ∀ (j : Nat) v b, j < i → vs[j]? = some v → bs[j]? = some b → ∃ r, rs[j]? = some r ∧ Rt K H v b r)
    (fun L hL => ⟨Same.put hL, [], upd_same, rfl, fun j v b h => absurd h (by omega)⟩) (fun L i H' _ _ pv => SqL.of (pv.1 _ _ eO)) (fun L i x H1 H1' hL hi pv y => ?_) (fun L H1 hL pv => ?_)⟩
  · obtain ⟨z, rs, e, lr, hrs⟩ := pv
    obtain ⟨rfl, hx⟩ := y
    obtain ⟨b, hbx, d, _, _, _, mk⟩ := paired_get hI hx
    obtain ⟨r, rt, run⟩ := right_of eR hr ok mk
    refine ⟨rfl, run H1' _ s0 s1 (some (.ref p)) (some (.ref OD)) s5 s6 s7 s8 s9 s10 s11 s13 z ⟨rs.map V.bl, e, Nat.lt_of_le_of_lt (show _ ≤ 200 by rw [List.length_map]; omega) (by decide), ?_, rs ++ [r], by rw [upd_same, List.map_append]; rfl, by simp [lr], fun j v b' hj hv hb' => ?_⟩⟩
    · intro c u ec
      rw [upd_ne (ne_of_none ec hL)]
      exact z _ _ ec
    · by_cases hji : j < i
      · obtain ⟨r', e1, e2⟩ := hrs j v b' hji hv hb'
        exact ⟨r', by rw [List.getElem?_append_left (by omega)]; exact e1, e2⟩
      · obtain rfl : j = i := by omega
        rw [hx] at hv
        cases hv
        rw [hbx] at hb'
        cases hb'
        exact ⟨r, by rw [List.getElem?_append_right (by omega), lr]; simp, rt⟩
  · obtain ⟨z1, rs, eL, lr, hrs⟩ := pv
    show R_law_8 K g E D [s0, s1, some (.ref p), some (.ref RW), some (.ref OD), s5, some (.ref L), s7, s8, s9, s10, s11, s12, s13] H1
    refine ⟨show 0 ≤ sizeLine by decide, fun MK hM => ?_⟩
    have zM : Same H1 (upd H1 MK (.lst [])) := Same.put hM
    have eM : (upd H1 MK (.lst [])) MK = some (.lst []) := upd_same
    generalize upd H1 MK (.lst []) = H2 at zM eM
    refine ⟨vs, .inl (SqL.of (zM _ _ (z1 _ _ eO))), _, rfl, by omega, by omega, for_z (walk_range (lo := 0) (n := (((vs.length : Nat) : Int)).toNat)) (fun i σ H' => (∃ s8, σ = [s0, s1, some (.ref p), some (.ref RW), some (.ref OD), s5, some (.ref L), some (.ref MK), s8, s9, s10, s11, s12, s13]) ∧ Same H1 H' ∧ H' MK = some (.lst ((bs.take i).map V.bl)))
      ⟨⟨_, rfl⟩, zM, eM⟩ (fun _ _ _ _ _ => trivial) (fun i x σ H3 H3' hi pv y => ?_) (fun σ H3 pv => ?_)⟩
    · obtain ⟨⟨s8, rfl⟩, z3, eM3⟩ := pv
      obtain ⟨rfl, rfl⟩ := y
      have hiv : i < vs.length := by omega
      have gv : vs[i]? = some (vs[i]'hiv) := by simp [hiv]
      have gb : bs[i]? = some (bs[i]'(by omega)) := by simp [show i < bs.length by omega]
      generalize vs[i]'hiv = v at gv
      generalize bs[i]'(by omega) = b at gb
      obtain ⟨r, gr, rt⟩ := hrs i v b hiv gv gb
      have eL3 := z3 _ _ eL
      have eO3 := z3 _ _ (z1 _ _ eO)
      have ar : atI (rs.map V.bl) (0 + ((i : Nat) : Int)) = some (.bl r) := by
        rw [Int.zero_add]
        exact atI_nat (by simp [gr])
      have av : atI vs (0 + ((i : Nat) : Int)) = some v := by
        rw [Int.zero_add]
        exact atI_nat gv
      -- the mark is put
      have put : ∀ H4, Same H3' H4 → (∃ s8, [s0, s1, some (V.ref p), some (.ref RW), some (.ref OD), s5, some (.ref L), some (.ref MK), some (.int (0 + (i : Nat))), s9, s10, s11, s12, s13] = [s0, s1, some (V.ref p), some (.ref RW), some (.ref OD), s5, some (.ref L), some (.ref MK), s8, s9, s10, s11, s12, s13]) ∧
          Same H1 (upd H4 MK (.lst ((bs.take i).map V.bl ++ [.bl b]))) ∧ (upd H4 MK (.lst ((bs.take i).map V.bl ++ [.bl b]))) MK = some (.lst ((bs.take (i + 1)).map V.bl)) := by
        intro H4 z4
        refine ⟨⟨_, rfl⟩, ?_, ?_⟩
        · intro c u ec
          rw [upd_ne (ne_of_none ec hM)]
          exact z4 _ _ (z3 _ _ ec)
        · rw [upd_same, List.take_add_one, gb, List.map_append]
          rfl
      have lm : ((bs.take i).map V.bl).length < sizeLine := Nat.lt_of_le_of_lt (show _ ≤ 200 by rw [List.length_map, List.length_take]; omega) (by decide)
      rcases rt with ⟨rfl, rfl⟩ | ⟨a, ys, rfl, sq, kd, ly, eb, rfl⟩
      · exact ⟨.inl ⟨rfl, _, SqL.of eM3⟩, _, .bl false, .inl (SqL.of eL3), ar, MK, _, .bl false, rfl, rfl, eM3, lm, put H3' (Same.refl _)⟩
      · have z03 := z1.trans z3
        have sq3 := Z.Same.tup z03 sq
        refine ⟨.inl ⟨rfl, _, SqL.of eM3⟩, _, .bl true, .inl (SqL.of eL3), ar, _, .ref a, .inl (SqL.of eO3), av, a, rfl, ⟨_, sq3⟩, lc_map (walk_tup (xs := ys)) (fun j => .bl (isBlV (ys.getD j .non))) ?_ (fun H' s => Z.Same.tup s sq3) (fun j x H4 H4' hj s y => ?_) (fun DD hDD => ?_)⟩
        · exact Nat.le_trans ly (by decide)
        · obtain ⟨rfl, hx⟩ := y
          have ed : ys.getD j .non = x := by simp [List.getD_eq_getElem?_getD, hx]
          have kx := (kd x (List.mem_of_getElem? hx)).same (z03.trans s)
          refine ⟨rfl, _, fun R q => q, rfl, fun R q => q, fun R q => ?_⟩
          rw [ed] at q
          cases x with
          | non => exact q
          | bl b => exact q
          | int i => exact q
          | str z => exact q
          | ref c =>
            obtain ⟨t, ht⟩ := kx
            cases t <;> first | exact ht.elim | exact ⟨_, ht, q⟩
          | _ => exact kx.elim
        · have zD : Same H3' (upd H3' DD (.lst ((List.range ys.length).map fun j => V.bl (isBlV (ys.getD j .non))))) := Same.put hDD
          have el : ((List.range ys.length).map fun j => V.bl (isBlV (ys.getD j .non))) = (ys.map isBlV).map V.bl := by
            rw [List.map_map]
            apply List.ext_getElem?
            intro n
            by_cases hn : n < ys.length
            · simp [hn, List.getD_eq_getElem?_getD]
            · simp [hn]
          have eb2 : (!((ys.map isBlV).any id)) = b := by
            rw [← eb, List.any_map]
            rfl
          refine ⟨DD, ys.map isBlV, rfl, SqL.of (by rw [upd_same, el]), ?_⟩
          have eM4 := zD _ _ eM3
          refine ⟨MK, _, .bl (!((ys.map isBlV).any id)), rfl, rfl, eM4, lm, ?_⟩
          rw [eb2]
          exact put _ zD
    · obtain ⟨⟨s8, rfl⟩, z3, eM3⟩ := pv
      have e0 : bs.take ((((vs.length : Nat) : Int)).toNat) = bs := by
        rw [List.take_of_length_le]
        omega
      rw [e0] at eM3
      have z03 := z1.trans z3
      have eO3 := z03 _ _ eO
      have hI3 : Paired (Itm K H3 ps) vs bs := L2.Paired.mapP hI fun _ _ q => q.same z03
      obtain ⟨ds, hds, lds, fds⟩ := itm_ds hI3
      obtain ⟨x1, x2, x3, x4⟩ := fitx_all ds fds
      have xl := fitx_len fds (by omega)
      refine ⟨OD, vs, ds, rfl, SqL.of eO3, hds, x1, by omega, xl, ?_⟩
      obtain ⟨j, j1, j2⟩ := first_false (hf hi)
      have fb : FirstBad K H3 vs j := ⟨bs, L2.Paired.mapP hI3 fun v b ⟨d, h1, _⟩ => h1, j1, j2⟩
      show R_law_12 K g E D [s0, s1, some (.ref p), some (.ref RW), some (.ref OD), s5, some (.ref L), some (.ref MK), s8, some (.str (PyData.list ds).shown), s10, s11, s12, s13] H3
      refine ⟨.inl ⟨rfl, _, SqL.of eM3⟩, MK, bs.map V.bl, .bl false, j, .bl false, rfl, rfl, SqL.of eM3, rfl, bls_flat bs, by simp [j1], rfl, fun m z' hm hz => ?_, OD, vs, j, rfl, SqL.of eO3, by omega, fb, fun H4 z4 => zite (fun h => by cases h) fun _ => ?_⟩
      · have := j2 m hm
        rw [List.getElem?_map, this] at hz
        cases hz
        rfl
      · have hds4 : Paired (DpR2 K H4) vs ds := L2.Paired.mapP hds fun _ _ q => q.same z4
        refine ⟨OD, vs, ds, rfl, SqL.of (z4 _ _ eO3), hds4, x1, by omega, xl, .inl ⟨rfl, zite (fun h => by simp at h) fun _ => ?_⟩⟩
        have z04 := z03.trans z4
        exact law_three T hp0 n1 (hb.same z04) (z04 _ _ eR) (RowsAt.same hr z04) ok lp (sm.trans z04) fun H' _ _ z => fin _ _ _ _ _ _ _ z
theorem law_body {K : PySem.W.Frag} {mg : Str → Option Value} {g : Ads} (T : Txt K mg g) {E : XK} {D : Ends} {p : Addr} {s0 s1 s3 s4 s5 s6 s7 s8 s9 s10 s11 s12 s13 : Option V} {H0 H : Hp} (hp0 : H0 p = none) (hb : BagAt H p) (sm : Same H0 H)
    (fin : ∀ H' s3 s4 s5 s6 s7 s8 s9 s10 s11, Same H0 H' → D.nx [s0, s1, some (.ref p), s3, s4, s5, s6, s7, s8, s9, s10, s11, s12, s13] H') :
    R_law_3 K g E D [s0, s1, some (.ref p), s3, s4, s5, s6, s7, s8, s9, s10, s11, s12, s13] H := by
  refine ⟨p, 10, rfl, hb, by decide, by decide, fun m H1 m0 m1 b1 f1 => ⟨p, m, rfl, b1, m0, by omega, fun RW xs ps H2 b2 f2 hRn hR hr ok len lm => ?_⟩⟩
  have w2 : Same H0 H2 := (f1.trans f2).old sm hp0
  have nRp : RW ≠ p := b1.ne hRn
  have lx : xs.length = ps.length := hr.length
  refine ⟨xs, .inl (SqL.of hR), fun OD hO => ?_⟩
  have zO : Same H2 (upd H2 OD (.lst xs)) := Same.put hO
  have eO : (upd H2 OD (.lst xs)) OD = some (.lst xs) := upd_same
  have nO : OD ≠ p := b2.ne hO
  have nRO : RW ≠ OD := ne_of_none hR hO
  have hO0 : H0 OD = none := by
    cases e : H0 OD with
    | none => rfl
    | some o =>
      rw [w2 _ _ e] at hO
      cases hO
  show R_law_5 K g E D [s0, s1, some (.ref p), some (.ref RW), some (.ref OD), s5, s6, s7, s8, s9, s10, s11, s12, s13] (upd H2 OD (.lst xs))
  generalize upd H2 OD (.lst xs) = H3 at zO eO
  have hr3 := RowsAt.same hr zO
  have hS : ∀ H', BagAt H' p → H' OD = some (.lst xs) → ∀ s ∈ [p, OD], ∃ l, H' s = some (.lst l) := fun H' b e s hs => by
    simp only [List.mem_cons, List.not_mem_nil, or_false] at hs
    rcases hs with rfl | rfl
    · obtain ⟨c, m, e2⟩ := b
      exact ⟨_, e2⟩
    · exact ⟨_, e⟩
  refine ⟨p, 3, rfl, b2.same zO, by decide, by decide, fun r H4 r0 r1 b4 f4 => ?_⟩
  have k4 := KeepT.but (b2.same zO) f4
  have eO4 := f4 _ _ eO nO
  have hr4 := hr3.keepT k4
  have S0 : S5 K p RW OD xs ps 0 H0 H4 := ⟨b4, f4 _ _ (zO _ _ hR) nRp, hr4, ⟨xs, ps.map fun _ => true, eO4, paired_of (by simp [lx]) fun j x b hx hb' => by
      obtain ⟨q, hq, hrow⟩ := paired_get hr4 hx
      rw [List.getElem?_map, hq] at hb'
      cases hb'
      exact row_itm (rowAt_hid (hS H4 b4 eO4) hrow) (ok _ (List.mem_of_getElem? hq)) (List.mem_of_getElem? hq), by omega, fun h => absurd h (by omega)⟩, f4.old (w2.trans zO) hp0⟩
  refine ⟨1 + r, rfl, by omega, by omega, for_z (walk_range (lo := 0) (n := (1 + r).toNat)) (fun i σ H' => (∃ s5, σ = [s0, s1, some (.ref p), some (.ref RW), some (.ref OD), s5, s6, s7, s8, s9, s10, s11, s12, s13]) ∧ S5 K p RW OD xs ps i H0 H') ⟨⟨_, rfl⟩, S0⟩ (fun _ _ _ _ _ => trivial) (fun i x σ H5 H5' hi pv y => ?_) (fun σ H5 pv => ?_)⟩
  · obtain ⟨⟨s5, rfl⟩, S⟩ := pv
    obtain ⟨rfl, rfl⟩ := y
    exact law_ins T hp0 hO0 nRp nO nRO (by omega) (by omega) S fun H' S' => ⟨⟨_, rfl⟩, S'⟩
  · obtain ⟨⟨s5, rfl⟩, S⟩ := pv
    exact law_tail T hp0 nRp ok (by omega) (by omega) (by omega) S fun H' _ _ _ _ _ _ z => fin _ _ _ _ _ _ _ _ _ _ z
def sp_law (K : PySem.W.Frag) (g : Ads) : Sp := spLaw K
theorem pf_law {K : PySem.W.Frag} {mg : Str → Option Value} {g : Ads} (T : Txt K mg g) (vs : List V) (H : Hp) (Q : VK) (E : XK) (h : sp_law K g vs H Q E) : rw_law K g vs H Q E := by
  obtain ⟨a, ns, rfl, hs, hn, q⟩ := h
  refine ⟨rfl, _, .inl hs, _, rfl, ?_, ?_, for_z walk_range (fun i σ H' => Same H H' ∧ ∃ b c d e f k l n o q r u w, σ = [some (.ref a), b, c, d, e, f, k, l, n, o, q, r, u, w]) ⟨Same.refl H, _, _, _, _, _, _, _, _, _, _, _, _, _, rfl⟩ (fun _ _ _ _ _ => trivial) (fun i x σ H1 H1' hi ⟨s1, b, c, d, e, f, k, l, n, o, q, r, u, w, e1⟩ yy => ?_) (fun σ H1 _ => q H1)⟩
  · split <;> split <;> omega
  · rw [List.length_map]; split <;> split <;> omega
  obtain ⟨rfl, rfl⟩ := yy
  subst e1
  refine ⟨a, ns, _, rfl, s1.seq hs, hn, by omega, fun p H2 hp s2 hb => ?_⟩
  exact law_body T hp hb s2 fun H' _ _ _ _ _ _ _ _ _ z => ⟨s1.trans z, _, _, _, _, _, _, _, _, _, _, _, _, _, rfl⟩
theorem ok_law {P : Program} {w : World} {K : PySem.W.Frag} {mg : Str → Option Value} {base : Heap} {g : Ads} (T : Txt K mg g) : FnZ P w K mg base 8 g.f_law g.d_law ["script"] (spLaw K) := (raw_law T).imp (pf_law T)
end Z
namespace Z
open PySem PySem.Spec PyProof.Rows L2
theorem all_mk {P : Program} {w : World} {K : PySem.W.Frag} {h : Heap} {mg : Str → Option Value} {fa : Addr} (X : K.In h) (G : h.Ns mainGlobals mg) (hfa : mg "law" = some (.ref fa))
    {f_BadStep_init : Addr} {od_BadStep_init an_BadStep_init : Option Addr} {sl_BadStep_init : Array (Option Value)} {oc_BadStep_init kV_BadStep_init dc_BadStep_init pm_BadStep_init cd_BadStep_init ct_BadStep_init : Value}
    {f_BadPair_init : Addr} {od_BadPair_init an_BadPair_init : Option Addr} {sl_BadPair_init : Array (Option Value)} {oc_BadPair_init kV_BadPair_init dc_BadPair_init pm_BadPair_init cd_BadPair_init ct_BadPair_init : Value}
    {f_BadKind_init : Addr} {od_BadKind_init an_BadKind_init : Option Addr} {sl_BadKind_init : Array (Option Value)} {oc_BadKind_init kV_BadKind_init dc_BadKind_init pm_BadKind_init cd_BadKind_init ct_BadKind_init : Value}
    {f_is_int : Addr} {od_is_int an_is_int : Option Addr} {sl_is_int : Array (Option Value)} {oc_is_int kV_is_int dc_is_int pm_is_int cd_is_int ct_is_int : Value}
    {f_is_part : Addr} {od_is_part an_is_part : Option Addr} {sl_is_part : Array (Option Value)} {oc_is_part kV_is_part dc_is_part pm_is_part cd_is_part ct_is_part : Value}
    {f_is_pair_row : Addr} {od_is_pair_row an_is_pair_row : Option Addr} {sl_is_pair_row : Array (Option Value)} {oc_is_pair_row kV_is_pair_row dc_is_pair_row pm_is_pair_row cd_is_pair_row ct_is_pair_row : Value}
    {f_normal_rows : Addr} {od_normal_rows an_normal_rows : Option Addr} {sl_normal_rows : Array (Option Value)} {oc_normal_rows kV_normal_rows dc_normal_rows pm_normal_rows cd_normal_rows ct_normal_rows : Value}
    {f_are_alike_in_kind : Addr} {od_are_alike_in_kind an_are_alike_in_kind : Option Addr} {sl_are_alike_in_kind : Array (Option Value)} {oc_are_alike_in_kind kV_are_alike_in_kind dc_are_alike_in_kind pm_are_alike_in_kind cd_are_alike_in_kind ct_are_alike_in_kind : Value}
    {f_is_instance : Addr} {od_is_instance an_is_instance : Option Addr} {sl_is_instance : Array (Option Value)} {oc_is_instance kV_is_instance dc_is_instance pm_is_instance cd_is_instance ct_is_instance : Value}
    {f_Pair_init : Addr} {od_Pair_init an_Pair_init : Option Addr} {sl_Pair_init : Array (Option Value)} {oc_Pair_init kV_Pair_init dc_Pair_init pm_Pair_init cd_Pair_init ct_Pair_init : Value}
    {f_Pair_made : Addr} {od_Pair_made an_Pair_made : Option Addr} {sl_Pair_made : Array (Option Value)} {oc_Pair_made kV_Pair_made dc_Pair_made pm_Pair_made cd_Pair_made ct_Pair_made : Value}
    {p_Pair_made : Addr} {rs_Pair_made : List Value}
    {f_Pair_eq : Addr} {od_Pair_eq an_Pair_eq : Option Addr} {sl_Pair_eq : Array (Option Value)} {oc_Pair_eq kV_Pair_eq dc_Pair_eq pm_Pair_eq cd_Pair_eq ct_Pair_eq : Value}
    {f_Pair_contains : Addr} {od_Pair_contains an_Pair_contains : Option Addr} {sl_Pair_contains : Array (Option Value)} {oc_Pair_contains kV_Pair_contains dc_Pair_contains pm_Pair_contains cd_Pair_contains ct_Pair_contains : Value}
    {f_law_digits : Addr} {od_law_digits an_law_digits : Option Addr} {sl_law_digits : Array (Option Value)} {oc_law_digits kV_law_digits dc_law_digits pm_law_digits cd_law_digits ct_law_digits : Value}
    {f_law_take : Addr} {od_law_take an_law_take : Option Addr} {sl_law_take : Array (Option Value)} {oc_law_take kV_law_take dc_law_take pm_law_take cd_law_take ct_law_take : Value}
    {f_law_number : Addr} {od_law_number an_law_number : Option Addr} {sl_law_number : Array (Option Value)} {oc_law_number kV_law_number dc_law_number pm_law_number cd_law_number ct_law_number : Value}
    {f_law_drawn : Addr} {od_law_drawn an_law_drawn : Option Addr} {sl_law_drawn : Array (Option Value)} {oc_law_drawn kV_law_drawn dc_law_drawn pm_law_drawn cd_law_drawn ct_law_drawn : Value}
    {f_law_oddity : Addr} {od_law_oddity an_law_oddity : Option Addr} {sl_law_oddity : Array (Option Value)} {oc_law_oddity kV_law_oddity dc_law_oddity pm_law_oddity cd_law_oddity ct_law_oddity : Value}
    {f_law_refused : Addr} {od_law_refused an_law_refused : Option Addr} {sl_law_refused : Array (Option Value)} {oc_law_refused kV_law_refused dc_law_refused pm_law_refused cd_law_refused ct_law_refused : Value}
    {f_law_refused_three : Addr} {od_law_refused_three an_law_refused_three : Option Addr} {sl_law_refused_three : Array (Option Value)} {oc_law_refused_three kV_law_refused_three dc_law_refused_three pm_law_refused_three cd_law_refused_three ct_law_refused_three : Value}
    {f_law : Addr} {od_law an_law : Option Addr} {sl_law : Array (Option Value)} {oc_law kV_law dc_law pm_law cd_law ct_law : Value}
    {c_BadStep : Addr}
    {nm_BadStep q_BadStep : Str} {N_BadStep : Addr} {bs_BadStep : List Value} {sn_BadStep : List Str} {sub_BadStep : List Value} {ab_BadStep : Bool} {col_BadStep : Option Bool} {dd_BadStep : Option Addr} {m0_BadStep m1_BadStep m2_BadStep m3_BadStep m5_BadStep : Option Value}
    {c_BadPair : Addr}
    {nm_BadPair q_BadPair : Str} {N_BadPair : Addr} {bs_BadPair : List Value} {sn_BadPair : List Str} {sub_BadPair : List Value} {ab_BadPair : Bool} {col_BadPair : Option Bool} {dd_BadPair : Option Addr} {m0_BadPair m1_BadPair m2_BadPair m3_BadPair m5_BadPair : Option Value}
    {c_BadKind : Addr}
    {nm_BadKind q_BadKind : Str} {N_BadKind : Addr} {bs_BadKind : List Value} {sn_BadKind : List Str} {sub_BadKind : List Value} {ab_BadKind : Bool} {col_BadKind : Option Bool} {dd_BadKind : Option Addr} {m0_BadKind m1_BadKind m2_BadKind m3_BadKind m5_BadKind : Option Value}
    {c_Pair : Addr}
    {tk_BEYOND : Tok}
    (a_BadStep_init : PySem.W.findIn K (.ref c_BadStep) "__init__" = some (some (.ref f_BadStep_init)))
    (t_BadStep_init : PySem.W.typeIn K (.ref f_BadStep_init) = some (.type "function"))
    (l_BadStep_init : K.lookup f_BadStep_init = some ⟨oc_BadStep_init, od_BadStep_init, .func (PySem.W.fnOf "__init__" "BadStep.__init__" (defArgs s_BadStep_init) (defBody s_BadStep_init) (defScope s_BadStep_init) .none kV_BadStep_init dc_BadStep_init pm_BadStep_init an_BadStep_init cd_BadStep_init ct_BadStep_init), sl_BadStep_init⟩)
    (cc_BadStep_init : PySem.W.codeIn K cd_BadStep_init "BadStep.__init__" = true)
    (k_BadStep_init : PySem.W.keepIn K (.ref f_BadStep_init) = true)
    (a_BadPair_init : PySem.W.findIn K (.ref c_BadPair) "__init__" = some (some (.ref f_BadPair_init)))
    (t_BadPair_init : PySem.W.typeIn K (.ref f_BadPair_init) = some (.type "function"))
    (l_BadPair_init : K.lookup f_BadPair_init = some ⟨oc_BadPair_init, od_BadPair_init, .func (PySem.W.fnOf "__init__" "BadPair.__init__" (defArgs s_BadPair_init) (defBody s_BadPair_init) (defScope s_BadPair_init) .none kV_BadPair_init dc_BadPair_init pm_BadPair_init an_BadPair_init cd_BadPair_init ct_BadPair_init), sl_BadPair_init⟩)
    (cc_BadPair_init : PySem.W.codeIn K cd_BadPair_init "BadPair.__init__" = true)
    (k_BadPair_init : PySem.W.keepIn K (.ref f_BadPair_init) = true)
    (a_BadKind_init : PySem.W.findIn K (.ref c_BadKind) "__init__" = some (some (.ref f_BadKind_init)))
    (t_BadKind_init : PySem.W.typeIn K (.ref f_BadKind_init) = some (.type "function"))
    (l_BadKind_init : K.lookup f_BadKind_init = some ⟨oc_BadKind_init, od_BadKind_init, .func (PySem.W.fnOf "__init__" "BadKind.__init__" (defArgs s_BadKind_init) (defBody s_BadKind_init) (defScope s_BadKind_init) .none kV_BadKind_init dc_BadKind_init pm_BadKind_init an_BadKind_init cd_BadKind_init ct_BadKind_init), sl_BadKind_init⟩)
    (cc_BadKind_init : PySem.W.codeIn K cd_BadKind_init "BadKind.__init__" = true)
    (k_BadKind_init : PySem.W.keepIn K (.ref f_BadKind_init) = true)
    (a_is_int : PySem.W.nsIn K mainGlobals "is_int" = some (some (.ref f_is_int)))
    (l_is_int : K.lookup f_is_int = some ⟨oc_is_int, od_is_int, .func (PySem.W.fnOf "is_int" "is_int" (defArgs s_is_int) (defBody s_is_int) (defScope s_is_int) .none kV_is_int dc_is_int pm_is_int an_is_int cd_is_int ct_is_int), sl_is_int⟩)
    (cc_is_int : PySem.W.codeIn K cd_is_int "is_int" = true)
    (k_is_int : PySem.W.keepIn K (.ref f_is_int) = true)
    (a_is_part : PySem.W.nsIn K mainGlobals "is_part" = some (some (.ref f_is_part)))
    (l_is_part : K.lookup f_is_part = some ⟨oc_is_part, od_is_part, .func (PySem.W.fnOf "is_part" "is_part" (defArgs s_is_part) (defBody s_is_part) (defScope s_is_part) .none kV_is_part dc_is_part pm_is_part an_is_part cd_is_part ct_is_part), sl_is_part⟩)
    (cc_is_part : PySem.W.codeIn K cd_is_part "is_part" = true)
    (k_is_part : PySem.W.keepIn K (.ref f_is_part) = true)
    (a_is_pair_row : PySem.W.nsIn K mainGlobals "is_pair_row" = some (some (.ref f_is_pair_row)))
    (l_is_pair_row : K.lookup f_is_pair_row = some ⟨oc_is_pair_row, od_is_pair_row, .func (PySem.W.fnOf "is_pair_row" "is_pair_row" (defArgs s_is_pair_row) (defBody s_is_pair_row) (defScope s_is_pair_row) .none kV_is_pair_row dc_is_pair_row pm_is_pair_row an_is_pair_row cd_is_pair_row ct_is_pair_row), sl_is_pair_row⟩)
    (cc_is_pair_row : PySem.W.codeIn K cd_is_pair_row "is_pair_row" = true)
    (k_is_pair_row : PySem.W.keepIn K (.ref f_is_pair_row) = true)
    (a_normal_rows : PySem.W.nsIn K mainGlobals "normal_rows" = some (some (.ref f_normal_rows)))
    (l_normal_rows : K.lookup f_normal_rows = some ⟨oc_normal_rows, od_normal_rows, .func (PySem.W.fnOf "normal_rows" "normal_rows" (defArgs s_normal_rows) (defBody s_normal_rows) (defScope s_normal_rows) .none kV_normal_rows dc_normal_rows pm_normal_rows an_normal_rows cd_normal_rows ct_normal_rows), sl_normal_rows⟩)
    (cc_normal_rows : PySem.W.codeIn K cd_normal_rows "normal_rows" = true)
    (k_normal_rows : PySem.W.keepIn K (.ref f_normal_rows) = true)
    (a_are_alike_in_kind : PySem.W.nsIn K mainGlobals "are_alike_in_kind" = some (some (.ref f_are_alike_in_kind)))
    (l_are_alike_in_kind : K.lookup f_are_alike_in_kind = some ⟨oc_are_alike_in_kind, od_are_alike_in_kind, .func (PySem.W.fnOf "are_alike_in_kind" "are_alike_in_kind" (defArgs s_are_alike_in_kind) (defBody s_are_alike_in_kind) (defScope s_are_alike_in_kind) .none kV_are_alike_in_kind dc_are_alike_in_kind pm_are_alike_in_kind an_are_alike_in_kind cd_are_alike_in_kind ct_are_alike_in_kind), sl_are_alike_in_kind⟩)
    (cc_are_alike_in_kind : PySem.W.codeIn K cd_are_alike_in_kind "are_alike_in_kind" = true)
    (k_are_alike_in_kind : PySem.W.keepIn K (.ref f_are_alike_in_kind) = true)
    (a_is_instance : PySem.W.nsIn K mainGlobals "is_instance" = some (some (.ref f_is_instance)))
    (l_is_instance : K.lookup f_is_instance = some ⟨oc_is_instance, od_is_instance, .func (PySem.W.fnOf "is_instance" "is_instance" (defArgs s_is_instance) (defBody s_is_instance) (defScope s_is_instance) .none kV_is_instance dc_is_instance pm_is_instance an_is_instance cd_is_instance ct_is_instance), sl_is_instance⟩)
    (cc_is_instance : PySem.W.codeIn K cd_is_instance "is_instance" = true)
    (k_is_instance : PySem.W.keepIn K (.ref f_is_instance) = true)
    (a_Pair_init : PySem.W.findIn K (.ref c_Pair) "__init__" = some (some (.ref f_Pair_init)))
    (i_Pair_init : PySem.W.isFn K (.ref f_Pair_init) = true)
    (l_Pair_init : K.lookup f_Pair_init = some ⟨oc_Pair_init, od_Pair_init, .func (PySem.W.fnOf "__init__" "Pair.__init__" (defArgs s_Pair_init) (defBody s_Pair_init) (defScope s_Pair_init) .none kV_Pair_init dc_Pair_init pm_Pair_init an_Pair_init cd_Pair_init ct_Pair_init), sl_Pair_init⟩)
    (cc_Pair_init : PySem.W.codeIn K cd_Pair_init "Pair.__init__" = true)
    (k_Pair_init : PySem.W.keepIn K (.ref f_Pair_init) = true)
    (at_Pair_made : PySem.W.findCls K (.ref c_Pair) (.type "type") "made" = some (.get (.builtin "classmethod.__get__") (.ref p_Pair_made) .none (.ref c_Pair)))
    (rc_Pair_made : PySem.W.recIn K p_Pair_made "classmethod" = some (.ref f_Pair_made :: rs_Pair_made))
    (fi_Pair_made : PySem.W.fnIn K f_Pair_made = true)
    (l_Pair_made : K.lookup f_Pair_made = some ⟨oc_Pair_made, od_Pair_made, .func (PySem.W.fnOf "made" "Pair.made" (defArgs s_Pair_made) (defBody s_Pair_made) (defScope s_Pair_made) .none kV_Pair_made dc_Pair_made pm_Pair_made an_Pair_made cd_Pair_made ct_Pair_made), sl_Pair_made⟩)
    (cc_Pair_made : PySem.W.codeIn K cd_Pair_made "Pair.made" = true)
    (k_Pair_made : PySem.W.keepIn K (.ref f_Pair_made) = true)
    (a_Pair_eq : PySem.W.findIn K (.ref c_Pair) "__eq__" = some (some (.ref f_Pair_eq)))
    (i_Pair_eq : PySem.W.isFn K (.ref f_Pair_eq) = true)
    (l_Pair_eq : K.lookup f_Pair_eq = some ⟨oc_Pair_eq, od_Pair_eq, .func (PySem.W.fnOf "__eq__" "Pair.__eq__" (defArgs s_Pair_eq) (defBody s_Pair_eq) (defScope s_Pair_eq) .none kV_Pair_eq dc_Pair_eq pm_Pair_eq an_Pair_eq cd_Pair_eq ct_Pair_eq), sl_Pair_eq⟩)
    (cc_Pair_eq : PySem.W.codeIn K cd_Pair_eq "Pair.__eq__" = true)
    (k_Pair_eq : PySem.W.keepIn K (.ref f_Pair_eq) = true)
    (a_Pair_contains : PySem.W.findIn K (.ref c_Pair) "__contains__" = some (some (.ref f_Pair_contains)))
    (i_Pair_contains : PySem.W.isFn K (.ref f_Pair_contains) = true)
    (l_Pair_contains : K.lookup f_Pair_contains = some ⟨oc_Pair_contains, od_Pair_contains, .func (PySem.W.fnOf "__contains__" "Pair.__contains__" (defArgs s_Pair_contains) (defBody s_Pair_contains) (defScope s_Pair_contains) .none kV_Pair_contains dc_Pair_contains pm_Pair_contains an_Pair_contains cd_Pair_contains ct_Pair_contains), sl_Pair_contains⟩)
    (cc_Pair_contains : PySem.W.codeIn K cd_Pair_contains "Pair.__contains__" = true)
    (k_Pair_contains : PySem.W.keepIn K (.ref f_Pair_contains) = true)
    (a_law_digits : PySem.W.nsIn K mainGlobals "_law_digits" = some (some (.ref f_law_digits)))
    (l_law_digits : K.lookup f_law_digits = some ⟨oc_law_digits, od_law_digits, .func (PySem.W.fnOf "_law_digits" "_law_digits" (defArgs s_law_digits) (defBody s_law_digits) (defScope s_law_digits) .none kV_law_digits dc_law_digits pm_law_digits an_law_digits cd_law_digits ct_law_digits), sl_law_digits⟩)
    (cc_law_digits : PySem.W.codeIn K cd_law_digits "_law_digits" = true)
    (k_law_digits : PySem.W.keepIn K (.ref f_law_digits) = true)
    (a_law_take : PySem.W.nsIn K mainGlobals "_law_take" = some (some (.ref f_law_take)))
    (l_law_take : K.lookup f_law_take = some ⟨oc_law_take, od_law_take, .func (PySem.W.fnOf "_law_take" "_law_take" (defArgs s_law_take) (defBody s_law_take) (defScope s_law_take) .none kV_law_take dc_law_take pm_law_take an_law_take cd_law_take ct_law_take), sl_law_take⟩)
    (cc_law_take : PySem.W.codeIn K cd_law_take "_law_take" = true)
    (k_law_take : PySem.W.keepIn K (.ref f_law_take) = true)
    (a_law_number : PySem.W.nsIn K mainGlobals "_law_number" = some (some (.ref f_law_number)))
    (l_law_number : K.lookup f_law_number = some ⟨oc_law_number, od_law_number, .func (PySem.W.fnOf "_law_number" "_law_number" (defArgs s_law_number) (defBody s_law_number) (defScope s_law_number) .none kV_law_number dc_law_number pm_law_number an_law_number cd_law_number ct_law_number), sl_law_number⟩)
    (cc_law_number : PySem.W.codeIn K cd_law_number "_law_number" = true)
    (k_law_number : PySem.W.keepIn K (.ref f_law_number) = true)
    (a_law_drawn : PySem.W.nsIn K mainGlobals "_law_drawn" = some (some (.ref f_law_drawn)))
    (l_law_drawn : K.lookup f_law_drawn = some ⟨oc_law_drawn, od_law_drawn, .func (PySem.W.fnOf "_law_drawn" "_law_drawn" (defArgs s_law_drawn) (defBody s_law_drawn) (defScope s_law_drawn) .none kV_law_drawn dc_law_drawn pm_law_drawn an_law_drawn cd_law_drawn ct_law_drawn), sl_law_drawn⟩)
    (cc_law_drawn : PySem.W.codeIn K cd_law_drawn "_law_drawn" = true)
    (k_law_drawn : PySem.W.keepIn K (.ref f_law_drawn) = true)
    (a_law_oddity : PySem.W.nsIn K mainGlobals "_law_oddity" = some (some (.ref f_law_oddity)))
    (l_law_oddity : K.lookup f_law_oddity = some ⟨oc_law_oddity, od_law_oddity, .func (PySem.W.fnOf "_law_oddity" "_law_oddity" (defArgs s_law_oddity) (defBody s_law_oddity) (defScope s_law_oddity) .none kV_law_oddity dc_law_oddity pm_law_oddity an_law_oddity cd_law_oddity ct_law_oddity), sl_law_oddity⟩)
    (cc_law_oddity : PySem.W.codeIn K cd_law_oddity "_law_oddity" = true)
    (k_law_oddity : PySem.W.keepIn K (.ref f_law_oddity) = true)
    (a_law_refused : PySem.W.nsIn K mainGlobals "_law_refused" = some (some (.ref f_law_refused)))
    (l_law_refused : K.lookup f_law_refused = some ⟨oc_law_refused, od_law_refused, .func (PySem.W.fnOf "_law_refused" "_law_refused" (defArgs s_law_refused) (defBody s_law_refused) (defScope s_law_refused) .none kV_law_refused dc_law_refused pm_law_refused an_law_refused cd_law_refused ct_law_refused), sl_law_refused⟩)
    (cc_law_refused : PySem.W.codeIn K cd_law_refused "_law_refused" = true)
    (k_law_refused : PySem.W.keepIn K (.ref f_law_refused) = true)
    (a_law_refused_three : PySem.W.nsIn K mainGlobals "_law_refused_three" = some (some (.ref f_law_refused_three)))
    (l_law_refused_three : K.lookup f_law_refused_three = some ⟨oc_law_refused_three, od_law_refused_three, .func (PySem.W.fnOf "_law_refused_three" "_law_refused_three" (defArgs s_law_refused_three) (defBody s_law_refused_three) (defScope s_law_refused_three) .none kV_law_refused_three dc_law_refused_three pm_law_refused_three an_law_refused_three cd_law_refused_three ct_law_refused_three), sl_law_refused_three⟩)
    (cc_law_refused_three : PySem.W.codeIn K cd_law_refused_three "_law_refused_three" = true)
    (k_law_refused_three : PySem.W.keepIn K (.ref f_law_refused_three) = true)
    (a_law : PySem.W.nsIn K mainGlobals "law" = some (some (.ref f_law)))
    (l_law : K.lookup f_law = some ⟨oc_law, od_law, .func (PySem.W.fnOf "law" "law" (defArgs s_law) (defBody s_law) (defScope s_law) .none kV_law dc_law pm_law an_law cd_law ct_law), sl_law⟩)
    (cc_law : PySem.W.codeIn K cd_law "law" = true)
    (k_law : PySem.W.keepIn K (.ref f_law) = true)
    (n_BadStep : PySem.W.nsIn K mainGlobals "BadStep" = some (some (.ref c_BadStep)))
    (x_BadStep : K.lookup c_BadStep = some (excClassObj nm_BadStep q_BadStep c_BadStep N_BadStep bs_BadStep [.type "ValueError", .type "Exception", .type "BaseException", .type "object"] true sn_BadStep sub_BadStep ab_BadStep col_BadStep dd_BadStep m0_BadStep m1_BadStep m2_BadStep m3_BadStep m5_BadStep "ValueError.__new__"))
    (sa_BadStep : PySem.W.findIn K (.ref c_BadStep) "__setattr__" = some (some (.builtin "object.__setattr__")))
    (ga_BadStep : PySem.W.findIn K (.ref c_BadStep) "__getattribute__" = some (some (.builtin "BaseException.__getattribute__")))
    (gg_BadStep : PySem.W.findIn K (.ref c_BadStep) "__getattr__" = some none)
    (eC_BadStep : PySem.W.subIn K (.ref c_BadStep) (.type "BaseException") = some true)
    (tC_BadStep : PySem.W.typeIn K (.ref c_BadStep) = some (.type "type"))
    (kC_BadStep : PySem.W.keepIn K (.ref c_BadStep) = true)
    (hC_BadStep : PySem.W.hasDictIn K c_BadStep = true)
    (iC_BadStep : PySem.W.isClsIn K c_BadStep = true)
    (sC_BadStep : PySem.W.subIn K (.ref c_BadStep) (.ref c_BadStep) = some true)
    (z_BadStep_index : PySem.W.findIn K (.ref c_BadStep) "index" = some none)
    (n_BadPair : PySem.W.nsIn K mainGlobals "BadPair" = some (some (.ref c_BadPair)))
    (x_BadPair : K.lookup c_BadPair = some (excClassObj nm_BadPair q_BadPair c_BadPair N_BadPair bs_BadPair [.type "ValueError", .type "Exception", .type "BaseException", .type "object"] true sn_BadPair sub_BadPair ab_BadPair col_BadPair dd_BadPair m0_BadPair m1_BadPair m2_BadPair m3_BadPair m5_BadPair "ValueError.__new__"))
    (sa_BadPair : PySem.W.findIn K (.ref c_BadPair) "__setattr__" = some (some (.builtin "object.__setattr__")))
    (ga_BadPair : PySem.W.findIn K (.ref c_BadPair) "__getattribute__" = some (some (.builtin "BaseException.__getattribute__")))
    (gg_BadPair : PySem.W.findIn K (.ref c_BadPair) "__getattr__" = some none)
    (eC_BadPair : PySem.W.subIn K (.ref c_BadPair) (.type "BaseException") = some true)
    (tC_BadPair : PySem.W.typeIn K (.ref c_BadPair) = some (.type "type"))
    (kC_BadPair : PySem.W.keepIn K (.ref c_BadPair) = true)
    (hC_BadPair : PySem.W.hasDictIn K c_BadPair = true)
    (iC_BadPair : PySem.W.isClsIn K c_BadPair = true)
    (sC_BadPair : PySem.W.subIn K (.ref c_BadPair) (.ref c_BadPair) = some true)
    (va_BadPair : PySem.W.findIn K (.ref c_BadPair) "__class__" = some (some (.builtin "object.__class__")))
    (vn_BadPair : PySem.W.specialIn K (.builtin "object.__class__") "__get__" = some (some (.builtin "getset_descriptor.__get__")))
    (vt_BadPair : PySem.W.takesIn K (.builtin "object.__class__") = some true)
    (vm_BadPair : PySem.W.mroIn K c_BadPair (.type "object") = some true)
    (ks_BadPair_ValueError : PySem.W.subIn K (.ref c_BadPair) (.type "ValueError") = some true)
    (ks_BadPair_BadKind : PySem.W.subIn K (.ref c_BadPair) (.ref c_BadKind) = some false)
    (ks_BadPair_BadStep : PySem.W.subIn K (.ref c_BadPair) (.ref c_BadStep) = some false)
    (z_BadPair_index : PySem.W.findIn K (.ref c_BadPair) "index" = some none)
    (n_BadKind : PySem.W.nsIn K mainGlobals "BadKind" = some (some (.ref c_BadKind)))
    (x_BadKind : K.lookup c_BadKind = some (excClassObj nm_BadKind q_BadKind c_BadKind N_BadKind bs_BadKind [.type "ValueError", .type "Exception", .type "BaseException", .type "object"] true sn_BadKind sub_BadKind ab_BadKind col_BadKind dd_BadKind m0_BadKind m1_BadKind m2_BadKind m3_BadKind m5_BadKind "ValueError.__new__"))
    (sa_BadKind : PySem.W.findIn K (.ref c_BadKind) "__setattr__" = some (some (.builtin "object.__setattr__")))
    (ga_BadKind : PySem.W.findIn K (.ref c_BadKind) "__getattribute__" = some (some (.builtin "BaseException.__getattribute__")))
    (gg_BadKind : PySem.W.findIn K (.ref c_BadKind) "__getattr__" = some none)
    (eC_BadKind : PySem.W.subIn K (.ref c_BadKind) (.type "BaseException") = some true)
    (tC_BadKind : PySem.W.typeIn K (.ref c_BadKind) = some (.type "type"))
    (kC_BadKind : PySem.W.keepIn K (.ref c_BadKind) = true)
    (hC_BadKind : PySem.W.hasDictIn K c_BadKind = true)
    (iC_BadKind : PySem.W.isClsIn K c_BadKind = true)
    (sC_BadKind : PySem.W.subIn K (.ref c_BadKind) (.ref c_BadKind) = some true)
    (z_BadKind_kind : PySem.W.findIn K (.ref c_BadKind) "kind" = some none)
    (n_Pair : PySem.W.nsIn K mainGlobals "Pair" = some (some (.ref c_Pair)))
    (pg_Pair : PySem.W.plainGet K c_Pair Str.empty = true)
    (hd_Pair : PySem.W.hasDictIn K c_Pair = true)
    (po_Pair : PySem.W.plainOver K c_Pair = true)
    (sa_Pair : PySem.W.findIn K (.ref c_Pair) "__setattr__" = some (some (.builtin "object.__setattr__")))
    (ha_Pair : PySem.W.findIn K (.ref c_Pair) "__class__" = some (some (.builtin "object.__class__")))
    (hn_Pair : PySem.W.specialIn K (.builtin "object.__class__") "__get__" = some (some (.builtin "getset_descriptor.__get__")))
    (ht_Pair : PySem.W.takesIn K (.builtin "object.__class__") = some true)
    (hm_Pair : PySem.W.mroIn K c_Pair (.type "object") = some true)
    (na_Pair_rows : PySem.W.findIn K (.ref c_Pair) "rows" = some none)
    (na_Pair_apart : PySem.W.findIn K (.ref c_Pair) "apart" = some none)
    (mk_Pair : PySem.W.makesIn K c_Pair = true)
    (kc_Pair : PySem.W.keepIn K (.ref c_Pair) = true)
    (rd_Pair : PySem.W.readsIn K c_Pair (.type "type") = true)
    (gq_Pair : PySem.W.specialIn K (.ref c_Pair) "__getattribute__" = some (some (.builtin "type.__getattribute__")))
    (n_BEYOND : PySem.W.nsIn K mainGlobals "BEYOND" = some (some (.int 100000000000000000000 tk_BEYOND)))
    (b_ValueError : PySem.W.nsIn K mainGlobals "ValueError" = some none)
    (b_abs : PySem.W.nsIn K mainGlobals "abs" = some none)
    (b_any : PySem.W.nsIn K mainGlobals "any" = some none)
    (b_bool : PySem.W.nsIn K mainGlobals "bool" = some none)
    (b_enumerate : PySem.W.nsIn K mainGlobals "enumerate" = some none)
    (b_int : PySem.W.nsIn K mainGlobals "int" = some none)
    (b_isinstance : PySem.W.nsIn K mainGlobals "isinstance" = some none)
    (b_len : PySem.W.nsIn K mainGlobals "len" = some none)
    (b_list : PySem.W.nsIn K mainGlobals "list" = some none)
    (b_max : PySem.W.nsIn K mainGlobals "max" = some none)
    (b_min : PySem.W.nsIn K mainGlobals "min" = some none)
    (b_range : PySem.W.nsIn K mainGlobals "range" = some none)
    (b_repr : PySem.W.nsIn K mainGlobals "repr" = some none)
    (b_str : PySem.W.nsIn K mainGlobals "str" = some none)
    (b_tuple : PySem.W.nsIn K mainGlobals "tuple" = some none)
    (b_zip : PySem.W.nsIn K mainGlobals "zip" = some none) :
    ∃ fd : FuncData, (∀ (s : Shared) (u : Value), BindsTo s fd ⟨[u], []⟩ [("script", u)]) ∧ ∀ base : Heap, K.In base → base.Ns mainGlobals mg → FnZ P w K mg base 8 fa fd ["script"] (spLaw K) := by
  have e := hfa.symm.trans (PySem.W.mg_of X G a_law)
  cases e
  have T : Txt K mg ⟨f_BadStep_init, _, f_BadPair_init, _, f_BadKind_init, _, f_is_int, _, f_is_part, _, f_is_pair_row, _, f_normal_rows, _, f_are_alike_in_kind, _, f_is_instance, _, f_Pair_init, _, f_Pair_made, _, f_Pair_eq, _, f_Pair_contains, _, f_law_digits, _, f_law_take, _, f_law_number, _, f_law_drawn, _, f_law_oddity, _, f_law_refused, _, f_law_refused_three, _, _, _, c_BadStep, c_BadPair, c_BadKind, c_Pair, p_Pair_made⟩ := {
    f_BadStep_init := fun_mk (st := s_BadStep_init) l_BadStep_init cc_BadStep_init k_BadStep_init,
    e_BadStep_init := (fun_mk (st := s_BadStep_init) l_BadStep_init cc_BadStep_init k_BadStep_init).binds (ps := ["self", "index"]) fun _ _ _ _ _ _ us hl => match us, hl with | [_, _], _ => rfl,
    f_BadPair_init := fun_mk (st := s_BadPair_init) l_BadPair_init cc_BadPair_init k_BadPair_init,
    e_BadPair_init := (fun_mk (st := s_BadPair_init) l_BadPair_init cc_BadPair_init k_BadPair_init).binds (ps := ["self", "index"]) fun _ _ _ _ _ _ us hl => match us, hl with | [_, _], _ => rfl,
    f_BadKind_init := fun_mk (st := s_BadKind_init) l_BadKind_init cc_BadKind_init k_BadKind_init,
    e_BadKind_init := (fun_mk (st := s_BadKind_init) l_BadKind_init cc_BadKind_init k_BadKind_init).binds (ps := ["self", "kind"]) fun _ _ _ _ _ _ us hl => match us, hl with | [_, _], _ => rfl,
    f_is_int := fun_mk (st := s_is_int) l_is_int cc_is_int k_is_int,
    e_is_int := (fun_mk (st := s_is_int) l_is_int cc_is_int k_is_int).binds (ps := ["thing"]) fun _ _ _ _ _ _ us hl => match us, hl with | [_], _ => rfl,
    g_is_int := PySem.W.mg_of X G a_is_int,
    k_is_int := k_is_int,
    f_is_part := fun_mk (st := s_is_part) l_is_part cc_is_part k_is_part,
    e_is_part := (fun_mk (st := s_is_part) l_is_part cc_is_part k_is_part).binds (ps := ["thing"]) fun _ _ _ _ _ _ us hl => match us, hl with | [_], _ => rfl,
    g_is_part := PySem.W.mg_of X G a_is_part,
    k_is_part := k_is_part,
    f_is_pair_row := fun_mk (st := s_is_pair_row) l_is_pair_row cc_is_pair_row k_is_pair_row,
    e_is_pair_row := (fun_mk (st := s_is_pair_row) l_is_pair_row cc_is_pair_row k_is_pair_row).binds (ps := ["thing"]) fun _ _ _ _ _ _ us hl => match us, hl with | [_], _ => rfl,
    g_is_pair_row := PySem.W.mg_of X G a_is_pair_row,
    k_is_pair_row := k_is_pair_row,
    f_normal_rows := fun_mk (st := s_normal_rows) l_normal_rows cc_normal_rows k_normal_rows,
    e_normal_rows := (fun_mk (st := s_normal_rows) l_normal_rows cc_normal_rows k_normal_rows).binds (ps := ["rows"]) fun _ _ _ _ _ _ us hl => match us, hl with | [_], _ => rfl,
    g_normal_rows := PySem.W.mg_of X G a_normal_rows,
    k_normal_rows := k_normal_rows,
    f_are_alike_in_kind := fun_mk (st := s_are_alike_in_kind) l_are_alike_in_kind cc_are_alike_in_kind k_are_alike_in_kind,
    e_are_alike_in_kind := (fun_mk (st := s_are_alike_in_kind) l_are_alike_in_kind cc_are_alike_in_kind k_are_alike_in_kind).binds (ps := ["wide", "given"]) fun _ _ _ _ _ _ us hl => match us, hl with | [_, _], _ => rfl,
    g_are_alike_in_kind := PySem.W.mg_of X G a_are_alike_in_kind,
    k_are_alike_in_kind := k_are_alike_in_kind,
    f_is_instance := fun_mk (st := s_is_instance) l_is_instance cc_is_instance k_is_instance,
    e_is_instance := (fun_mk (st := s_is_instance) l_is_instance cc_is_instance k_is_instance).binds (ps := ["wide", "rows"]) fun _ _ _ _ _ _ us hl => match us, hl with | [_, _], _ => rfl,
    g_is_instance := PySem.W.mg_of X G a_is_instance,
    k_is_instance := k_is_instance,
    f_Pair_init := fun_mk (st := s_Pair_init) l_Pair_init cc_Pair_init k_Pair_init,
    f_Pair_made := fun_mk (st := s_Pair_made) l_Pair_made cc_Pair_made k_Pair_made,
    e_Pair_made := (fun_mk (st := s_Pair_made) l_Pair_made cc_Pair_made k_Pair_made).binds (ps := ["cls", "rows"]) fun _ _ _ _ _ _ us hl => match us, hl with | [_, _], _ => rfl,
    f_Pair_eq := fun_mk (st := s_Pair_eq) l_Pair_eq cc_Pair_eq k_Pair_eq,
    e_Pair_eq := (fun_mk (st := s_Pair_eq) l_Pair_eq cc_Pair_eq k_Pair_eq).binds (ps := ["self", "other"]) fun _ _ _ _ _ _ us hl => match us, hl with | [_, _], _ => rfl,
    f_Pair_contains := fun_mk (st := s_Pair_contains) l_Pair_contains cc_Pair_contains k_Pair_contains,
    e_Pair_contains := (fun_mk (st := s_Pair_contains) l_Pair_contains cc_Pair_contains k_Pair_contains).binds (ps := ["self", "other"]) fun _ _ _ _ _ _ us hl => match us, hl with | [_, _], _ => rfl,
    f_law_digits := fun_mk (st := s_law_digits) l_law_digits cc_law_digits k_law_digits,
    e_law_digits := (fun_mk (st := s_law_digits) l_law_digits cc_law_digits k_law_digits).binds (ps := ["script", "at"]) fun _ _ _ _ _ _ us hl => match us, hl with | [_, _], _ => rfl,
    g_law_digits := PySem.W.mg_of X G a_law_digits,
    k_law_digits := k_law_digits,
    f_law_take := fun_mk (st := s_law_take) l_law_take cc_law_take k_law_take,
    e_law_take := (fun_mk (st := s_law_take) l_law_take cc_law_take k_law_take).binds (ps := ["bag", "many"]) fun _ _ _ _ _ _ us hl => match us, hl with | [_, _], _ => rfl,
    g_law_take := PySem.W.mg_of X G a_law_take,
    k_law_take := k_law_take,
    f_law_number := fun_mk (st := s_law_number) l_law_number cc_law_number k_law_number,
    e_law_number := (fun_mk (st := s_law_number) l_law_number cc_law_number k_law_number).binds (ps := ["bag"]) fun _ _ _ _ _ _ us hl => match us, hl with | [_], _ => rfl,
    g_law_number := PySem.W.mg_of X G a_law_number,
    k_law_number := k_law_number,
    f_law_drawn := fun_mk (st := s_law_drawn) l_law_drawn cc_law_drawn k_law_drawn,
    e_law_drawn := (fun_mk (st := s_law_drawn) l_law_drawn cc_law_drawn k_law_drawn).binds (ps := ["bag", "many"]) fun _ _ _ _ _ _ us hl => match us, hl with | [_, _], _ => rfl,
    g_law_drawn := PySem.W.mg_of X G a_law_drawn,
    k_law_drawn := k_law_drawn,
    f_law_oddity := fun_mk (st := s_law_oddity) l_law_oddity cc_law_oddity k_law_oddity,
    e_law_oddity := (fun_mk (st := s_law_oddity) l_law_oddity cc_law_oddity k_law_oddity).binds (ps := ["bag"]) fun _ _ _ _ _ _ us hl => match us, hl with | [_], _ => rfl,
    g_law_oddity := PySem.W.mg_of X G a_law_oddity,
    k_law_oddity := k_law_oddity,
    f_law_refused := fun_mk (st := s_law_refused) l_law_refused cc_law_refused k_law_refused,
    e_law_refused := (fun_mk (st := s_law_refused) l_law_refused cc_law_refused k_law_refused).binds (ps := ["rows", "due"]) fun _ _ _ _ _ _ us hl => match us, hl with | [_, _], _ => rfl,
    g_law_refused := PySem.W.mg_of X G a_law_refused,
    k_law_refused := k_law_refused,
    f_law_refused_three := fun_mk (st := s_law_refused_three) l_law_refused_three cc_law_refused_three k_law_refused_three,
    e_law_refused_three := (fun_mk (st := s_law_refused_three) l_law_refused_three cc_law_refused_three k_law_refused_three).binds (ps := ["rows", "due"]) fun _ _ _ _ _ _ us hl => match us, hl with | [_, _], _ => rfl,
    g_law_refused_three := PySem.W.mg_of X G a_law_refused_three,
    k_law_refused_three := k_law_refused_three,
    f_law := fun_mk (st := s_law) l_law cc_law k_law,
    e_law := (fun_mk (st := s_law) l_law cc_law k_law).binds (ps := ["script"]) fun _ _ _ _ _ _ us hl => match us, hl with | [_], _ => rfl,
    g_law := PySem.W.mg_of X G a_law,
    k_law := k_law,
    g_BadStep := PySem.W.mg_of X G n_BadStep,
    o_BadStep := ⟨⟨_, _, _, _, _, _, _, _, _, _, _, _, _, _, _, x_BadStep, by decide +kernel⟩, sa_BadStep, eC_BadStep, tC_BadStep, kC_BadStep⟩,
    x_BadStep := ⟨ga_BadStep, gg_BadStep, eC_BadStep, hC_BadStep⟩,
    h_BadStep := exm_own eC_BadStep iC_BadStep tC_BadStep sC_BadStep,
    i_BadStep := a_BadStep_init,
    t_BadStep := t_BadStep_init,
    a_BadStep_index := z_BadStep_index,
    g_BadPair := PySem.W.mg_of X G n_BadPair,
    o_BadPair := ⟨⟨_, _, _, _, _, _, _, _, _, _, _, _, _, _, _, x_BadPair, by decide +kernel⟩, sa_BadPair, eC_BadPair, tC_BadPair, kC_BadPair⟩,
    x_BadPair := ⟨ga_BadPair, gg_BadPair, eC_BadPair, hC_BadPair⟩,
    h_BadPair := exm_own eC_BadPair iC_BadPair tC_BadPair sC_BadPair,
    i_BadPair := a_BadPair_init,
    t_BadPair := t_BadPair_init,
    xv_BadPair := ⟨⟨ga_BadPair, gg_BadPair, eC_BadPair, hC_BadPair⟩, iC_BadPair, va_BadPair, vn_BadPair, vt_BadPair, vm_BadPair⟩,
    kx_BadPair_BadPair := kit_one,
    kx_BadPair_ValueError := kit_bt (by decide +kernel) ks_BadPair_ValueError,
    kx_BadPair_BadKind := kit_cls (kit_ne sC_BadPair ks_BadPair_BadKind) iC_BadKind tC_BadKind ks_BadPair_BadKind,
    kx_BadPair_BadStep := kit_cls (kit_ne sC_BadPair ks_BadPair_BadStep) iC_BadStep tC_BadStep ks_BadPair_BadStep,
    a_BadPair_index := z_BadPair_index,
    g_BadKind := PySem.W.mg_of X G n_BadKind,
    o_BadKind := ⟨⟨_, _, _, _, _, _, _, _, _, _, _, _, _, _, _, x_BadKind, by decide +kernel⟩, sa_BadKind, eC_BadKind, tC_BadKind, kC_BadKind⟩,
    x_BadKind := ⟨ga_BadKind, gg_BadKind, eC_BadKind, hC_BadKind⟩,
    h_BadKind := exm_own eC_BadKind iC_BadKind tC_BadKind sC_BadKind,
    i_BadKind := a_BadKind_init,
    t_BadKind := t_BadKind_init,
    a_BadKind_kind := z_BadKind_kind,
    g_Pair := PySem.W.mg_of X G n_Pair,
    cl_Pair := ⟨pg_Pair, hd_Pair, po_Pair, sa_Pair⟩,
    ci_Pair := ⟨⟨pg_Pair, hd_Pair, po_Pair, sa_Pair⟩, ha_Pair, hn_Pair, ht_Pair, hm_Pair⟩,
    na_Pair_rows := na_Pair_rows,
    na_Pair_apart := na_Pair_apart,
    m_Pair := ⟨mk_Pair, a_Pair_init, i_Pair_init, kc_Pair⟩,
    cm_Pair_made := ⟨at_Pair_made, ⟨_, rc_Pair_made⟩, fi_Pair_made⟩,
    a_Pair_eq := a_Pair_eq,
    i_Pair_eq := i_Pair_eq,
    a_Pair_contains := a_Pair_contains,
    i_Pair_contains := i_Pair_contains,
    cr_Pair := ⟨rd_Pair, gq_Pair⟩,
    n_BEYOND := ⟨_, PySem.W.mg_of X G n_BEYOND⟩,
    b_ValueError := PySem.W.mg_none_of X G b_ValueError,
    b_abs := PySem.W.mg_none_of X G b_abs,
    b_any := PySem.W.mg_none_of X G b_any,
    b_bool := PySem.W.mg_none_of X G b_bool,
    b_enumerate := PySem.W.mg_none_of X G b_enumerate,
    b_int := PySem.W.mg_none_of X G b_int,
    b_isinstance := PySem.W.mg_none_of X G b_isinstance,
    b_len := PySem.W.mg_none_of X G b_len,
    b_list := PySem.W.mg_none_of X G b_list,
    b_max := PySem.W.mg_none_of X G b_max,
    b_min := PySem.W.mg_none_of X G b_min,
    b_range := PySem.W.mg_none_of X G b_range,
    b_repr := PySem.W.mg_none_of X G b_repr,
    b_str := PySem.W.mg_none_of X G b_str,
    b_tuple := PySem.W.mg_none_of X G b_tuple,
    b_zip := PySem.W.mg_none_of X G b_zip }
  exact ⟨_, fun _ _ => .of_eq rfl, fun base _ _ => ok_law T⟩
end Z
open PySem PySem.W PyProof.Rows
set_option maxRecDepth 100000 in
set_option maxHeartbeats 0 in
theorem PySem.Challenge.cw_falsedefaults_k40_pairs_refused_holds : PySem.Challenge.rw_falsedefaults_k40_pairs_refused.Holds := by
  w_on; o_law; k_head; (case hw => w_witness2)
  k_fill
  refine Z.law_walk (l := PySem.Challenge.rw_falsedefaults_k40_pairs_refused) (k := 8) rfl rfl ⟨rfl, by decide, by decide⟩ (fun w h Y => PySem.W.kIn_of Y) ?F
  case F =>
    intro w mg fa h KX G hmg
    refine' Z.all_mk KX G hmg ?a_BadStep_init ?t_BadStep_init ?l_BadStep_init ?cc_BadStep_init ?k_BadStep_init ?a_BadPair_init ?t_BadPair_init ?l_BadPair_init ?cc_BadPair_init ?k_BadPair_init ?a_BadKind_init ?t_BadKind_init ?l_BadKind_init ?cc_BadKind_init ?k_BadKind_init ?a_is_int ?l_is_int ?cc_is_int ?k_is_int ?a_is_part ?l_is_part ?cc_is_part ?k_is_part ?a_is_pair_row ?l_is_pair_row ?cc_is_pair_row ?k_is_pair_row ?a_normal_rows ?l_normal_rows ?cc_normal_rows ?k_normal_rows ?a_are_alike_in_kind ?l_are_alike_in_kind ?cc_are_alike_in_kind ?k_are_alike_in_kind ?a_is_instance ?l_is_instance ?cc_is_instance ?k_is_instance ?a_Pair_init ?i_Pair_init ?l_Pair_init ?cc_Pair_init ?k_Pair_init ?at_Pair_made ?rc_Pair_made ?fi_Pair_made ?l_Pair_made ?cc_Pair_made ?k_Pair_made ?a_Pair_eq ?i_Pair_eq ?l_Pair_eq ?cc_Pair_eq ?k_Pair_eq ?a_Pair_contains ?i_Pair_contains ?l_Pair_contains ?cc_Pair_contains ?k_Pair_contains ?a_law_digits ?l_law_digits ?cc_law_digits ?k_law_digits ?a_law_take ?l_law_take ?cc_law_take ?k_law_take ?a_law_number ?l_law_number ?cc_law_number ?k_law_number ?a_law_drawn ?l_law_drawn ?cc_law_drawn ?k_law_drawn ?a_law_oddity ?l_law_oddity ?cc_law_oddity ?k_law_oddity ?a_law_refused ?l_law_refused ?cc_law_refused ?k_law_refused ?a_law_refused_three ?l_law_refused_three ?cc_law_refused_three ?k_law_refused_three ?a_law ?l_law ?cc_law ?k_law ?n_BadStep ?x_BadStep ?sa_BadStep ?ga_BadStep ?gg_BadStep ?eC_BadStep ?tC_BadStep ?kC_BadStep ?hC_BadStep ?iC_BadStep ?sC_BadStep ?z_BadStep_index ?n_BadPair ?x_BadPair ?sa_BadPair ?ga_BadPair ?gg_BadPair ?eC_BadPair ?tC_BadPair ?kC_BadPair ?hC_BadPair ?iC_BadPair ?sC_BadPair ?va_BadPair ?vn_BadPair ?vt_BadPair ?vm_BadPair ?ks_BadPair_ValueError ?ks_BadPair_BadKind ?ks_BadPair_BadStep ?z_BadPair_index ?n_BadKind ?x_BadKind ?sa_BadKind ?ga_BadKind ?gg_BadKind ?eC_BadKind ?tC_BadKind ?kC_BadKind ?hC_BadKind ?iC_BadKind ?sC_BadKind ?z_BadKind_kind ?n_Pair ?pg_Pair ?hd_Pair ?po_Pair ?sa_Pair ?ha_Pair ?hn_Pair ?ht_Pair ?hm_Pair ?na_Pair_rows ?na_Pair_apart ?mk_Pair ?kc_Pair ?rd_Pair ?gq_Pair ?n_BEYOND ?b_ValueError ?b_abs ?b_any ?b_bool ?b_enumerate ?b_int ?b_isinstance ?b_len ?b_list ?b_max ?b_min ?b_range ?b_repr ?b_str ?b_tuple ?b_zip
    (case n_BadStep => k_is)
    (case n_BadPair => k_is)
    (case n_BadKind => k_is)
    (case n_Pair => k_is)
    (case a_BadStep_init => k_is)
    (case t_BadStep_init => k_is)
    (case l_BadStep_init => k_is)
    (case cc_BadStep_init => k_is)
    (case k_BadStep_init => k_is)
    (case a_BadPair_init => k_is)
    (case t_BadPair_init => k_is)
    (case l_BadPair_init => k_is)
    (case cc_BadPair_init => k_is)
    (case k_BadPair_init => k_is)
    (case a_BadKind_init => k_is)
    (case t_BadKind_init => k_is)
    (case l_BadKind_init => k_is)
    (case cc_BadKind_init => k_is)
    (case k_BadKind_init => k_is)
    (case a_is_int => k_is)
    (case l_is_int => k_is)
    (case cc_is_int => k_is)
    (case k_is_int => k_is)
    (case a_is_part => k_is)
    (case l_is_part => k_is)
    (case cc_is_part => k_is)
    (case k_is_part => k_is)
    (case a_is_pair_row => k_is)
    (case l_is_pair_row => k_is)
    (case cc_is_pair_row => k_is)
    (case k_is_pair_row => k_is)
    (case a_normal_rows => k_is)
    (case l_normal_rows => k_is)
    (case cc_normal_rows => k_is)
    (case k_normal_rows => k_is)
    (case a_are_alike_in_kind => k_is)
    (case l_are_alike_in_kind => k_is)
    (case cc_are_alike_in_kind => k_is)
    (case k_are_alike_in_kind => k_is)
    (case a_is_instance => k_is)
    (case l_is_instance => k_is)
    (case cc_is_instance => k_is)
    (case k_is_instance => k_is)
    (case a_Pair_init => k_is)
    (case i_Pair_init => k_is)
    (case l_Pair_init => k_is)
    (case cc_Pair_init => k_is)
    (case k_Pair_init => k_is)
    (case at_Pair_made => k_is)
    (case rc_Pair_made => k_is)
    (case fi_Pair_made => k_is)
    (case l_Pair_made => k_is)
    (case cc_Pair_made => k_is)
    (case k_Pair_made => k_is)
    (case a_Pair_eq => k_is)
    (case i_Pair_eq => k_is)
    (case l_Pair_eq => k_is)
    (case cc_Pair_eq => k_is)
    (case k_Pair_eq => k_is)
    (case a_Pair_contains => k_is)
    (case i_Pair_contains => k_is)
    (case l_Pair_contains => k_is)
    (case cc_Pair_contains => k_is)
    (case k_Pair_contains => k_is)
    (case a_law_digits => k_is)
    (case l_law_digits => k_is)
    (case cc_law_digits => k_is)
    (case k_law_digits => k_is)
    (case a_law_take => k_is)
    (case l_law_take => k_is)
    (case cc_law_take => k_is)
    (case k_law_take => k_is)
    (case a_law_number => k_is)
    (case l_law_number => k_is)
    (case cc_law_number => k_is)
    (case k_law_number => k_is)
    (case a_law_drawn => k_is)
    (case l_law_drawn => k_is)
    (case cc_law_drawn => k_is)
    (case k_law_drawn => k_is)
    (case a_law_oddity => k_is)
    (case l_law_oddity => k_is)
    (case cc_law_oddity => k_is)
    (case k_law_oddity => k_is)
    (case a_law_refused => k_is)
    (case l_law_refused => k_is)
    (case cc_law_refused => k_is)
    (case k_law_refused => k_is)
    (case a_law_refused_three => k_is)
    (case l_law_refused_three => k_is)
    (case cc_law_refused_three => k_is)
    (case k_law_refused_three => k_is)
    (case a_law => k_is)
    (case l_law => k_is)
    (case cc_law => k_is)
    (case k_law => k_is)
    (case x_BadStep => k_is)
    (case sa_BadStep => k_is)
    (case ga_BadStep => k_is)
    (case gg_BadStep => k_is)
    (case eC_BadStep => k_is)
    (case tC_BadStep => k_is)
    (case kC_BadStep => k_is)
    (case hC_BadStep => k_is)
    (case iC_BadStep => k_is)
    (case sC_BadStep => first | rfl | k_is)
    (case z_BadStep_index => k_is)
    (case x_BadPair => k_is)
    (case sa_BadPair => k_is)
    (case ga_BadPair => k_is)
    (case gg_BadPair => k_is)
    (case eC_BadPair => k_is)
    (case tC_BadPair => k_is)
    (case kC_BadPair => k_is)
    (case hC_BadPair => k_is)
    (case iC_BadPair => k_is)
    (case sC_BadPair => first | rfl | k_is)
    (case va_BadPair => k_is)
    (case vn_BadPair => k_is)
    (case vt_BadPair => k_is)
    (case vm_BadPair => k_is)
    (case ks_BadPair_ValueError => k_is)
    (case ks_BadPair_BadKind => k_is)
    (case ks_BadPair_BadStep => k_is)
    (case z_BadPair_index => k_is)
    (case x_BadKind => k_is)
    (case sa_BadKind => k_is)
    (case ga_BadKind => k_is)
    (case gg_BadKind => k_is)
    (case eC_BadKind => k_is)
    (case tC_BadKind => k_is)
    (case kC_BadKind => k_is)
    (case hC_BadKind => k_is)
    (case iC_BadKind => k_is)
    (case sC_BadKind => first | rfl | k_is)
    (case z_BadKind_kind => k_is)
    (case pg_Pair => k_is)
    (case hd_Pair => k_is)
    (case po_Pair => k_is)
    (case sa_Pair => k_is)
    (case ha_Pair => k_is)
    (case hn_Pair => k_is)
    (case ht_Pair => k_is)
    (case hm_Pair => k_is)
    (case na_Pair_rows => k_is)
    (case na_Pair_apart => k_is)
    (case mk_Pair => k_is)
    (case kc_Pair => k_is)
    (case rd_Pair => k_is)
    (case gq_Pair => k_is)
    (case n_BEYOND => k_is)
    (case b_ValueError => k_is)
    (case b_abs => k_is)
    (case b_any => k_is)
    (case b_bool => k_is)
    (case b_enumerate => k_is)
    (case b_int => k_is)
    (case b_isinstance => k_is)
    (case b_len => k_is)
    (case b_list => k_is)
    (case b_max => k_is)
    (case b_min => k_is)
    (case b_range => k_is)
    (case b_repr => k_is)
    (case b_str => k_is)
    (case b_tuple => k_is)
    (case b_zip => k_is)
