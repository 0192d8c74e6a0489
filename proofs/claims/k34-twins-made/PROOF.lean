import PyProof.Rows.All
import Wide.All
import OpenK.AllK
import Wide.FinOn
import HandS.ForMost
import HandS.ForExc
import HandS.IsInst
import HandS.ExcInit
import HandS.ExcField
import HandS.Wide
import HandS.Flow
import HandS.Style
import HandS.More
import HandS.Star
import HandS.ClsMeth
import HandS.OwnEq
import HandS.FStr
import HandS.SetKeys
import HandS.SetBool
import HandS.Conv
import HandS.DictComp
import HandS.Walk
import HandS.Ends
import KE.GoesMore
import KE.GoesEnum
import HandS.Zip
import HandS.CallLocal
import HandS.Small
import HandS.Text
import HandS.Codes
import HandS.ExcValue
import KE.KExcIs
import HandS.Deep
import PyProof.FactsAll.dict_1
import PyProof.ReprRoads
import HandS.Defaults
import HandS.MakeKwOnly
import HandS.Strs
import HandS.SetFor
import HandS.Property
import HandS.Lambda
import HandS.EndTab
import KE.KDictDisplayH
import HandS.FltList
import HandS.TryOnly
import HandS.Flt
import KE.KStateDown
import HandS.Head0
import HandS.Head1
import HandS.Head2
import PySem.Challenge.RW_falsedefaults_k34_twins_made
set_option Elab.async false
set_option linter.all false
set_option maxRecDepth 100000
set_option maxHeartbeats 4000000
set_option maxHeartbeats 1000000
set_option maxHeartbeats 2000000
namespace Z
open PySem PySem.Spec PyProof.Rows L2
abbrev St := L2.St

/-! ### operators, whatever the kinds -/
def zAdd : R2 := fun x y H Q => match x, y with
  | .int i, .int j => Q (.int (i + j)) H
  | .str i, .str j => i.length + j.length ≤ sizeLine ∧ Q (.str (i ++ j)) H
  | .ref l, .ref b => ∃ xs zs, H l = some (.lst xs) ∧ H b = some (.lst zs) ∧ xs.length + zs.length ≤ sizeLine ∧ ∀ p, H p = none → Q (.ref p) (upd H p (.lst (xs ++ zs)))
  | _, _ => False
def zSub : R2 := fun x y H Q => match x, y with
  | .int i, .int j => Q (.int (i - j)) H
  | _, _ => False
def zMul : R2 := fun x y H Q => match x, y with
  | .int i, .int j => CMul i j ∧ Q (.int (i * j)) H
  | .str x, .int n => MulOk x n ∧ Q (.str (Txt.mul x n)) H
  | .ref l, .int k => ∃ xs, H l = some (.lst xs) ∧ -(2 ^ 63) ≤ k ∧ k < 2 ^ 63 ∧ xs.length * k.toNat ≤ sizeLine ∧ ∀ p, H p = none → Q (.ref p) (upd H p (.lst (List.replicate k.toNat xs).flatten))
  | _, _ => False
def zMod : R2 := fun x y H Q => match x, y with
  | .int i, .int j => 0 < j ∧ Q (.int (i % j)) H
  | _, _ => False
def zFdiv : R2 := fun x y H Q => match x, y with
  | .int i, .int j => CDivW i j ∧ Q (.int (i / j)) H
  | _, _ => False
def zPow : R2 := fun x y H Q => match x, y with
  | .int i, .int j => CPow i j ∧ Q (.int (i ^ j.toNat)) H
  | _, _ => False
def zLt : R2 := fun x y H Q => match x, y with
  | .int i, .int j => Q (.bl (decide (i < j))) H
  | _, _ => False
def zLe : R2 := fun x y H Q => match x, y with
  | .int i, .int j => Q (.bl (decide (i ≤ j))) H
  | _, _ => False
def zGt : R2 := fun x y H Q => match x, y with
  | .int i, .int j => Q (.bl (decide (j < i))) H
  | _, _ => False
def zGe : R2 := fun x y H Q => match x, y with
  | .int i, .int j => Q (.bl (decide (j ≤ i))) H
  | _, _ => False
def zIs : R2 := fun x y H Q => y = .non ∧ Q (.bl (decide (x = .non))) H
def zIsnt : R2 := fun x y H Q => y = .non ∧ Q (.bl (!decide (x = .non))) H
/-- == of scalars of any kinds; else of data -/
def zEq (K : PySem.W.Frag) : R2 := fun x y H Q => (scal x y = true ∧ Q (.bl (decide (x = y))) H) ∨ rEqD K x y H Q
def zNe (K : PySem.W.Frag) : R2 := fun x y H Q => (scal x y = true ∧ Q (.bl (!decide (x = y))) H) ∨ rNeD K x y H Q
/-- in: one sign in a text; a flat thing in a list or a tuple -/
def zIn (K : PySem.W.Frag) : R2 := fun x y H Q => (∃ (c : Nat) (z : Str), x = .str ⟨#[c]⟩ ∧ y = .str z ∧ Q (.bl (decide (c ∈ z.cps.toList))) H) ∨ rIn K false x y H Q
def zNin (K : PySem.W.Frag) : R2 := fun x y H Q => (∃ (c : Nat) (z : Str), x = .str ⟨#[c]⟩ ∧ y = .str z ∧ Q (.bl (!decide (c ∈ z.cps.toList))) H) ∨ rIn K true x y H Q
def zIx (K : PySem.W.Frag) : R2 := fun x y H Q => match x, y with
  | .ref p, .int i => ∃ xs v, (SqL K H p xs ∨ SqT K H p xs) ∧ atI xs i = some v ∧ Q v H
  | .str z, .int i => z.length ≤ sizeLine ∧ ∃ c, atI z.cps.toList i = some c ∧ Q (.str ⟨#[c]⟩) H
  | _, _ => False
section
variable {X : Cx}
theorem op_zAdd : OpR X (binaryOp .Add) zAdd := by
  intro pins s σ H x y v u Q I rx ry h
  unfold zAdd at h
  split at h
  · exact op_add pins s σ H _ _ v u Q I rx ry ⟨_, _, rfl, rfl, h⟩
  · exact op_add_str pins s σ H _ _ v u Q I rx ry ⟨_, _, rfl, rfl, h⟩
  · obtain ⟨xs, zs, h1, h2, h3, h4⟩ := h
    exact op_cat pins s σ H _ _ v u Q I rx ry ⟨_, _, _, _, rfl, rfl, h1, h2, h3, h4⟩
  · exact h.elim
theorem op_zSub : OpR X (binaryOp .Sub) zSub := by
  intro pins s σ H x y v u Q I rx ry h
  unfold zSub at h
  split at h
  · exact op_sub pins s σ H _ _ v u Q I rx ry ⟨_, _, rfl, rfl, h⟩
  · exact h.elim
theorem op_zMul : OpR X (binaryOp .Mult) zMul := by
  intro pins s σ H x y v u Q I rx ry h
  unfold zMul at h
  split at h
  · exact op_mul pins s σ H _ _ v u Q I rx ry ⟨_, _, rfl, rfl, h.1, h.2⟩
  · obtain ⟨t, rfl⟩ := rx
    obtain ⟨t', rfl⟩ := ry
    exact SB.mul h.1 fun t2 k => ⟨.str _, H, I.tok _, ⟨_, rfl⟩, h.2⟩
  · obtain ⟨xs, h1, h2, h3, h4, h5⟩ := h
    exact op_rep pins s σ H _ _ v u Q I rx ry ⟨_, _, _, rfl, rfl, h1, h2, h3, h4, h5⟩
  · exact h.elim
theorem op_zMod : OpR X (binaryOp .Mod) zMod := by
  intro pins s σ H x y v u Q I rx ry h
  unfold zMod at h
  split at h
  · exact op_mod pins s σ H _ _ v u Q I rx ry ⟨_, _, rfl, rfl, h.1, h.2⟩
  · exact h.elim
theorem op_zFdiv : OpR X (binaryOp .FloorDiv) zFdiv := by
  intro pins s σ H x y v u Q I rx ry h
  unfold zFdiv at h
  split at h
  · exact op_fdivW pins s σ H _ _ v u Q I rx ry ⟨_, _, rfl, rfl, h.1, h.2⟩
  · exact h.elim
theorem op_zPow : OpR X (binaryOp .Pow) zPow := by
  intro pins s σ H x y v u Q I rx ry h
  unfold zPow at h
  split at h
  · exact op_pow pins s σ H _ _ v u Q I rx ry ⟨_, _, rfl, rfl, h.1, h.2⟩
  · exact h.elim
theorem op_zLt : OpR X (compareOp .Lt) zLt := by
  intro pins s σ H x y v u Q I rx ry h
  unfold zLt at h
  split at h
  · exact op_lt pins s σ H _ _ v u Q I rx ry ⟨_, _, rfl, rfl, h⟩
  · exact h.elim
theorem op_zLe : OpR X (compareOp .LtE) zLe := by
  intro pins s σ H x y v u Q I rx ry h
  unfold zLe at h
  split at h
  · exact op_le pins s σ H _ _ v u Q I rx ry ⟨_, _, rfl, rfl, h⟩
  · exact h.elim
theorem op_zGt : OpR X (compareOp .Gt) zGt := by
  intro pins s σ H x y v u Q I rx ry h
  unfold zGt at h
  split at h
  · exact op_gt pins s σ H _ _ v u Q I rx ry ⟨_, _, rfl, rfl, h⟩
  · exact h.elim
theorem op_zGe : OpR X (compareOp .GtE) zGe := by
  intro pins s σ H x y v u Q I rx ry h
  unfold zGe at h
  split at h
  · exact op_ge pins s σ H _ _ v u Q I rx ry ⟨_, _, rfl, rfl, h⟩
  · exact h.elim
theorem op_zIs : OpR X (compareOp .Is) zIs := op_isN
theorem op_zIsnt : OpR X (compareOp .IsNot) zIsnt := op_notN
theorem op_zEq (hu : X.A.units + 64 < cLine) : OpR X (compareOp .Eq) (zEq X.K) := OpR.or op_eq (op_eqD hu)
theorem op_zNe (hu : X.A.units + 64 < cLine) : OpR X (compareOp .NotEq) (zNe X.K) := OpR.or op_ne (op_neD hu)
theorem op_zIn : OpR X (compareOp .In) (zIn X.K) := OpR.or op_in_sign op_in_seq
theorem op_zNin : OpR X (compareOp .NotIn) (zNin X.K) := OpR.or op_notIn_sign op_notIn_seq
theorem ix_z : IxR X (zIx X.K) := by
  intro e1 e2 pins s σ H x y v u Q I rx ry h hs
  unfold zIx at h
  split at h
  · obtain ⟨xs, w, hq, ha, q⟩ := h
    rcases hq with hq | hq
    · exact ix_seq e1 e2 pins s σ H _ _ v u Q I rx ry (.inl ⟨_, _, _, _, rfl, rfl, hq, ha, q⟩) hs
    · exact ix_seq e1 e2 pins s σ H _ _ v u Q I rx ry (.inr (.inl ⟨_, _, _, _, rfl, rfl, hq, ha, q⟩)) hs
  · obtain ⟨hz, c, ha, q⟩ := h
    exact ix_seq e1 e2 pins s σ H _ _ v u Q I rx ry (.inr (.inr ⟨_, _, _, rfl, rfl, hz, ha, q⟩)) hs
  · exact h.elim
end
end Z
namespace Z
open PySem PySem.Spec PyProof.Rows L2

/-! ### a def's promise where no repr is running around it; anything may be raised -/
structure FnG (gd : Bool) (P : Program) (w : World) (K : PySem.W.Frag) (mg : Str → Option Value) (base : Heap)
    (k : Nat) (f : Addr) (fd : FuncData) (ps : List Str) (sp : Sp) : Prop where
  len : ∀ vs H Q E, sp vs H Q E → vs.length = ps.length
  run : ∀ (A : Around) (outer : List Env) (s : Shared) (H : Hp) (args : Args) (us : List Value)
    (vs : List V) (Q : VK) (E : XK), Room k A → (gd = true → A.guards = some []) →
    Env0 P w K mg base A outer s H → BindsTo s fd args (ps.zip us) → Vals vs us → sp vs H Q E →
    codeAny (model P w) A (.call (.ref f) args) (CR (L2.CX P w) outer P w H s Q E) s
abbrev FnZ := FnG true
section
variable {gd : Bool} {P : Program} {w : World} {K : PySem.W.Frag} {mg : Str → Option Value} {base : Heap} {f : Addr} {fd : FuncData} {ps : List Str} {sp sp' : Sp}
theorem FnG.mono {j k : Nat} (F : FnG gd P w K mg base j f fd ps sp) (h : j ≤ k) : FnG gd P w K mg base k f fd ps sp :=
  ⟨F.len, fun A outer s H args us vs Q E hr => F.run A outer s H args us vs Q E (hr.mono h)⟩
theorem FnG.imp {k : Nat} (F : FnG gd P w K mg base k f fd ps sp) (h : ∀ vs H Q E, sp' vs H Q E → sp vs H Q E) : FnG gd P w K mg base k f fd ps sp' :=
  ⟨fun vs H Q E q => F.len vs H Q E (h _ _ _ _ q), fun A outer s H args us vs Q E hr hg he hb hv hs =>
    F.run A outer s H args us vs Q E hr hg he hb hv (h _ _ _ _ hs)⟩
/-- without a word on guards it is a promise for any of the hand layer's rules -/
theorem FnG.raw {k : Nat} (F : FnG false P w K mg base k f fd ps sp) (hb : Binds K fd ps []) : FnR P w K mg base (L2.CX P w) k f sp := by
  intro A outer s H us vs Q E hr e0 r h
  have KX : K.In s.heap := e0.mod.kin.keeps fun b o z => (e0.bs b o z).1
  have hl : us.length = ps.length := r.length.symm.trans (F.len _ _ _ _ h)
  have b := hb s us KX (by rw [List.append_nil]; exact hl)
  rw [List.append_nil] at b
  exact F.run A outer s H ⟨us, []⟩ us vs Q E hr (fun z => nomatch z) e0 b r h
/-- and one that holds even so -/
theorem FnG.up {k : Nat} (F : FnG false P w K mg base k f fd ps sp) : FnG gd P w K mg base k f fd ps sp := ⟨F.len, fun A outer s H args us vs Q E hr _ => F.run A outer s H args us vs Q E hr fun z => nomatch z⟩
end
theorem guards_make {A : Around} {C : Addr} {us : List Value} {kw : List (Str × Value)} (h : A.guards = some []) :
    (A.under (.builtin "type.__call__" ⟨.ref C :: us, kw⟩)).guards = some [] := by
  simp [Around.under, Code.guards, Code.isGuard, guardIds, pushGuards, h]

section
variable {gd : Bool} {P : Program} {w : World} {K : PySem.W.Frag} {mg : Str → Option Value} {base : Heap}
/-- a def by its body -/
theorem okZ {x qual : Str} {st : Stmt} {f : Addr} {fd : FuncData} {N ps : List Str} {k : Nat} {sp : Sp} (F : Fun K x qual st f fd)
    (S : FnScope N ps (defScope st)) (len : ∀ vs H Q E, sp vs H Q E → vs.length = ps.length)
    (hbody : ∀ (cdv : Value) (A : Around) (outer : List Env) (s : Shared) (H : Hp) (vs : List V) (Q : VK) (E : XK),
      Room k (A.deeper (envOfC qual (defScope st) s.heap.objs.size f cdv)) →
      (gd = true → (A.deeper (envOfC qual (defScope st) s.heap.objs.size f cdv)).guards = some []) → sp vs H Q E →
      ∃ t, PSs (cxOf (L2.CX P w) P w K mg base N qual (defScope st) f cdv A outer s H E) (defBody st) t ∧
        t { nx := fun _ H' => Q .non H', rt := Q } (start N vs) H) :
    FnG gd P w K mg base (k + 1) f fd ps sp := by
  obtain ⟨oc, od, kV, doc, pm, an, cdv, ct, osl, rfl, lk, hcd⟩ := F.ex
  refine ⟨len, fun A outer s H args us vs Q E hr hgu e0 hb r hsp => ?_⟩
  have hl := len _ _ _ _ hsp
  have KX : K.In s.heap := e0.mod.kin.keeps fun b o z => (e0.bs b o z).1
  have lim : s.heap.NoLimit := e0.mod.nolimit.keeps fun b o z => (e0.bs b o z).1
  have hkind : ∀ y ∈ ps.zip us, (defScope st).names.lookup y.1 = some .local ∨
      ((defScope st).names.lookup y.1 = some .cell ∧ ((cellsFrom (s.heap.objs.size + 1) (defScope st).names []).lookup y.1).isSome = true) := by
    intro y hy
    obtain ⟨n, v⟩ := y
    rcases S.par n (List.of_mem_zip hy).1 with q | q
    · exact .inl q
    · exact .inr ⟨q, PySem.W.cellsFrom_some _ _ _ (.inl q)⟩
  refine codeAny_call_function hr.depth (KX _ _ lk) rfl S.co S.gen rfl (PySem.W.codeRec_of KX hcd) (hb _ _ _ _ ?_)
  refine wpAny_newFunctionEnv_cells S.kind hkind fun env he s1 x => ?_
  subst he
  refine ⟨lim.keeps x.toInCall.keep, codeAny_func ?_⟩
  obtain ⟨t, ht, hq⟩ := hbody cdv A outer s H vs Q E (hr.deeper _) hgu hsp
  have I := inv_start (CX := L2.CX P w) (E := E) S hr.hd e0 hl r x
  refine wpAny_mono (ht.run [] s1 (start N vs) H _ I hq) (fun fl s' hs => ?_) fun e s' hs => hs
  cases fl with
  | ret u =>
    obtain ⟨v, σ', H', J, rv, q⟩ := hs
    exact ⟨v, H', J.os, J.bare, J.base, J.hok, rv, q⟩
  | next =>
    obtain ⟨σ', H', J, q⟩ := hs
    exact ⟨V.non, H', J.os, J.bare, J.base, J.hok, rfl, q⟩
  | brk => exact False.elim hs.choose_spec.choose_spec.2
  | cont => exact False.elim hs.choose_spec.choose_spec.2
end

/-! ### calls of such defs -/
theorem passE0 {X : Cx} (σ : St) : PassesAt (L2.CX X.prog X.w) X σ E0 := fun pins H s e s' I h => passL pins σ H s e s' I h
def zCall (sp : Sp) (dvs : List V) (E : St → XK) (t : TA) : TE := fun σ H Q => t σ H fun vs H1 => sp (vs ++ dvs) H1 Q (E σ)
def zMeth (C : Addr) (m : Str) (sp : Sp) (dvs : List V) (E : St → XK) (ta : TE) (t : TA) : TE := fun σ H Q =>
  ta σ H fun x H1 => ∃ a dx fs, x = .ref a ∧ H1 a = some (.ins C dx fs) ∧ fs.lookup m = none ∧
    t σ H1 fun vs H2 => sp (x :: (vs ++ dvs)) H2 Q (E σ)
def zMake (C : Addr) (sp : Sp) (dvs : List V) (E : St → XK) (t : TA) : TE := fun σ H Q =>
  t σ H fun vs H1 => ∀ x dx, H1 x = none → H1 dx = none → dx ≠ x →
    sp (.ref x :: (vs ++ dvs)) (upd (upd H1 dx (.own x)) x (.ins C dx [])) (fun v H2 => v = .non ∧ Q (.ref x) H2) (E σ)
section
variable {gd : Bool} {X : Cx} {k : Nat} {f C : Addr} {fd : FuncData} {ps : List Str} {sp : Sp} {dvs : List V} {ds : List Value} {E : St → XK} {x m : Str}
  {p pos apos : Pos} {e o : Expr} {es : List Expr} {ta : TE} {t : TA}
theorem run_fnZ {pins : List (Addr × Obj)} {σ : St} {H : Hp} {s : Shared} {Q : VK} {us : List Value} {vs : List V}
    (F : FnG gd X.prog X.w X.K X.mg X.base k f fd ps sp) (hr : Room k X.A) (hgu : gd = true → X.A.guards = some []) (hb : Binds X.K fd ps ds) (hd : Vals dvs ds)
    (hx : PassesAt (L2.CX X.prog X.w) X σ (E σ)) (I : Inv X pins σ H s) (r : Vals vs us) (h : sp (vs ++ dvs) H Q (E σ)) :
    wpAny (model X.prog X.w) X.A (call (.ref f) us) (EP X pins σ Q) X.xe s := by
  have r2 : Vals (vs ++ dvs) (us ++ ds) := r.append hd
  have hl : (us ++ ds).length = ps.length := r2.length.symm.trans (F.len _ _ _ _ h)
  refine wpAny_call (codeAny_mono (F.run X.A X.stack s H ⟨us, []⟩ (us ++ ds) (vs ++ dvs) Q (E σ) hr hgu I.env0 (hb s us I.kIn hl) r2 h) fun r s' hq => ?_)
  rcases r with er | fl
  · exact hx pins H s er s' I hq
  · cases fl with
    | ret u => exact I.after hq
    | next => exact hq.elim
    | brk => exact hq.elim
    | cont => exact hq.elim
/-- f(e, ..) -/
theorem pe_callZ (F : FnG gd X.prog X.w X.K X.mg X.base k f fd ps sp) (hr : Room k X.A) (hgu : gd = true → X.A.guards = some []) (hg : Gl X x) (hm : X.mg x = some (.ref f))
    (hk : PySem.W.keepIn X.K (.ref f) = true) (hb : Binds X.K fd ps ds) (hd : Vals dvs ds) (hx : ∀ σ, PassesAt (L2.CX X.prog X.w) X σ (E σ))
    (ha : PA X (e :: es) t) (hdb : (x == ("__debug__" : Str)) = false := by decide)
    (he : starEach (e :: es) X.env = (false, eval e X.env) :: starEach es X.env := by rfl) (hpl : (backTo pos (starEach es X.env)).any (·.1) = false := by rfl) :
    PE X (.Call (.Name x p) (e :: es) [] pos) (zCall sp dvs E t) := by
  constructor
  intro pins s σ H Q I h
  refine wpAny_Call_Name_kw (ld_glob I hg hm ?_ hdb)
  refine PySem.W.callWith_K (h₀ := X.base) I.ok.mod.kin hk (thn (ha.run pos pins s σ H _ I h) ?_) he hpl
  rintro us s1 ⟨vs, H1, I1, r, q⟩
  exact ⟨I1.kIn, run_fnZ F hr hgu hb hd (hx σ) I1 r q⟩
theorem pe_callZ0 (F : FnG gd X.prog X.w X.K X.mg X.base k f fd ps sp) (hr : Room k X.A) (hgu : gd = true → X.A.guards = some []) (hg : Gl X x) (hm : X.mg x = some (.ref f))
    (hk : PySem.W.keepIn X.K (.ref f) = true) (hb : Binds X.K fd ps ds) (hd : Vals dvs ds) (hx : ∀ σ, PassesAt (L2.CX X.prog X.w) X σ (E σ))
    (hdb : (x == ("__debug__" : Str)) = false := by decide) : PE X (.Call (.Name x p) [] [] pos) (zCall sp dvs E tNil) := by
  constructor
  intro pins s σ H Q I h
  refine wpAny_Call_Name_kw (ld_glob I hg hm ?_ hdb)
  exact PySem.W.callWith_K0 I.kIn hk (run_fnZ (us := []) F hr hgu hb hd (hx σ) I .nil h)
theorem run_makeZ {pins : List (Addr × Obj)} {σ : St} {H : Hp} {s : Shared} {Q : VK} {us : List Value} {vs : List V} (M : Mk X.K C f)
    (F : FnG gd X.prog X.w X.K X.mg X.base k f fd ps sp) (hr : Room (k + 1) X.A) (hgu : gd = true → X.A.guards = some []) (hb : Binds X.K fd ps ds) (hd : Vals dvs ds)
    (hx : PassesAt (L2.CX X.prog X.w) X σ (E σ)) (I : Inv X pins σ H s) (r : Vals vs us)
    (h : ∀ x dx, H x = none → H dx = none → dx ≠ x → sp (.ref x :: (vs ++ dvs)) (upd (upd H dx (.own x)) x (.ins C dx [])) (fun v H2 => v = .non ∧ Q (.ref x) H2) (E σ)) :
    wpAny (model X.prog X.w) X.A (call (.ref C) us) (EP X pins σ Q) X.xe s := by
  have n0 := I.hok.fresh (Nat.le_refl s.heap.objs.size)
  have n1 := I.hok.fresh (Nat.le_succ s.heap.objs.size)
  have hq := h _ _ n1 n0 (Nat.ne_of_lt (Nat.lt_succ_self _))
  have I2 := Inv.made (C := C) I
  have r2 : Vals (V.ref (s.heap.objs.size + 1) :: (vs ++ dvs)) (Value.ref (s.heap.objs.size + 1) :: (us ++ ds)) := .cons rfl (r.append hd)
  have hl : (Value.ref (s.heap.objs.size + 1) :: us ++ ds).length = ps.length := (r2.length.symm.trans (F.len _ _ _ _ hq))
  refine wpAny_call (make_map (f := f) I.kIn M.makes M.init (beq_iff_eq.mp M.fn) (codeAny_mono (F.run _ X.stack _ _ ⟨Value.ref (s.heap.objs.size + 1) :: us, []⟩ _ _ _ (E σ) (hr.make C us [])
    (fun z => guards_make (hgu z)) (I2.env0.make C us []) (hb _ (Value.ref (s.heap.objs.size + 1) :: us) I2.kIn hl) r2 hq) fun r s' hq' => ?_))
  rcases r with er | fl
  · exact hx pins _ _ er s' I2 hq'
  · cases fl with
    | ret u =>
      obtain ⟨v, H', I3, rv, ev, q3⟩ := I2.after hq'
      subst ev
      exact ⟨rv, ⟨V.ref (s.heap.objs.size + 1), H', I3, rfl, q3⟩⟩
    | next => exact hq'.elim
    | brk => exact hq'.elim
    | cont => exact hq'.elim
/-- C(e, ..) -/
theorem pe_makeZ (M : Mk X.K C f) (F : FnG gd X.prog X.w X.K X.mg X.base k f fd ps sp) (hr : Room (k + 1) X.A) (hgu : gd = true → X.A.guards = some []) (hg : Gl X x)
    (hm : X.mg x = some (.ref C)) (hb : Binds X.K fd ps ds) (hd : Vals dvs ds) (hx : ∀ σ, PassesAt (L2.CX X.prog X.w) X σ (E σ)) (ha : PA X (e :: es) t)
    (hdb : (x == ("__debug__" : Str)) = false := by decide)
    (he : starEach (e :: es) X.env = (false, eval e X.env) :: starEach es X.env := by rfl) (hpl : (backTo pos (starEach es X.env)).any (·.1) = false := by rfl) :
    PE X (.Call (.Name x p) (e :: es) [] pos) (zMake C sp dvs E t) := by
  constructor
  intro pins s σ H Q I h
  refine wpAny_Call_Name_kw (ld_glob I hg hm ?_ hdb)
  refine PySem.W.callWith_K (h₀ := X.base) I.ok.mod.kin M.kp (thn (ha.run pos pins s σ H _ I h) ?_) he hpl
  rintro us s1 ⟨vs, H1, I1, r, q⟩
  exact ⟨I1.kIn, run_makeZ M F hr hgu hb hd (hx σ) I1 r q⟩
theorem pe_makeZ0 (M : Mk X.K C f) (F : FnG gd X.prog X.w X.K X.mg X.base k f fd ps sp) (hr : Room (k + 1) X.A) (hgu : gd = true → X.A.guards = some []) (hg : Gl X x)
    (hm : X.mg x = some (.ref C)) (hb : Binds X.K fd ps ds) (hd : Vals dvs ds) (hx : ∀ σ, PassesAt (L2.CX X.prog X.w) X σ (E σ))
    (hdb : (x == ("__debug__" : Str)) = false := by decide) :
    PE X (.Call (.Name x p) [] [] pos) (zMake C sp dvs E tNil) := by
  constructor
  intro pins s σ H Q I h
  refine wpAny_Call_Name_kw (ld_glob I hg hm ?_ hdb)
  exact PySem.W.callWith_K0 I.kIn M.kp (run_makeZ (us := []) M F hr hgu hb hd (hx σ) I .nil h)
/-- o.m(e, ..) -/
theorem pe_methZ {pl : Sem Bool} (he : PE X o ta) (c : Cls X.K C) (hm : Meth X.K C m f) (F : FnG gd X.prog X.w X.K X.mg X.base k f fd ps sp)
    (hr : Room k X.A) (hgu : gd = true → X.A.guards = some []) (hb : Binds X.K fd ps ds) (hd : Vals dvs ds) (hx : ∀ σ, PassesAt (L2.CX X.prog X.w) X σ (E σ)) (ha : PA X (e :: es) t)
    (hst : starEach (e :: es) X.env = (false, eval e X.env) :: starEach es X.env := by rfl) (hpl : (backTo pos (starEach es X.env)).any (·.1) = false := by rfl)
    (ht : eval (.Call (.Attribute o m apos) (e :: es) [] pos) X.env = (do
      let ow ← eval o X.env
      standAt apos.atName
      let (g, first) ← holding [ow] (getMethod ow m pl)
      callWith pos g first (backTo pos (starEach (e :: es) X.env)) (backToKw pos (keywordEach [] X.env))) := by rfl) :
    PE X (.Call (.Attribute o m apos) (e :: es) [] pos) (zMeth C m sp dvs E ta t) := by
  constructor
  intro pins s σ H Q I h
  refine PySem.W.methodCall_KW (pl := pl) (thn (he.run pins s σ H _ I h) ?_) ht
  rintro u s1 ⟨x, H1, I1, rx, a, dx, fs, rfl, ea, l, q⟩
  obtain rfl : u = Value.ref a := rx
  refine getmeth_ok I1 ea c hm l ?_
  refine PySem.W.callWith_K (first := [.ref a]) (h₀ := X.base) I.ok.mod.kin hm.kp (thn (ha.run pos pins s1 σ H1 _ I1 q) ?_) hst hpl
  rintro us s2 ⟨vs, H2, I2, r, q2⟩
  exact ⟨I2.kIn, run_fnZ (us := .ref a :: us) (vs := .ref a :: vs) F hr hgu hb hd (hx σ) I2 (.cons rfl r) q2⟩
theorem pe_methZ0 {pl : Sem Bool} (he : PE X o ta) (c : Cls X.K C) (hm : Meth X.K C m f) (F : FnG gd X.prog X.w X.K X.mg X.base k f fd ps sp)
    (hr : Room k X.A) (hgu : gd = true → X.A.guards = some []) (hb : Binds X.K fd ps ds) (hd : Vals dvs ds) (hx : ∀ σ, PassesAt (L2.CX X.prog X.w) X σ (E σ))
    (ht : eval (.Call (.Attribute o m apos) [] [] pos) X.env = (do
      let ow ← eval o X.env
      standAt apos.atName
      let (g, first) ← holding [ow] (getMethod ow m pl)
      callWith pos g first (backTo pos (starEach [] X.env)) (backToKw pos (keywordEach [] X.env))) := by rfl) :
    PE X (.Call (.Attribute o m apos) [] [] pos) (zMeth C m sp dvs E ta tNil) := by
  constructor
  intro pins s σ H Q I h
  refine PySem.W.methodCall_KW (pl := pl) (thn (he.run pins s σ H _ I h) ?_) ht
  rintro u s1 ⟨x, H1, I1, rx, a, dx, fs, rfl, ea, l, q⟩
  obtain rfl : u = Value.ref a := rx
  refine getmeth_ok I1 ea c hm l ?_
  exact PySem.W.callWith_K0 (first := [.ref a]) I1.kIn hm.kp (run_fnZ (us := [.ref a]) (vs := [.ref a]) F hr hgu hb hd (hx σ) I1 (.cons rfl .nil) q)

/-! ### an own exception over ValueError, its __init__ a def -/
/-- C(e, ..) that is raised -/
def zMkO (C : Addr) (sp : Sp) (ta : TA) : St → Hp → XK → Prop := fun σ H Q =>
  ta σ H fun vs H1 => vs.length ≤ 1000 ∧ ∀ a, H1 a = none → sp (.ref a :: vs) (upd H1 a (exo a C none))
    (fun v H2 => v = .non ∧ ∃ (d : Addr) (fs : List (Str × V)), H2 a = some (exo a C (some d)) ∧ H2 d = some (exd d fs) ∧ H1 d = none ∧ Q (.ref C) (some d) (upd (del H2 a) d (.xd fs))) E0
theorem pmk_Z {fI : Addr} (T : OexC X.K C) (iC : PySem.W.findIn X.K (.ref C) "__init__" = some (some (.ref fI))) (tI : PySem.W.typeIn X.K (.ref fI) = some (.type "function"))
    (F : FnG gd X.prog X.w X.K X.mg X.base k fI fd ps sp) (hr : Room (k + 1) X.A) (hgu : gd = true → X.A.guards = some []) (hb : Binds X.K fd ps []) (hg : Gl X x)
    (hm : X.mg x = some (.ref C)) (ha : PA X (e :: es) t) (hdb : (x == ("__debug__" : Str)) = false := by decide)
    (he : starEach (e :: es) X.env = (false, eval e X.env) :: starEach es X.env := by rfl) (hpl : (backTo pos (starEach es X.env)).any (·.1) = false := by rfl) :
    PMk X (.Call (.Name x p) (e :: es) [] pos) (zMkO C sp t) := by
  intro pins s σ H Q I h
  obtain ⟨nm, q, N, bs, bm, sn, sub, ab, col, dd, k0, k1, k2, k3, k5, hC, hbm⟩ := T.cls
  refine wpAny_Call_Name_kw (ld_glob I hg hm ?_ hdb)
  refine PySem.W.callWith_K (h₀ := X.base) I.ok.mod.kin T.kC (thn (ha.run pos pins s σ H _ I h) ?_) he hpl
  rintro us s1 ⟨vs, H1, I1, r1, hz, q1⟩
  refine ⟨I1.kIn, ?_⟩
  show wpAny _ _ (call (.ref C) us) _ _ _
  obtain ⟨hp, g, dr, tk, os⟩ := s1
  have hsz : hp.objs.size ≤ hp.objs.size + 1 := Nat.le_succ _
  have hq := q1 (hp.objs.size + 1) (I1.hok.fresh hsz)
  have kk : ∀ b o, hp.get? b = some o → ((hp.push (PySem.W.kdv_tup us)).push (PySem.HandSPX.excO C hp.objs.size)).get? b = some o :=
    fun b o z => Heap.get?_push_of_some _ (Heap.get?_push_of_some _ z)
  have hget : ((hp.push (PySem.W.kdv_tup us)).push (PySem.HandSPX.excO C hp.objs.size)).get? (hp.objs.size + 1) =
      some (PySem.HandSPX.excO C hp.objs.size) := by heap_get
  have I2 := I1.laid (t' := tk) (a := hp.objs.size + 1) (o := exo (hp.objs.size + 1) C none)
    (h' := (hp.push (PySem.W.kdv_tup us)).push (PySem.HandSPX.excO C hp.objs.size)) kk hsz (exo_ok hget)
  have r2 : Vals (V.ref (hp.objs.size + 1) :: vs) (Value.ref (hp.objs.size + 1) :: us) := .cons rfl r1
  have hl : (Value.ref (hp.objs.size + 1) :: us).length = ps.length := r2.length.symm.trans (F.len _ _ _ _ hq)
  have hus : us.length ≤ sizeLine := by
    rw [← Paired.length r1, sizeLine_eq]
    omega
  have bb := hb ⟨(hp.push (PySem.W.kdv_tup us)).push (PySem.HandSPX.excO C hp.objs.size), g, dr, tk, os⟩ (Value.ref (hp.objs.size + 1) :: us) I2.kIn (by rw [List.append_nil]; exact hl)
  rw [List.append_nil] at bb
  refine wpAny_call (PySem.HandSPX.call_own PySem.F.excBase_ValueError (fun Y => PySem.HandSPX.refsVE_contains Y bm hbm) (I1.kIn _ _ hC)
    (PySem.W.looks_findIn I1.kIn iC) (fun self => PySem.W.bind_fn I1.kIn self tI) hus
    (codeAny_mono (F.run _ X.stack _ _ ⟨Value.ref (hp.objs.size + 1) :: us, []⟩ _ _ _ E0 (hr.make C us []) (fun z => guards_make (hgu z)) (I2.env0.make C us []) bb r2 hq) fun r s' hq' => ?_))
  rcases r with er | fl
  · exact (show False by
      obtain ⟨_, _, _, _, _, _, _, _, _, _, _, _, z⟩ := hq'
      exact z).elim
  · cases fl with
    | ret u =>
      obtain ⟨v, H2, os2, bare2, un2, hok2, rv, ev, d, fs, ea, ed, hd1, q2⟩ := hq'
      subst ev
      obtain ⟨h2, g2, d2, t2, os'⟩ := s'
      exact ⟨rv, mk_end (raises_own T.exC T.tyC) I1 hsz kk un2 hok2 os2 bare2 ea ed hd1 q2⟩
    | next => exact hq'.elim
    | brk => exact hq'.elim
    | cont => exact hq'.elim
end
end Z
namespace Z
open PySem PySem.Spec PyProof.Rows L2

/-! ### isinstance by a built-in class -/
def knC (c : String) : Bool := c == "int" || c == "str" || c == "bool" || c == "list" || c == "tuple" || c == "dict"
/-- the kind of an object -/
def TyR (K : PySem.W.Frag) (H : Hp) (a : Addr) (t : String) : Prop :=
  (t = "list" ∧ ∃ xs, SqL K H a xs) ∨ (t = "tuple" ∧ ∃ xs, SqT K H a xs) ∨ (t = "dict" ∧ ((∃ kvs, H a = some (.dK kvs)) ∨ ∃ kvs, H a = some (.dT kvs)))
def zIsi (K : PySem.W.Frag) : List V → Hp → VK → Prop := fun xs H Q => match xs with
  | [.non, .ty c] => knC c = true ∧ Q (.bl false) H
  | [.bl _, .ty c] => knC c = true ∧ Q (.bl (c == "bool" || c == "int")) H
  | [.int _, .ty c] => knC c = true ∧ Q (.bl (c == "int")) H
  | [.str _, .ty c] => knC c = true ∧ Q (.bl (c == "str")) H
  | [.ref a, .ty c] => knC c = true ∧ ∃ t, TyR K H a t ∧ Q (.bl (c == t)) H
  | _ => False
theorem knC_cases {c : String} (h : knC c = true) : c = "int" ∨ c = "str" ∨ c = "bool" ∨ c = "list" ∨ c = "tuple" ∨ c = "dict" := by
  simpa [knC, or_assoc] using h
theorem TyR.ty {K : PySem.W.Frag} {H : Hp} {a : Addr} {t : String} (h : TyR K H a t) : TyX K H (.ref a) (.type t) ∧ (t = "list" ∨ t = "tuple" ∨ t = "dict") := by
  rcases h with ⟨rfl, xs, (h | ⟨o, h⟩) | ⟨o, its, n, h, h2, _⟩⟩ | ⟨rfl, xs, (h | ⟨o, h⟩) | ⟨o, its, n, h, h2, _⟩⟩ | ⟨rfl, ⟨kvs, h⟩ | ⟨kvs, h⟩⟩
  · exact ⟨.base (.lst h), .inl rfl⟩
  · exact ⟨.base (.frz h), .inl rfl⟩
  · exact ⟨.kList h h2, .inl rfl⟩
  · exact ⟨.base (.tup h), .inr (.inl rfl)⟩
  · exact ⟨.fTuple h, .inr (.inl rfl)⟩
  · exact ⟨.kTuple h h2, .inr (.inl rfl)⟩
  · exact ⟨.base (.dK h), .inr (.inr rfl)⟩
  · exact ⟨.base (.dT h), .inr (.inr rfl)⟩
theorem kit_tab (t c : String) (ht : t = "NoneType" ∨ t = "bool" ∨ t = "int" ∨ t = "str" ∨ t = "list" ∨ t = "tuple" ∨ t = "dict") (hc : knC c = true) :
    kitB t c = some (c == t || (c == "int" && t == "bool")) := by
  rcases ht with rfl | rfl | rfl | rfl | rfl | rfl | rfl <;> rcases knC_cases hc with rfl | rfl | rfl | rfl | rfl | rfl <;> decide +kernel
section
variable {X : Cx}
theorem call_isiZ : CallR X (.builtin "isinstance") (zIsi X.K) := by
  intro pins s σ H xs us Q I r h
  have go : ∀ (x : V) (c t : String), xs = [x, .ty c] → knC c = true → TyX X.K H x (.type t) →
      (t = "NoneType" ∨ t = "bool" ∨ t = "int" ∨ t = "str" ∨ t = "list" ∨ t = "tuple" ∨ t = "dict") →
      Q (.bl (c == t || (c == "int" && t == "bool"))) H → wpAny (model X.prog X.w) X.A (PySem.call (.builtin "isinstance") us) (EP X pins σ Q) X.xe s :=
    fun x c t e hc ty ht q => call_isi pins s σ H xs us Q I r ⟨x, .ty c, .type t, .type c, _, e, .ty c, ty, kit_ty (kit_tab t c ht hc), q⟩
  unfold zIsi at h
  split at h
  · rename_i c
    refine go _ c "NoneType" rfl h.1 (.base .non) (by simp) ?_
    have e : (c == "NoneType" || (c == "int" && "NoneType" == "bool")) = false := by rcases knC_cases h.1 with rfl | rfl | rfl | rfl | rfl | rfl <;> decide
    rw [e]; exact h.2
  · rename_i b c
    refine go _ c "bool" rfl h.1 (.base (.bl b)) (by simp) ?_
    have e : (c == "bool" || (c == "int" && "bool" == "bool")) = (c == "bool" || c == "int") := by rcases knC_cases h.1 with rfl | rfl | rfl | rfl | rfl | rfl <;> decide
    rw [e]; exact h.2
  · rename_i i c
    refine go _ c "int" rfl h.1 (.base (.int i)) (by simp) ?_
    have e : (c == "int" || (c == "int" && "int" == "bool")) = (c == "int") := by rcases knC_cases h.1 with rfl | rfl | rfl | rfl | rfl | rfl <;> decide
    rw [e]; exact h.2
  · rename_i z c
    refine go _ c "str" rfl h.1 (.base (.str z)) (by simp) ?_
    have e : (c == "str" || (c == "int" && "str" == "bool")) = (c == "str") := by rcases knC_cases h.1 with rfl | rfl | rfl | rfl | rfl | rfl <;> decide
    rw [e]; exact h.2
  · rename_i a c
    obtain ⟨hc, t, ty, q⟩ := h
    obtain ⟨ty, ht⟩ := ty.ty
    refine go _ c t rfl hc ty (by rcases ht with rfl | rfl | rfl <;> simp) ?_
    have e : (c == t || (c == "int" && t == "bool")) = (c == t) := by
      rcases ht with rfl | rfl | rfl <;> rcases knC_cases hc with rfl | rfl | rfl | rfl | rfl | rfl <;> decide
    rw [e]; exact q
  · exact h.elim
end

/-! ### repr of data -/
/-- a flat thing as data -/
def flatD : V → Option PyData
  | .non => some .none | .bl b => some (.bool b) | .int i => some (.int i) | .str x => some (.str x) | _ => none
theorem flatD_reads {h : Heap} {v : V} {u : Value} {d : PyData} (e : flatD v = some d) (r : RelV v u) : Reads h u d [] := by
  cases v <;> simp [flatD] at e <;> subst e
  · cases r; exact .none
  · cases r; exact .bool _
  · obtain ⟨t, rfl⟩ := r; exact .int _ _
  · obtain ⟨t, rfl⟩ := r; exact .str _ _
def keyD : Key → PyData
  | .inl i => .int i
  | .inr x => .str x
/-- data without dicts, or a dict of flat things -/
def DpR (K : PySem.W.Frag) (H : Hp) (x : V) (d : PyData) : Prop :=
  (Dp K H x d ∧ d.hasDict = false) ∨ ∃ a kvs kds, x = .ref a ∧ H a = some (.dK kvs) ∧ d = .dict kds ∧
    Paired (fun (p : Key × V) (q : PyData × PyData) => keyD p.1 = q.1 ∧ flatD p.2 = some q.2) kvs kds
theorem dict_reads {P : Program} {w : World} {h : Heap} {es : List DictEntry} {vs : List (Key × Value)} (hp : Pairs (mixKind P w) es vs) :
    ∀ {kvs : List (Key × V)} {kds : List (PyData × PyData)}, KV kvs vs → Paired (fun (p : Key × V) (q : PyData × PyData) => keyD p.1 = q.1 ∧ flatD p.2 = some q.2) kvs kds →
      ReadsAll h (es.map (·.key)) (kds.map (·.1)) [] ∧ ReadsAll h (es.map (·.val)) (kds.map (·.2)) [] := by
  induction hp with
  | nil =>
    intro kvs kds r q
    cases r
    cases q
    exact ⟨.nil, .nil⟩
  | cons h1 hv _ ih =>
    intro kvs kds r q
    cases r with
    | cons r1 r2 =>
      cases q with
      | cons q1 q2 =>
        obtain ⟨i1, i2⟩ := ih r2 q2
        obtain ⟨e1, rv⟩ := r1
        obtain ⟨e2, e3⟩ := q1
        rename_i en kv es' kvs' hpp p ps q qs
        have k1 : Reads h en.key q.1 [] := by
          rw [← e2, e1]
          rcases keyIs_shape h1 with ⟨i, t, ek, ev⟩ | ⟨x, t, ek, ev⟩
          · rw [ek, ev]
            exact .int _ _
          · rw [ek, ev]
            exact .str _ _
        have k2 : Reads h en.val q.2 [] := by
          rw [hv]
          exact flatD_reads e3 rv
        exact ⟨ReadsAll.cons (as := []) (bs := []) k1 i1, ReadsAll.cons (as := []) (bs := []) k2 i2⟩
section
variable {X : Cx} {pins : List (Addr × Obj)} {σ : St} {H : Hp} {s : Shared}
theorem DpR.reads (I : Inv X pins σ H s) {d : PyData} {v : V} {u : Value} (h : DpR X.K H v d) (r : RelV v u) : ∃ as, Reads s.heap u d as ∧ (d.hasDict = true → sysModules ∉ as) := by
  rcases h with ⟨h, hd⟩ | ⟨a, kvs, kds, rfl, ha, rfl, hp⟩
  · obtain ⟨as, q⟩ := Dp.reads I d v u h r
    exact ⟨as, q, fun z => by rw [hd] at z; exact absurd z Bool.false_ne_true⟩
  · cases r
    obtain ⟨_, hy, vs, rv, o, es, ep, e1, e2, e3, _, e5, _⟩ := (show ObjOk X.prog X.w H s.heap a (.dK kvs) from I.hok a _ ha)
    obtain ⟨r1, r2⟩ := dict_reads (h := s.heap) e5 rv hp
    refine ⟨_, Reads.dict e1 e2.1 e3 r1 r2, fun _ z => ?_⟩
    have z' : sysModules = a := by simpa using z
    rw [z'] at hy
    simp at hy
def zRepr (K : PySem.W.Frag) : List V → Hp → VK → Prop := fun xs H Q => ∃ x d, xs = [x] ∧ DpR K H x d ∧ d.showable = true ∧ d.depth ≤ 32 ∧ d.shown.length ≤ sizeLine ∧ Q (.str d.shown) H
theorem call_reprZ (hg : X.A.guards = some []) (hu : X.A.units + 64 < cLine) : CallR X (.builtin "repr") (zRepr X.K) := by
  intro pins s σ H xs us Q I r h
  obtain ⟨x, d, rfl, hd, hs, hdp, hz, q⟩ := h
  obtain ⟨u, rfl, ru⟩ := vals1 r
  obtain ⟨as, hr, hsm⟩ := hd.reads I ru
  cases hr with
  | none => exact PySem.P.repr_of_none ⟨.str _, H, I.tok _, ⟨_, rfl⟩, q⟩
  | bool b => exact PySem.P.repr_of_bool ⟨.str _, H, I.tok _, ⟨_, rfl⟩, q⟩
  | int i t => exact PySem.P.repr_of_int (by simpa [PyData.showable] using hs) ⟨.str _, H, I.tok _, ⟨_, rfl⟩, q⟩
  | str y t => exact PySem.P.repr_of_str ⟨.str _, H, I.tok _, ⟨_, rfl⟩, q⟩ (by simpa only [PyData.shown] using hz)
  | list h1 h2 h3 h4 =>
    exact PySem.repr_of_reads' (.list h1 h2 h3 h4) hs hsm hg (by omega) (fun _ _ z => z) (fun h' u tk hk => ⟨.str _, H, I.kept (t' := tk) hk, ⟨_, rfl⟩, q⟩) hz
  | tuple h1 h2 h3 h4 =>
    exact PySem.repr_of_reads' (.tuple h1 h2 h3 h4) hs hsm hg (by omega) (fun _ _ z => z) (fun h' u tk hk => ⟨.str _, H, I.kept (t' := tk) hk, ⟨_, rfl⟩, q⟩) hz
  | dict h1 h2 h3 h4 h5 =>
    exact PySem.repr_of_reads' (.dict h1 h2 h3 h4 h5) hs hsm hg (by omega) (fun _ _ z => z) (fun h' u tk hk => ⟨.str _, H, I.kept (t' := tk) hk, ⟨_, rfl⟩, q⟩) hz
end
end Z
namespace Z
open PySem PySem.Spec PyProof.Rows L2

/-! ### readings that reckon by themselves -/
theorem PE.to {X : Cx} {e : Expr} {t t' : TE} (h : PE X e t) (k : ∀ σ H Q, t' σ H Q → t σ H Q) : PE X e t' := ⟨fun pins s σ H Q I q => h.run pins s σ H Q I (k σ H Q q)⟩
theorem PT.to {X : Cx} {e : Expr} {t t' : TT} (h : PT X e t) (k : ∀ σ H Q, t' σ H Q → t σ H Q) : PT X e t' := ⟨fun pins s σ H Q I q => h.run pins s σ H Q I (k σ H Q q)⟩
theorem PS.to {X : Cx} {e : Stmt} {t t' : TS} (h : PS X e t) (k : ∀ D σ H, t' D σ H → t D σ H) : PS X e t' := ⟨fun pins s σ H D I q => h.run pins s σ H D I (k D σ H q)⟩
theorem CallR.to {X : Cx} {f : Value} {r r' : List V → Hp → VK → Prop} (h : CallR X f r) (k : ∀ xs H Q, r' xs H Q → r xs H Q) : CallR X f r' :=
  fun pins s σ H xs us Q I rv q => h pins s σ H xs us Q I rv (k xs H Q q)
def zVar (i : Nat) : TE := fun σ H Q => match σ[i]? with
  | some (some v) => Q v H
  | _ => False
def zTest (t : TE) : TT := fun σ H Q => t σ H fun x H' => match x with
  | .bl k => Q k H'
  | _ => False
def zTru (K : PySem.W.Frag) (t : TE) : TT := fun σ H Q => t σ H fun x H' => match x with
  | .non => Q false H'
  | .bl k => Q k H'
  | .int i => Q (i != 0) H'
  | x => ∃ k, TruV K x H' k ∧ Q k H'
def zAndV (ta tb : TE) : TE := fun σ H Q => ta σ H fun x H1 => match x with
  | .bl c => if c = true then tb σ H1 Q else Q (.bl false) H1
  | _ => False
def zOrV (ta tb : TE) : TE := fun σ H Q => ta σ H fun x H1 => match x with
  | .bl c => if c = true then Q (.bl true) H1 else tb σ H1 Q
  | _ => False
def zNotV (ta : TE) : TE := fun σ H Q => ta σ H fun x H1 => match x with
  | .bl c => Q (.bl (!c)) H1
  | _ => False
def zChain (r r' : R2) (ta tb tc : TE) : TE := fun σ H Q => ta σ H fun x H1 => tb σ H1 fun y H2 => r x y H2 fun z H3 => match z with
  | .bl k => if k = true then tc σ H3 fun w' H4 => r' y w' H4 Q else Q (.bl false) H3
  | _ => False
def zNeg (ta : TE) : TE := fun σ H Q => ta σ H fun x H1 => match x with
  | .int i => Q (.int (-i)) H1
  | _ => False
def zLen (K : PySem.W.Frag) : List V → Hp → VK → Prop := fun xs H Q => match xs with
  | [.str z] => z.length ≤ sizeLine ∧ Q (.int z.length) H
  | [.ref p] => ∃ ys, (SqL K H p ys ∨ SqT K H p ys) ∧ Q (.int ys.length) H
  | _ => False
def rAbs : List V → Hp → VK → Prop := fun xs H Q => match xs with
  | [.int i] => Q (.int (if i < 0 then -i else i)) H
  | _ => False
def rMx2 : List V → Hp → VK → Prop := fun xs H Q => match xs with
  | [.int i, .int j] => Q (.int (if j > i then j else i)) H
  | _ => False
def rMn2 : List V → Hp → VK → Prop := fun xs H Q => match xs with
  | [.int i, .int j] => Q (.int (if j < i then j else i)) H
  | _ => False
def rInt1 : List V → Hp → VK → Prop := fun xs H Q => match xs with
  | [.int i] => Q (.int i) H
  | [.bl k] => Q (.int (if k then 1 else 0)) H
  | _ => False
def rListOf (K : PySem.W.Frag) : List V → Hp → VK → Prop := fun xs H Q => match xs with
  | [.ref p] => ∃ ys, (SqL K H p ys ∨ SqT K H p ys) ∧ ∀ l, H l = none → Q (.ref l) (upd H l (.lst ys))
  | _ => False
def zRaise (W : WX) (C : Addr) (sp : Sp) (ta : TA) : TS := fun _ σ H => zMkO C sp ta σ H fun cls d H' => W cls d σ H'

/-! ### isinstance by a built-in class, the class known -/
inductive Kd where
  | int | str | bool | list | tuple | dict
  deriving DecidableEq
def Kd.nm : Kd → String
  | .int => "int" | .str => "str" | .bool => "bool" | .list => "list" | .tuple => "tuple" | .dict => "dict"
def Kd.isB : Kd → Bool
  | .bool => true | .int => true | _ => false
def Kd.isI : Kd → Bool
  | .int => true | _ => false
def Kd.isS : Kd → Bool
  | .str => true | _ => false
def KndR (K : PySem.W.Frag) (H : Hp) (a : Addr) : Kd → Prop
  | .list => ∃ xs, SqL K H a xs
  | .tuple => ∃ xs, SqT K H a xs
  | .dict => (∃ kvs, H a = some (.dK kvs)) ∨ ∃ kvs, H a = some (.dT kvs)
  | _ => False
def zIsiV (K : PySem.W.Frag) (k : Kd) (x : V) (H : Hp) (Q : VK) : Prop := match x with
  | .non => Q (.bl false) H
  | .bl _ => Q (.bl k.isB) H
  | .int _ => Q (.bl k.isI) H
  | .str _ => Q (.bl k.isS) H
  | .ref a => ∃ t, KndR K H a t ∧ Q (.bl (decide (t = k))) H
  | _ => False
def zIsiT (K : PySem.W.Frag) (k : Kd) (te : TE) : TE := fun σ H Q => te σ H fun x H1 => zIsiV K k x H1 Q
theorem KndR.ty {K : PySem.W.Frag} {H : Hp} {a : Addr} {t : Kd} (h : KndR K H a t) : TyR K H a t.nm := by
  cases t <;> first | exact h.elim | exact .inl ⟨rfl, h⟩ | exact .inr (.inl ⟨rfl, h⟩) | exact .inr (.inr ⟨rfl, h⟩)
theorem nm_kn (k : Kd) : knC k.nm = true := by cases k <;> decide +kernel
theorem nm_eq (k t : Kd) : (k.nm == t.nm) = decide (t = k) := by cases k <;> cases t <;> decide +kernel
theorem zIsiV_to {K : PySem.W.Frag} {k : Kd} {x : V} {H : Hp} {Q : VK} (h : zIsiV K k x H Q) : zIsi K [x, .ty k.nm] H Q := by
  cases x with
  | non => exact ⟨nm_kn k, h⟩
  | bl b =>
    refine ⟨nm_kn k, ?_⟩
    have e : (k.nm == "bool" || k.nm == "int") = k.isB := by cases k <;> decide +kernel
    rw [e]
    exact h
  | int i =>
    refine ⟨nm_kn k, ?_⟩
    have e : (k.nm == "int") = k.isI := by cases k <;> decide +kernel
    rw [e]
    exact h
  | str z =>
    refine ⟨nm_kn k, ?_⟩
    have e : (k.nm == "str") = k.isS := by cases k <;> decide +kernel
    rw [e]
    exact h
  | ref a =>
    obtain ⟨t, ht, q⟩ := h
    refine ⟨nm_kn k, t.nm, ht.ty, ?_⟩
    rw [nm_eq]
    exact q
  | byt _ => exact h.elim
  | flt _ => exact h.elim
  | ty _ => exact h.elim
section
variable {X : Cx} {x y : Str} {pos p p1 p2 : Pos} {e a b c : Expr} {rest : List Expr} {te ta tb tc : TE}
theorem zv (i : Nat) (hN : X.N[i]? = some x := by rfl) (hv : Vis X.env.scope x := by first | exact Or.inl rfl | exact Or.inr (Or.inl rfl) | exact Or.inr (Or.inr rfl))
    (hd : (x == ("__debug__" : Str)) = false := by decide) (hcd : (x == ("__classdict__" : Str)) = false := by decide) : PE X (.Name x pos) (zVar i) :=
  PE.to (pe_var hN hv hd hcd) fun σ H Q h => by
    unfold zVar at h
    split at h
    · rename_i v e
      exact ⟨v, e, h⟩
    · exact h.elim
theorem bl_eq {x : V} {R : Bool → Prop} : (match x with | .bl k => R k | _ => False) = ∃ k, x = .bl k ∧ R k := by
  apply propext
  constructor
  · intro h
    split at h
    · exact ⟨_, rfl, h⟩
    · exact h.elim
  · rintro ⟨k, rfl, h⟩
    exact h
theorem zTest_eq (t : TE) : zTest t = tTest t := by
  funext σ H Q
  exact congrArg (t σ H) (funext fun x => funext fun H' => bl_eq)
theorem zAndV_eq : zAndV ta tb = tAndV ta tb := by
  funext σ H Q
  exact congrArg (ta σ H) (funext fun x => funext fun H' => bl_eq)
theorem zOrV_eq : zOrV ta tb = tOrV ta tb := by
  funext σ H Q
  exact congrArg (ta σ H) (funext fun x => funext fun H' => bl_eq)
theorem zNotV_eq : zNotV ta = tNotV ta := by
  funext σ H Q
  exact congrArg (ta σ H) (funext fun x => funext fun H' => bl_eq)
theorem zChain_eq {r r' : R2} : zChain r r' ta tb tc = tChain r r' ta tb tc := by
  funext σ H Q
  refine congrArg (ta σ H) (funext fun x => funext fun H1 => congrArg (tb σ H1) (funext fun y => funext fun H2 => congrArg (r x y H2) (funext fun z => funext fun H3 => ?_)))
  exact bl_eq
theorem zTru_eq {K : PySem.W.Frag} : zTru K te = fun σ H Q => te σ H fun x H' => ∃ k, TruV K x H' k ∧ Q k H' := by
  funext σ H Q
  refine congrArg (te σ H) (funext fun x => funext fun H' => propext ?_)
  cases x with
  | non => exact ⟨fun h => ⟨_, rfl, h⟩, fun ⟨k, e, h⟩ => by cases e; exact h⟩
  | bl b => exact ⟨fun h => ⟨_, rfl, h⟩, fun ⟨k, e, h⟩ => by cases e; exact h⟩
  | int i => exact ⟨fun h => ⟨_, rfl, h⟩, fun ⟨k, e, h⟩ => by cases e; exact h⟩
  | str _ => exact Iff.rfl
  | byt _ => exact Iff.rfl
  | flt _ => exact Iff.rfl
  | ref _ => exact Iff.rfl
  | ty _ => exact Iff.rfl
theorem ptz_cmp {op : CmpOp} {r : R2} (ho : OpR X (compareOp op) r) (ha : PE X a ta) (hb : PE X b tb) (hm : behindInMarks op b = false) : PT X (.Compare a [op] [b] pos) (zTest (tOp r ta tb)) := by
  rw [zTest_eq]
  exact pt_cmpR ho ha hb hm
theorem pez_chain {op op' : CmpOp} {r r' : R2} (ho : OpR X (compareOp op) r) (ho' : OpR X (compareOp op') r') (ha : PE X a ta) (hb : PE X b tb) (hc : PE X c tc)
    (hm : lastMarks [op, op'] [b, c] = false := by with_unfolding_all rfl) : PE X (.Compare a [op, op'] [b, c] pos) (zChain r r' ta tb tc) := by
  rw [zChain_eq]
  exact pe_chain ho ho' ha hb hc hm
theorem ptz_chain {op op' : CmpOp} {r r' : R2} (ho : OpR X (compareOp op) r) (ho' : OpR X (compareOp op') r') (ha : PE X a ta) (hb : PE X b tb) (hc : PE X c tc)
    (hm : lastMarks [op, op'] [b, c] = false := by with_unfolding_all rfl) : PT X (.Compare a [op, op'] [b, c] pos) (zTest (zChain r r' ta tb tc)) := by
  rw [zTest_eq, zChain_eq]
  exact pt_chain ho ho' ha hb hc hm
theorem ptz_truth (ha : PE X a ta) (he : ∀ whole, isTrue a X.env whole = (do let v ← whole; standAt a.pos; holding [v] (truthy v))) : PT X a (zTru X.K ta) := by
  rw [zTru_eq]
  exact pt_truth ha he
theorem pez_and (ha : PE X a ta) (hb : PE X (.BoolOp .And (b :: rest) pos) tb) : PE X (.BoolOp .And (a :: b :: rest) pos) (zAndV ta tb) := by
  rw [zAndV_eq]
  exact pe_and ha hb
theorem pez_or (ha : PE X a ta) (hb : PE X (.BoolOp .Or (b :: rest) pos) tb) : PE X (.BoolOp .Or (a :: b :: rest) pos) (zOrV ta tb) := by
  rw [zOrV_eq]
  exact pe_or ha hb
theorem pez_not (ha : PE X a ta) : PE X (.UnaryOp .Not a pos) (zNotV ta) := by
  rw [zNotV_eq]
  exact pe_not ha
theorem pez_neg (ha : PE X a ta) : PE X (.UnaryOp .USub a pos) (zNeg ta) := by
  have e : zNeg ta = tUn (rU fun i => .int (-i)) ta := by
    funext σ H Q
    refine congrArg (ta σ H) (funext fun x => funext fun H1 => propext ⟨fun h => ?_, fun ⟨i, ei, h⟩ => by cases ei; exact h⟩)
    cases x with
    | int i => exact ⟨i, rfl, h⟩
    | _ => exact h.elim
  rw [e]
  exact pe_un un_neg ha
theorem pe_isi {kd : Kd} {fx cx : Str} (he : PE X e te) (hg : Gl X fx) (hm : X.mg fx = none) (hv : bootBuiltins fx = some (.builtin "isinstance"))
    (hc : Gl X cx) (hcm : X.mg cx = none) (hcv : bootBuiltins cx = some (.type kd.nm)) (h1 : fx ≠ "__name__" := by decide) (h2 : (fx == ("__debug__" : Str)) = false := by decide)
    (h3 : cx ≠ "__name__" := by decide) (h4 : (cx == ("__debug__" : Str)) = false := by decide)
    (h5 : starEach [e, .Name cx p2] X.env = (false, eval e X.env) :: starEach [.Name cx p2] X.env := by rfl) (h6 : (backTo pos (starEach [.Name cx p2] X.env)).any (·.1) = false := by rfl)
    (h7 : starEach [.Name cx p2] X.env = (false, eval (.Name cx p2) X.env) :: starEach [] X.env := by rfl) :
    PE X (.Call (.Name fx p1) [e, .Name cx p2] [] pos) (zIsiT X.K kd te) :=
  PE.to (pe_callB call_isiZ hg hm hv (pa_cons he (pa_cons (pe_bltn (v := .ty kd.nm) hc hcm hcv rfl h3 h4) pa_nil h7) h5) h1 h2 h5 h6) fun σ H Q h => by
    have e1 : (fun x H1 => zIsiV X.K kd x H1 Q) = fun x H1 => zIsi X.K [x, .ty kd.nm] H1 Q := by
      funext x H1
      refine propext ⟨zIsiV_to, fun h => ?_⟩
      cases x with
      | non => exact h.2
      | bl b =>
        have e : (kd.nm == "bool" || kd.nm == "int") = kd.isB := by cases kd <;> decide +kernel
        have q := h.2
        rw [e] at q
        exact q
      | int i =>
        have e : (kd.nm == "int") = kd.isI := by cases kd <;> decide +kernel
        have q := h.2
        rw [e] at q
        exact q
      | str i =>
        have e : (kd.nm == "str") = kd.isS := by cases kd <;> decide +kernel
        have q := h.2
        rw [e] at q
        exact q
      | ref i =>
        obtain ⟨_, t, ty, q⟩ := h
        rcases ty with ⟨rfl, z⟩ | ⟨rfl, z⟩ | ⟨rfl, z⟩
        · refine ⟨.list, z, ?_⟩
          rw [← nm_eq]
          exact q
        · refine ⟨.tuple, z, ?_⟩
          rw [← nm_eq]
          exact q
        · refine ⟨.dict, z, ?_⟩
          rw [← nm_eq]
          exact q
      | byt _ => exact h.elim
      | flt _ => exact h.elim
      | ty _ => exact h.elim
    show te σ H fun x H1 => zIsi X.K [x, .ty kd.nm] H1 Q
    rw [← e1]
    exact h
theorem pe_cint {i : Int} (hg : Gl X x) (h : ∃ t, X.mg x = some (.int i t)) (hd : (x == ("__debug__" : Str)) = false := by decide) : PE X (.Name x pos) (tC (.int i)) := by
  obtain ⟨t, h⟩ := h
  exact pe_glob hg h ⟨t, rfl⟩ hd
theorem pe_cstr {z : Str} (hg : Gl X x) (h : ∃ t, X.mg x = some (.str z t)) (hd : (x == ("__debug__" : Str)) = false := by decide) : PE X (.Name x pos) (tC (.str z)) := by
  obtain ⟨t, h⟩ := h
  exact pe_glob hg h ⟨t, rfl⟩ hd
theorem call_lenZ : CallR X (.builtin "len") (zLen X.K) := by
  intro pins s σ H xs us Q I r h
  unfold zLen at h
  split at h
  · exact call_len_str pins s σ H _ us Q I r ⟨_, rfl, h.1, h.2⟩
  · obtain ⟨ys, hq, q⟩ := h
    exact call_len_seq pins s σ H _ us Q I r ⟨_, ys, rfl, hq, q⟩
  · exact h.elim
theorem call_absZ : CallR X (.builtin "abs") rAbs := by
  intro pins s σ H xs us Q I r h
  unfold rAbs at h
  split at h
  · exact call_abs pins s σ H _ us Q I r ⟨_, rfl, h⟩
  · exact h.elim
theorem call_mx2 (hc : X.calm = true) : CallR X (.builtin "max") rMx2 := by
  intro pins s σ H xs us Q I r h
  unfold rMx2 at h
  split at h
  · exact call_max2 hc pins s σ H _ us Q I r ⟨_, _, rfl, h⟩
  · exact h.elim
theorem call_mn2 (hc : X.calm = true) : CallR X (.builtin "min") rMn2 := by
  intro pins s σ H xs us Q I r h
  unfold rMn2 at h
  split at h
  · exact call_min2 hc pins s σ H _ us Q I r ⟨_, _, rfl, h⟩
  · exact h.elim
theorem call_intZ : CallR X (.type "int") rInt1 := by
  intro pins s σ H xs us Q I r h
  unfold rInt1 at h
  split at h
  · exact call_int1 pins s σ H _ us Q I r (.inl ⟨_, rfl, h⟩)
  · exact call_int1 pins s σ H _ us Q I r (.inr ⟨_, rfl, h⟩)
  · exact h.elim
theorem call_listZ : CallR X (.type "list") (rListOf X.K) := by
  intro pins s σ H xs us Q I r h
  unfold rListOf at h
  split at h
  · obtain ⟨ys, hq, q⟩ := h
    exact call_list_of pins s σ H _ us Q I r ⟨_, ys, rfl, hq, q⟩
  · exact h.elim
end
end Z
namespace Z
open PySem PySem.Spec PyProof.Rows L2

/-! ### heaps -/
theorem Same.put {H : Hp} {p : Addr} {o : HO} (n : H p = none) : Same H (upd H p o) := fun b u e => by
  rw [upd_ne (ne_of_none e n)]
  exact e
/-- all stands but what is at p -/
def But (p : Addr) (H H' : Hp) : Prop := ∀ b o, H b = some o → b ≠ p → H' b = some o
theorem But.refl (p : Addr) (H : Hp) : But p H H := fun _ _ e _ => e
theorem But.same {p : Addr} {H H' : Hp} (s : Same H H') : But p H H' := fun b o e _ => s b o e
theorem But.trans {p : Addr} {H H1 H2 : Hp} (a : But p H H1) (b : But p H1 H2) : But p H H2 := fun c o e n => b c o (a c o e n) n
theorem But.put {p : Addr} {H : Hp} {o : HO} : But p H (upd H p o) := fun b u e n => by
  rw [upd_ne n]
  exact e
/-- behind a change of p alone, p being new since H0 -/
theorem But.old {p : Addr} {H0 H H' : Hp} (b : But p H H') (s : Same H0 H) (n : H0 p = none) : Same H0 H' := fun c o e => b c o (s c o e) (ne_of_none e n)

/-! ### tests -/
theorem zite {b : Bool} {A B : Prop} (h1 : b = true → A) (h2 : b = false → B) : if b = true then A else B := by
  cases b
  · exact h2 rfl
  · exact h1 rfl

/-! ### loops and comprehensions, what is walked once reckoned -/
def forGo (J : It) (g : TG) (tb : TS) (D : Ends) (σ : St) (H1 : Hp) : Prop := ∃ W : Nat → Nat → St → Hp → Prop, (∃ m, W 0 m σ H1) ∧ ∀ i m σ H, W i m σ H →
  (J.stop i H ∧ D.nx σ H) ∨ (J.go i H ∧ ∃ N : St → Hp → Prop, (∀ σ' H', N σ' H' → ∃ m', m' < m ∧ W (i + 1) m' σ' H') ∧
    ∀ x H', J.yld i H x H' → g x σ H' fun σ2 H2 => tb { D with nx := N, ct := N, bk := D.nx } σ2 H2)
def zFor (wi : TI) (g : TG) (tb : TS) : TS := fun D σ H => wi σ H fun J H1 => forGo J g tb D σ H1
def lcGo (J : It) (g : TG) (tt : TT) (te : TE) (vs : List Nat) (σ : St) (H1 : Hp) (Q : VK) : Prop := ∀ D, H1 D = none →
  ∃ W : Nat → Nat → Hp → Prop, (∃ m, W 0 m (upd H1 D (.lst []))) ∧ ∀ i m H, W i m H →
    (J.stop i H ∧ Q (.ref D) H) ∨ (J.go i H ∧ ∃ Nx : Hp → Prop, (∀ H', Nx H' → ∃ m', m' < m ∧ W (i + 1) m' H') ∧
      ∀ x H', J.yld i H x H' → g x (wipe σ vs) H' fun σ2 H2 => wipe σ2 vs = wipe σ vs ∧ tt σ2 H2 fun b H3 =>
        if b = true then te σ2 H3 fun y H4 => ∃ acc, H4 D = some (.lst acc) ∧ acc.length < sizeLine ∧ Nx (upd H4 D (.lst (acc ++ [y]))) else Nx H3)
def zLc (wi : TI) (g : TG) (tt : TT) (te : TE) (vs : List Nat) : TE := fun σ H Q => wi σ H fun J H1 => lcGo J g tt te vs σ H1 Q
section
variable {X : Cx}
theorem psz_for {tg iter : Expr} {body : List Stmt} {wi : TI} {g : TG} {tb : TS} {pos : Pos} (hp : PassesOwn (model X.prog X.w) X.A X.env X.xe) (hc : X.calm = true) (hi : PI X tg iter wi) (hg : PG X tg g)
    (hb : PSs X body tb) (hs : ∀ x, foldedSetIterable iter X.env x = pure x := by intro _; rfl) : PS X (.For tg iter body [] pos) (zFor wi g tb) :=
  ps_for hp hc hi hg hb hs
theorem pez_lc {elt tg iter : Expr} {ifs : List Expr} {scope : Scope} {own : List (Str × Nat)} {pos : Pos} {wi : TI} {g : TG} {tt : TT} {te : TE} (hc : X.calm = true) (hN : X.N.Nodup) (hi : PI X tg iter wi)
    (ok : BlkOk X.N X.env.scope scope own)
    (hg : ∀ (s : Shared) (H : Hp) (C : Addr) (cl : List (Str × Addr)) (fp : List Addr), PG (X.blk s H scope (compEnvC scope cl C X.env) fp) tg g)
    (ht : ∀ (s : Shared) (H : Hp) (C : Addr) (cl : List (Str × Addr)) (fp : List Addr), PTs (X.blk s H scope (compEnvC scope cl C X.env) fp) ifs tt)
    (he : ∀ (s : Shared) (H : Hp) (C : Addr) (cl : List (Str × Addr)) (fp : List Addr), PE (X.blk s H scope (compEnvC scope cl C X.env) fp) elt te)
    (hs : ∀ x, foldedSetIterable iter X.env x = pure x := by intro _; rfl) :
    PE X (.ListComp elt [⟨tg, iter, ifs, 0⟩] scope pos) (zLc wi g tt te (own.map (·.2))) := pe_lc hc hN hi ok hg ht he hs
theorem psz_setLc {i : Nat} {y : Str} {py : Pos} {elt tg iter : Expr} {ifs : List Expr} {scope : Scope} {own : List (Str × Nat)} {pos spos : Pos} {wi : TI} {g : TG} {tt : TT} {te : TE}
    (hc : X.calm = true) (hN : X.N.Nodup) (hy : X.N[i]? = some y) (hyl : X.env.scope.names.lookup y = some .local)
    (hsw : swapsWith (.ListComp elt [⟨tg, iter, ifs, 0⟩] scope pos) (some (.Name y py)) spos.line X.env = pure true) (hi : PI X tg iter wi) (ok : BlkOk X.N X.env.scope scope own)
    (hg : ∀ (s : Shared) (H : Hp) (C : Addr) (cl : List (Str × Addr)) (fp : List Addr), PG (X.blk s H scope (compEnvC scope cl C X.env) fp) tg g)
    (ht : ∀ (s : Shared) (H : Hp) (C : Addr) (cl : List (Str × Addr)) (fp : List Addr), PTs (X.blk s H scope (compEnvC scope cl C X.env) fp) ifs tt)
    (he : ∀ (s : Shared) (H : Hp) (C : Addr) (cl : List (Str × Addr)) (fp : List Addr), PE (X.blk s H scope (compEnvC scope cl C X.env) fp) elt te)
    (hs : ∀ x, foldedSetIterable iter X.env x = pure x := by intro _; rfl) :
    PS X (.Assign [.Name y py] (.ListComp elt [⟨tg, iter, ifs, 0⟩] scope pos) spos) (tAsg (zLc wi g tt te (own.map (·.2))) (gName i)) :=
  ps_setLc hc hN hy hyl hsw hi ok hg ht he hs
end
section
variable {J : It} {n : Nat} {G : Hp → Prop} {Y : Nat → Hp → V → Hp → Prop}
/-- a for by its invariant -/
theorem for_z (w : Walk J n G Y) {g : TG} {tb : TS} {D : Ends} {σ : St} {H : Hp} (Pv : Nat → St → Hp → Prop) (h0 : Pv 0 σ H) (hG : ∀ i σ H, i ≤ n → Pv i σ H → G H)
    (hs : ∀ i x σ H H', i < n → Pv i σ H → Y i H x H' → g x σ H' fun σ2 H2 => tb { D with nx := Pv (i + 1), ct := Pv (i + 1), bk := D.nx } σ2 H2) (hd : ∀ σ H, Pv n σ H → D.nx σ H) :
    forGo J g tb D σ H := for_it w Pv h0 hG hs hd
/-- a comprehension by an invariant of the heap -/
theorem lc_z (w : Walk J n G Y) {g : TG} {tt : TT} {te : TE} {vs : List Nat} {σ : St} {H1 : Hp} {Q : VK} (Pv : Addr → Nat → Hp → Prop) (h0 : ∀ D, H1 D = none → Pv D 0 (upd H1 D (.lst [])))
    (hG : ∀ D i H, H1 D = none → i ≤ n → Pv D i H → G H)
    (hs : ∀ D i x H H', H1 D = none → i < n → Pv D i H → Y i H x H' → g x (wipe σ vs) H' fun σ2 H2 => wipe σ2 vs = wipe σ vs ∧ tt σ2 H2 fun b H3 =>
      if b = true then te σ2 H3 fun y H4 => ∃ acc, H4 D = some (.lst acc) ∧ acc.length < sizeLine ∧ Pv D (i + 1) (upd H4 D (.lst (acc ++ [y]))) else Pv D (i + 1) H3)
    (hd : ∀ D H, H1 D = none → Pv D n H → Q (.ref D) H) : lcGo J g tt te vs σ H1 Q :=
  fun D hD => lc_it w (Qd := fun H => Q (.ref D) H) (Pv D) (h0 D hD) (fun i H => hG D i H hD) (fun i x H H' => hs D i x H H' hD) fun H => hd D H hD
/-- a comprehension whose elements change nothing -/
theorem lc_map (w : Walk J n G Y) {g : TG} {tt : TT} {te : TE} {vs : List Nat} {σ : St} {H1 : Hp} {Q : VK} (f : Nat → V) (hn : n ≤ sizeLine) (hG : ∀ H', Same H1 H' → G H')
    (hs : ∀ i x H H', i < n → Same H1 H → Y i H x H' → H' = H ∧ ∃ σ2, (∀ R : St → Hp → Prop, R σ2 H → g x (wipe σ vs) H R) ∧ wipe σ2 vs = wipe σ vs ∧
      (∀ R : Bool → Hp → Prop, R true H → tt σ2 H R) ∧ (∀ R : VK, R (f i) H → te σ2 H R))
    (hd : ∀ D, H1 D = none → Q (.ref D) (upd H1 D (.lst ((List.range n).map f)))) : lcGo J g tt te vs σ H1 Q := by
  refine lc_z w (fun D i H => H = upd H1 D (.lst ((List.range i).map f))) (fun D hD => rfl) (fun D i H hD _ e => ?_) (fun D i x H H' hD hi e y => ?_) (fun D H hD e => ?_)
  · subst e
    exact hG _ (Same.put hD)
  · subst e
    obtain ⟨e2, σ2, h1, h2, h3, h4⟩ := hs i x _ H' hi (Same.put hD) y
    subst e2
    refine h1 _ ⟨h2, h3 _ ?_⟩
    show te σ2 _ _
    refine h4 _ ⟨_, upd_same, by simp; omega, ?_⟩
    rw [upd_upd, List.range_succ, List.map_append]
    rfl
  · subst e
    exact hd D hD
end
end Z
namespace Z
open PySem PySem.Spec PyProof.Rows L2

/-! ### the law's end, for defs of this layer -/
theorem law_callZ {P : Program} {w : World} {K : PySem.W.Frag} {mg mb : Str → Option Value} {k : Nat} {fa a : Addr} {fd : FuncData} {x : Str} {sp : Sp} {s₁ : Shared} {vs : List Value} {ns : List Int}
    (KX : K.In s₁.heap) (hns : s₁.heap.Ns mainGlobals mg) (hb : s₁.heap.Ns builtinsNs mb) (hbb : ∀ x : Str, x ≠ "__name__" → mb x = bootBuiltins x) (hlim : s₁.heap.NoLimit) (hg : s₁.gens = #[])
    (ha : s₁.heap.get? a = some { cls := .type "list", data := .seq vs.toArray }) (hi : IntsAre vs ns) (hl : ns.length ≤ sizeLine) (hr : Room k callerA)
    (F : ∀ base : Heap, K.In base → base.Ns mainGlobals mg → FnZ P w K mg base k fa fd [x] sp) (hbind : ∀ (s : Shared) (u : Value), BindsTo s fd ⟨[u], []⟩ [(x, u)])
    (hsp : ∀ H : Hp, Only H → SqL K H a (ns.map V.int) → sp [.ref a] H (fun v _ => v = .bl true) fun _ _ _ => False) :
    codeAny (model P w) callerA (.call (.ref fa) ⟨[.ref a], []⟩) (fun r s' => r = .ok (.ret (.bool true)) ∧ OldK s₁.heap s'.heap ∧ s'.os = s₁.os ∧ AllBare s'.gens) s₁ := by
  have rv := vals_ints hi
  have lenV := hi.length
  have core : ∀ H : Hp, Only H → SqL K H a (ns.map V.int) → HOk P w H s₁.heap → (∀ b, H b ≠ none → b = a) → (H a ≠ none → K.lookup a = none) →
      codeAny (model P w) callerA (.call (.ref fa) ⟨[.ref a], []⟩) (fun r s' => r = .ok (.ret (.bool true)) ∧ OldK s₁.heap s'.heap ∧ s'.os = s₁.os ∧ AllBare s'.gens) s₁ := by
    intro H hO hS hok hA hK
    have base_of : ∀ {b : Addr} {o : Obj}, s₁.heap.get? b = some o → H b = none → (hidT s₁.heap H).get? b = some o := fun e n => hidT_get e n
    have noA : ∀ {b : Addr} {o : Obj} {es : Array DictEntry} {ep : Nat}, s₁.heap.get? b = some o → o.data = .dict es ep → H b = none := fun {b o es ep} e d => by
      cases q : H b with
      | none => rfl
      | some u =>
        have e' : b = a := hA b (by rw [q]; simp)
        subst e'
        rw [ha] at e; cases e
        have d' : Data.seq vs.toArray _ = Data.dict es ep := d
        cases d'
    have nsK : ∀ {b : Addr} {m : Str → Option Value}, s₁.heap.Ns b m → (hidT s₁.heap H).Ns b m := fun {b m} ⟨o, es, ep, e, d, r⟩ => ⟨o, es, ep, base_of e (noA e d), d, r⟩
    have hKb : K.In (hidT s₁.heap H) := fun b o e => base_of (KX b o e) (by
      cases q : H b with
      | none => rfl
      | some u =>
        have e' : b = a := hA b (by rw [q]; simp)
        subst e'
        rw [hK (by rw [q]; simp)] at e; cases e)
    have hM : Mod K mg (hidT s₁.heap H) := ⟨hKb, nsK hns, ⟨mb, nsK hb, hbb⟩, let ⟨mc, h1, h2⟩ := hlim; ⟨mc, nsK h1, h2⟩⟩
    have e0 : Env0 P w K mg (hidT s₁.heap H) callerA [] s₁ H := ⟨rfl, hM, fun b o e => of_hidT e, Nat.le_of_eq (hidT_size _ _), trivial, fun b hb => absurd (show b ∈ ([] : List Addr) from hb) (by simp), hok, .of_eq hg⟩
    refine codeAny_mono ((F _ hKb (nsK hns)).run callerA [] s₁ H ⟨[.ref a], []⟩ [.ref a] [.ref a] _ _ hr (fun _ => rfl) e0 (hbind s₁ (.ref a)) (.cons rfl .nil) (hsp H hO hS)) fun r s' h => ?_
    cases r with
    | error e =>
      obtain ⟨_, _, _, _, _, _, _, _, _, _, _, _, z⟩ := h
      exact False.elim z
    | ok fl =>
      cases fl with
      | next => exact False.elim h
      | brk => exact False.elim h
      | cont => exact False.elim h
      | ret u =>
        obtain ⟨v, H', os, bare, un, hok', r', q⟩ := h
        have q' : v = .bl true := q
        subst q'
        obtain rfl : u = Value.bool true := r'
        refine ⟨rfl, OldK.of_keep fun b o e => ?_, os, bare⟩
        cases q : H b with
        | none => exact un.keep b o e q (by intro z; exact absurd (show b ∈ ([] : List Addr) from z) (by simp)) (by simp)
        | some u =>
          rcases hO b with z | ⟨ob, xs, z⟩
          · rw [q] at z; cases z
          · have z2 := un.frzs b ob _ z
            obtain ⟨e1, _⟩ := hok b _ z
            obtain ⟨e2, _⟩ := hok' b _ z2
            rw [e] at e1; cases e1
            exact e2
  cases hk : K.lookup a with
  | some o =>
    have e := KX a o hk
    rw [ha] at e
    cases e
    refine core (fun _ => none) (fun _ => .inl rfl) (.inr ⟨_, vs.toArray, _, hk, rfl, rfl, rfl, by rw [List.size_toArray, lenV]; exact hl, by simpa using rv⟩) (fun b u z => by have z' : (none : Option HO) = some u := z; cases z') (fun b z => absurd rfl z) fun z => absurd rfl z
  | none =>
    refine core (fun b => if b = a then some (.frz { cls := .type "list", data := .seq vs.toArray } (.lst (ns.map V.int))) else none) (fun b => ?_) (.inl (.inr ⟨{ cls := .type "list", data := .seq vs.toArray }, if_pos rfl⟩)) (fun b u z => ?_) (fun b z => ?_) fun _ => hk
    · by_cases hb : b = a
      · exact .inr ⟨_, _, if_pos hb⟩
      · exact .inl (if_neg hb)
    · by_cases hb : b = a
      · have z' := (if_pos hb).symm.trans z
        cases z'
        subst hb
        exact ⟨ha, by rw [List.length_map]; exact hl, vs, _, rv, ha⟩
      · have z' := (if_neg hb).symm.trans z
        cases z'
    · by_cases hb : b = a
      · exact hb
      · exact absurd (if_neg hb) z
theorem walk_ofZ {l : PySem.W.OpenLaw} {n k : Nat} {q : Program} {loose : List Str} {XP : (Str → Option Value) → Heap → Prop} {YP : World → Heap → Prop} {d : DefRec} {K : Params → PySem.W.Frag} {sp : PySem.W.Frag → Sp} {x : Str}
    (hn : l.most = some n) (hn2 : n ≤ sizeLine) (hdf : d.params.defaults = []) (hr : Room k callerA)
    (hY : ∀ (w : World) (h : Heap), YP w h → (K w.params).In h)
    (F : ∀ (w : World) (mg : Str → Option Value) (fa : Addr) (h : Heap), (K w.params).In h → h.Ns mainGlobals mg → mg d.name = some (.ref fa) →
      ∃ fd : FuncData, (∀ (s : Shared) (u : Value), BindsTo s fd ⟨[u], []⟩ [(x, u)]) ∧
        ∀ base : Heap, (K w.params).In base → base.Ns mainGlobals mg → FnZ l.prog w (K w.params) mg base k fa fd [x] (sp (K w.params)))
    (hsp : ∀ (K : PySem.W.Frag) (H : Hp) (a : Addr) (ns : List Int), ns.length ≤ n → Only H → SqL K H a (ns.map V.int) → sp K [.ref a] H (fun v _ => v = .bl true) fun _ _ _ => False) :
    PySem.W.WalkO q loose XP YP l.row.toRowW d [] (fun f vs => PySem.call f vs) := by
  refine Att.attach_call hn hdf fun w s₀ s₁ mg mb fa o pm cd doc a vs ns G Y ho hd hcd hmg hobj hints hlen hg => ?_
  have KX := hY w _ Y
  obtain ⟨fd, hb, hF⟩ := F w mg fa _ KX G.T.g hmg
  exact law_callZ KX G.T.g G.T.b G.T.builtins G.T.nolimit hg hobj hints (Nat.le_trans hlen hn2) hr hF hb (fun H hO hS => hsp (K w.params) H a ns hlen hO hS)
/-- the promise of a law: whatever the script, True -/
def spLaw (K : PySem.W.Frag) : Sp := fun vs H Q E => ∃ (a : Addr) (ns : List Int), vs = [.ref a] ∧ SqL K H a (ns.map V.int) ∧ ns.length ≤ 63 ∧ ∀ H', Q (.bl true) H'
theorem law_walk {l : PySem.W.OpenLaw} {k : Nat} {q : Program} {loose : List Str} {XP : (Str → Option Value) → Heap → Prop} {YP : World → Heap → Prop} {d : DefRec} {K : Params → PySem.W.Frag} (hn : l.most = some 63) (hdf : d.params.defaults = []) (hr : Room k callerA)
    (hY : ∀ (w : World) (h : Heap), YP w h → (K w.params).In h)
    (F : ∀ (w : World) (mg : Str → Option Value) (fa : Addr) (h : Heap), (K w.params).In h → h.Ns mainGlobals mg → mg d.name = some (.ref fa) →
      ∃ fd : FuncData, (∀ (s : Shared) (u : Value), BindsTo s fd ⟨[u], []⟩ [("script", u)]) ∧
        ∀ base : Heap, (K w.params).In base → base.Ns mainGlobals mg → FnZ l.prog w (K w.params) mg base k fa fd ["script"] (spLaw (K w.params))) :
    PySem.W.WalkO q loose XP YP l.row.toRowW d [] (fun f vs => PySem.call f vs) :=
  walk_ofZ (n := 63) (k := k) (x := "script") (sp := spLaw) hn (by decide) hdf hr hY F fun _ _ a ns hl _ hS => ⟨a, ns, rfl, hS, hl, fun _ => rfl⟩
/-- «except C» names an error of the class at C itself -/
theorem exm_own {K : PySem.W.Frag} {C : Addr} (b : PySem.W.subIn K (.ref C) (.type "BaseException") = some true) (c : PySem.W.isClsIn K C = true) (t : PySem.W.typeIn K (.ref C) = some (.type "type")) (u : PySem.W.subIn K (.ref C) (.ref C) = some true) :
    PySem.W.exmOne K (.ref C) (.ref C) = some true := by
  have c' : (PySem.W.clsIn K C).isSome = true := c
  simp [PySem.W.exmOne, PySem.W.kitCls, b, c', t, u]
end Z
namespace Z
open PySem PySem.Spec PyProof.Rows L2

/-! ### enumerate(tuple) -/
theorem enum1_meets {v : Value} {o : Obj} {G : Heap → Prop} (B : Begins v o G) :
    Meets (Builtin.«enumerate.__new__» ⟨[.type "enumerate", v], []⟩) (fun _ R s => G s.heap ∧
      R (.ok (.ret (.ref (s.heap.push o).objs.size))) { s with heap := (s.heap.push o).push { cls := .type "enumerate", data := .fields #[.none, .bool false, .ref s.heap.objs.size, rawInt 0, .none, .none] } }) :=
  .of_wp fun prog w A R s hh => by
    obtain ⟨hp, g, d, tk, os⟩ := s
    obtain ⟨hG, hR⟩ := hh
    have hsub := sub_enumerate
    have it1 : ∀ {A' : Around} {E : Value → Shared → Prop} {Q : Value → Shared → Prop}, Q (.ref hp.objs.size) ⟨hp.push o, g, d, tk, os⟩ → wpAny (model prog w) A' (pyIter v) Q E ⟨hp, g, d, tk, os⟩ :=
      fun q => B.iter prog w _ _ _ _ hG q
    wp_walk using it1
    refine wpAny_stack_any fun _ => wpAny_pure ?_
    split
    · rename_i c _ _ _ _ _
      cases (c == Value.type "enumerate") <;>
      · wp_walk using it1
        exact ⟨_, rfl, hR⟩
    · wp_walk using it1
      exact ⟨_, rfl, hR⟩
theorem enum1_call {prog : Program} {w : World} {A : Around} {E : Value → Shared → Prop} {s : Shared} {v : Value} {o : Obj} {G : Heap → Prop} {Q : Value → Shared → Prop} (B : Begins v o G) (hG : G s.heap)
    (k : ∀ h', IsEnum h' (s.heap.objs.size + 1) s.heap.objs.size 0 .none → h'.get? s.heap.objs.size = some o → (∀ b u, s.heap.get? b = some u → h'.get? b = some u) → Q (.ref (s.heap.objs.size + 1)) { s with heap := h' }) :
    wpAny (model prog w) A (call (.type "enumerate") [v]) Q E s := by
  have z1 : (s.heap.push o).objs.size = s.heap.objs.size + 1 := Heap.size_push ..
  have e1 : IsEnum ((s.heap.push o).push { cls := .type "enumerate", data := .fields #[.none, .bool false, .ref s.heap.objs.size, rawInt 0, .none, .none] }) (s.heap.objs.size + 1) s.heap.objs.size 0 .none := by
    rw [← z1]
    exact Heap.get?_push_size _ rfl
  refine callType_new F.called_enumerate (by decide) (F.typeCall_enumerate_1 _) (F.newCall_enumerate_1 _) (fun obj => F.args_object_init_2 obj _) F.entry_enumerate_new (enum1_meets B) ⟨hG, ?_⟩
  show _ ∧ _
  rw [z1]
  exact ⟨⟨_, e1, rfl⟩, k _ e1 (Heap.get?_push_of_some _ (Heap.get?_push_size _ B.free)) fun b u x => Heap.get?_push_of_some _ (Heap.get?_push_of_some _ x)⟩
/-- the tuple at a, each item with its index in a new pair -/
def ZeT (K : PySem.W.Frag) (a : Addr) : It where
  go := fun i H => ∃ (xs : List V) (x : V), SqT K H a xs ∧ xs[i]? = some x
  yld := fun i H v H' => ∃ T x, v = .ref T ∧ H T = none ∧ H' = upd H T (.tup [.int (i : Nat), x]) ∧ ∀ xs, SqT K H a xs → xs[i]? = some x
  stop := fun i H => ∃ xs : List V, SqT K H a xs ∧ xs.length ≤ i
theorem isTup_tuple {h : Heap} {a : Addr} {its : Array Value} (p : IsTup h a its) : h.IsTuple a its := by
  obtain ⟨o, e, c, n, d⟩ := p
  exact ⟨o, e, c, n, d⟩
theorem turn_zeT {P : Program} {w : World} {K : PySem.W.Frag} {elts : List Expr} {kk : Nat} {tpos : Pos} (a e it : Addr) :
    Turn P w K (.Tuple elts kk tpos) (ZeT K a) [e, it] e (fun i h => (∃ old, IsEnum h e it ((i : Nat) : Int) old) ∧ h.IsTupleIter it a i ∧ e ≠ it) where
  mem := by simp
  obj := fun i h st b hb => by
    obtain ⟨⟨old, he⟩, ⟨o, ho, hc, hd⟩, _⟩ := st
    simp only [List.mem_cons, List.not_mem_nil, or_false] at hb
    rcases hb with rfl | rfl
    · exact ⟨_, he, fun v q => nomatch q⟩
    · exact ⟨o, ho, fun v q => by rw [hd] at q; cases q⟩
  keep := fun i h h' st k => by
    obtain ⟨⟨old, he⟩, hi, hne⟩ := st
    exact ⟨⟨old, k e (by simp) _ he⟩, hi.at fun o q => k it (by simp) o q, hne⟩
  item := by
    intro X hP hw hK hc i pins s σ H E I hf st hg
    subst hP hw hK
    obtain ⟨⟨old, he⟩, hit, hne⟩ := st
    obtain ⟨xs, x, hq, hx⟩ := hg
    obtain ⟨its, rv, p, _⟩ := I.tuple hq
    obtain ⟨u, hu, ru⟩ := rv.get hx
    have pt := isTup_tuple p
    have nai : a ≠ it := fun z => by
      obtain ⟨o1, e1, c1, _⟩ := pt
      obtain ⟨o2, e2, c2, _⟩ := hit
      rw [z, e2] at e1
      cases e1
      rw [c2] at c1
      exact absurd c1 (by decide)
    have nea : e ≠ a := fun z => by
      obtain ⟨o1, e1, c1, _⟩ := pt
      have e2 : s.heap.get? e = _ := he
      rw [z, e1] at e2
      obtain rfl := Option.some.inj e2
      exact absurd (show Value.type "enumerate" = Value.type "tuple" from c1) (by decide)
    have lte : e < s.heap.objs.size := Heap.lt_size he
    have lti : it < s.heap.objs.size := by obtain ⟨_, q, _⟩ := hit; exact Heap.lt_size q
    have lts : i < its.toArray.size := by
      have := (List.getElem?_eq_some_iff.mp hu).1
      simpa using this
    refine wpAny_pyNext_enum_itemC (Draws.tuple (A := X.A.in1) (I.ok.hd hc) it a nai its.toArray) he ⟨hit, pt⟩ lts hne (by simp [hne, nea]) fun y h' tk hy ho hst hT hsz hk => ?_
    obtain rfl : y = u := by
      have hy' : its[i]? = some y := by simpa using hy
      rw [hu] at hy'
      exact (Option.some.inj hy').symm
    refine ⟨_, rfl, wpAny_letOwnedTupleGo_enum (s := { s with heap := h', toks := tk + 1 }) ho fun h2 he2 sb => ?_⟩
    have hT2 : h2.get? s.heap.objs.size = some { cls := .type "tuple", data := .seq #[.int i tk, y] } := (sb.2 _ (Nat.ne_of_gt lte)).trans hT
    have new : ObjOk X.prog X.w (upd H s.heap.objs.size (.tup [.int (i : Nat), x])) h2 s.heap.objs.size (.tup [.int (i : Nat), x]) :=
      ⟨show 2 ≤ sizeLine by decide, [.int i tk, y], .cons ⟨_, rfl⟩ (.cons ru .nil), ⟨_, hT2, rfl, _, rfl⟩⟩
    have I1 : Inv X pins σ (upd H s.heap.objs.size (.tup [.int (i : Nat), x])) { s with heap := h2, toks := tk + 1 } :=
      I.turnedNew (ch := [e, it]) (fun b ob hb q => (sb.2 b (fun z => hb (by simp [z]))).trans (hk b ob (fun z => hb (by simp [z])) (fun z => hb (by simp [z])) q)) hf (Nat.le_refl _) new
    refine ⟨.ref s.heap.objs.size, _, I1, rfl, ⟨_, x, rfl, I.hok.fresh (Nat.le_refl _), rfl, fun ys hy2 => by rw [I.tuple_inj hy2 hq]; exact hx⟩, ⟨⟨y, ?_⟩, hst.1.at fun o q => (sb.2 it (Ne.symm hne)).trans q, hne⟩, fun b hb => ?_⟩
    · have e1 : ((i + 1 : Nat) : Int) = (i : Int) + 1 := by omega
      rw [e1]
      exact he2
    · have lt : b < s.heap.objs.size := by
        simp only [List.mem_cons, List.not_mem_nil, or_false] at hb
        rcases hb with rfl | rfl
        · exact lte
        · exact lti
      rw [upd_ne (Nat.ne_of_lt lt)]
      exact (hf b hb).1
  done := by
    intro X hP hw hK hc i pins s σ H E I hf st hg
    subst hP hw hK
    obtain ⟨⟨old, he⟩, hit, hne⟩ := st
    obtain ⟨xs, hq, hx⟩ := hg
    obtain ⟨its, rv, p, _⟩ := I.tuple hq
    have pt := isTup_tuple p
    obtain ⟨f0, f1, f2, f3, f4, f5⟩ := hf it (by simp)
    have hl := rv.length
    have T := I.ok.hd hc
    have fin : ∀ h', Heap.ExtBut it s.heap h' → Inv X pins σ H { s with heap := h' } := fun h' eb => I.turned (t' := s.toks) (fun b o hb q => eb b o hb q) f0 f1 f3 f4 f5
    have D : Draws X.prog X.w X.A.in1 it [it, a] i (fun _ _ => True) (fun k h => k = i ∧ h.IsTupleIter it a i ∧ h.IsTuple a its.toArray) := {
      live := fun _ _ z => let ⟨o, ho, _⟩ := z.2.1; ⟨o, ho⟩
      frame := fun _ _ _ z hk => ⟨z.1, z.2.1.at fun o q => hk it (by simp) o q, z.2.2.at fun o q => hk a (by simp) o q⟩
      item := fun k _ _ _ lt z _ => absurd z.1 (Nat.ne_of_lt lt)
      done := fun s' Q' E' z hE => wpAny_nextOf_tuple_end (A := X.A.in1) T z.2.1 z.2.2 (by simp; omega) hE }
    exact wpAny_pyNext_enum_endD D he ⟨rfl, hit, pt⟩ fun h' eb => ⟨rfl, fin h' eb⟩
  self := fun A i s Q E st h => by
    obtain ⟨⟨_, he⟩, _⟩ := st
    exact wpAny_pyIter_enum he h
/-- enumerate of a list or of a tuple -/
def zEnum (K : PySem.W.Frag) (ta : TA) : TI := fun σ H R => ta σ H fun vs H1 => ∃ a xs, vs = [.ref a] ∧ ((SqL K H1 a xs ∧ R (Ite K a) H1) ∨ (SqT K H1 a xs ∧ R (ZeT K a) H1))
theorem pi_zEnum {X : Cx} {e : Expr} {ta : TA} {p pos tpos : Pos} {elts : List Expr} {kk : Nat} (hg : Gl X "enumerate") (hm : X.mg "enumerate" = none) (ha : PA X [e] ta) (hs : starEach [e] X.env = [(false, eval e X.env)] := by rfl) :
    PI X (.Tuple elts kk tpos) (.Call (.Name "enumerate" p) [e] [] pos) (zEnum X.K ta) := by
  constructor
  intro pins s σ H R I h
  refine Call_ (ld_blt I hg hm boot_enumerate (PyProof.Rows.callWith_type1 (thn (ha.run pos pins s σ H _ I h) ?_) hs rfl))
  rintro us s1 ⟨vs, H1, I1, r1, a, xs, rfl, q⟩
  cases r1 with
  | cons r rr =>
    cases rr
    cases r
    have foot : ∀ b ∈ [s1.heap.objs.size + 1, s1.heap.objs.size], FpOk X pins H1 b := fun b hb => by
      have le : s1.heap.objs.size ≤ b := by
        simp only [List.mem_cons, List.not_mem_nil, or_false] at hb
        omega
      exact I1.fpOk le (I1.hok.fresh le)
    rcases q with ⟨hq, q⟩ | ⟨hq, q⟩
    · obtain ⟨its, rv, p', hz⟩ := I1.list hq
      refine call_enumerate_list p'.isList fun h' he hit hsz hk => wpAny_pyIter_enum he ?_
      exact ⟨s1.heap.objs.size + 1, [s1.heap.objs.size + 1, s1.heap.objs.size], _, _, H1, rfl, I1.kept (t' := s1.toks) hk, turn_enum a (s1.heap.objs.size + 1) s1.heap.objs.size, ⟨⟨.none, he⟩, hit, Nat.succ_ne_self _⟩, foot, q⟩
    · obtain ⟨its, rv, p', hz⟩ := I1.tuple hq
      refine enum1_call (begins_tuple a its.toArray) (isTup_tuple p') fun h' he hit hk => wpAny_pyIter_enum he ?_
      exact ⟨s1.heap.objs.size + 1, [s1.heap.objs.size + 1, s1.heap.objs.size], _, _, H1, rfl, I1.kept (t' := s1.toks) hk, turn_zeT a (s1.heap.objs.size + 1) s1.heap.objs.size, ⟨⟨.none, he⟩, ⟨_, hit, rfl, rfl⟩, Nat.succ_ne_self _⟩, foot, q⟩
theorem walk_zeT {K : PySem.W.Frag} {a : Addr} {xs : List V} : Walk (ZeT K a) xs.length (fun H => SqT K H a xs) (YPair (fun i => some (.int (i : Nat))) (fun i => xs[i]?)) := by
  refine ⟨fun i _ hi q => ⟨xs, xs[i], q, by simp [hi]⟩, fun _ q => ⟨xs, q, Nat.le_refl _⟩, fun i H v H' _ q y => ?_⟩
  obtain ⟨T, x, h1, h2, h3, h4⟩ := y
  exact ⟨T, .int (i : Nat), x, h1, h2, h3, rfl, h4 xs q⟩
end Z
namespace Z
open PySem PySem.Spec PyProof.Rows L2

/-! ### {e for x in xs if t}: a set of keys (texts, ints) -/
def scGo (P : Program) (w : World) (J : It) (g : TG) (tt : TT) (te : TE) (vs : List Nat) (σ : St) (H1 : Hp) (Q : VK) : Prop := ∀ D, H1 D = none →
  ∃ W : Nat → Nat → Hp → Prop, (∃ m, W 0 m (upd H1 D (SetK P w D (fun _ => false) 0))) ∧ ∀ i m H, W i m H →
    (J.stop i H ∧ Q (.ref D) H) ∨ (J.go i H ∧ ∃ Nx : Hp → Prop, (∀ H', Nx H' → ∃ m', m' < m ∧ W (i + 1) m' H') ∧
      ∀ x H', J.yld i H x H' → g x (wipe σ vs) H' fun σ2 H2 => wipe σ2 vs = wipe σ vs ∧ tt σ2 H2 fun b H3 =>
        if b = true then te σ2 H3 fun y H4 => rSAddK P w (.ref D) [y] H4 fun _ H5 => Nx H5 else Nx H3)
def zSc (P : Program) (w : World) (wi : TI) (g : TG) (tt : TT) (te : TE) (vs : List Nat) : TE := fun σ H Q => wi σ H fun J H1 => scGo P w J g tt te vs σ H1 Q
/-- an empty set -/
abbrev set0 (w : World) : Obj := { cls := .type "set", dict := none, data := .set #[] 0 (.fresh 0 0 (!w.params.followText "set-order")) }
theorem set0_key {P : Program} {w : World} {h : Heap} : (h.push (set0 w)).SetOf (mixKind P w) h.objs.size (fun _ => false) 0 := by
  refine ⟨_, #[], 0, _, Heap.get?_push_size _ rfl, ⟨rfl, rfl, rfl⟩, rfl, ?_, ?_, by decide, rfl, rfl⟩
  · intro e he
    simp at he
  · intro k
    simp
section
variable {X : Cx} {elt tg iter : Expr} {ifs : List Expr} {scope : Scope} {own : List (Str × Nat)} {wi : TI} {g : TG} {tt : TT} {te : TE}
/-- where the block runs -/
abbrev blkAt (X : Cx) (s : Shared) (H : Hp) (scope : Scope) (fp : List Addr) : Cx :=
  X.blk s H scope (compEnvC scope (cellsFrom (s.heap.objs.size + 1) scope.names (cloFrom X.env.cells scope.names [])) s.heap.objs.size X.env) fp
abbrev InBlk (X : Cx) (scope : Scope) (e : Expr → Cx → Prop) (a : Expr) : Prop := ∀ (s : Shared) (H : Hp) (C : Addr) (cl : List (Str × Addr)) (fp : List Addr), e a (X.blk s H scope (compEnvC scope cl C X.env) fp)
theorem sc_turns {s3 : Shared} {fp : List Addr} {it D : Addr} {ce : Env} {J : It} {tn : Nat → Heap → Prop} {vs : List Nat} {σ : St} {Q : VK} {pos : Pos} {s4 : Shared} {m0 : Nat} {H3 : Hp} {R : Result → Shared → Prop} {W : Nat → Nat → Hp → Prop}
    (hc : X.calm = true) (T : Turn X.prog X.w X.K tg J fp it tn) (hg : PG (X.blk s3 H3 scope ce fp) tg g) (ht : PTs (X.blk s3 H3 scope ce fp) ifs tt) (he : PE (X.blk s3 H3 scope ce fp) elt te)
    (turn : ∀ i m H, W i m H → (J.stop i H ∧ Q (.ref D) H) ∨ (J.go i H ∧ ∃ Nx : Hp → Prop, (∀ H', Nx H' → ∃ m', m' < m ∧ W (i + 1) m' H') ∧
      ∀ x H', J.yld i H x H' → g x (wipe σ vs) H' fun σ2 H2 => wipe σ2 vs = wipe σ vs ∧ tt σ2 H2 fun b H3 =>
        if b = true then te σ2 H3 fun y H4 => rSAddK X.prog X.w (.ref D) [y] H4 fun _ H5 => Nx H5 else Nx H3))
    (I4 : Inv (X.blk s3 H3 scope ce fp) [] (wipe σ vs) H3 s4) (st4 : tn 0 s4.heap) (nfp : ∀ b ∈ fp, H3 b = none) (w0 : W 0 m0 H3)
    (out : ∀ H5 s6, Inv (X.blk s3 H3 scope ce fp) [] (wipe σ vs) H5 s6 → Q (.ref D) H5 → R (.ok .next) s6) :
    codeAny (model X.prog X.w) X.A (.compLoop (.SetComp elt [⟨tg, iter, ifs, 0⟩] scope pos) 0 (.ref it) (.ref D) ce) R s4 := by
  refine PpSet.compLoopS_any (fun n s' => ∃ i H', Inv (X.blk s3 H3 scope ce fp) [] (wipe σ vs) H' s' ∧ tn i s'.heap ∧ (∀ b ∈ fp, H' b = none) ∧ W i n H') ?_ m0 ⟨0, H3, I4, st4, nfp, w0⟩
  have stat : ∀ {σ' : St} {H' : Hp} {s' : Shared}, Inv (X.blk s3 H3 scope ce fp) [] σ' H' s' → (∀ b ∈ fp, H' b = none) → ∀ b ∈ fp, FpOk (X.blk s3 H3 scope ce fp) [] H' b := by
    intro σ' H' s' I' hn b hb
    obtain ⟨x1, x2⟩ := I'.ok.exf b hb
    refine ⟨hn b hb, x1, I'.ok.exfs b hb, .inl hb, fun x c e => x2 x c e, fun p hp => ?_⟩
    simp at hp
  rintro n s5 ⟨i, H5, I5, st5, n5, w5⟩
  rcases turn i n H5 w5 with ⟨stop, qq⟩ | ⟨go, Nx, hNx, step⟩
  · refine thnF (T.done (X.blk s3 H3 scope ce fp) rfl rfl rfl hc i [] s5 _ H5 (fun _ _ => False) I5 (stat I5 n5) st5 stop) ?_
    rintro r s6 ⟨rfl, I6⟩
    exact out H5 s6 I6 qq
  · refine thnF (T.item (X.blk s3 H3 scope ce fp) rfl rfl rfl hc i [] s5 _ H5 (fun _ _ => False) I5 (stat I5 n5) st5 go) ?_
    rintro r s6 ⟨u, rfl, h6⟩
    refine thnF h6 ?_
    rintro _ s7 ⟨x, H7, I7, r7, y7, st7, n7⟩
    have I7' := I7.pinned (stat I7 n7) (T.obj _ _ st7)
    refine thnF (hg.run _ s7 _ H7 x u _ I7' r7 (step x H7 y7)) ?_
    rintro _ s8 ⟨σ8, H8, I8, hw8, q8⟩
    refine thnF (ht.run _ s8 σ8 H8 _ I8 q8) ?_
    rintro b s9 ⟨H9, I9, q9⟩
    have fin : ∀ {s' : Shared} {H' : Hp}, Inv (X.blk s3 H3 scope ce fp) ([] ++ pinsAt fp s7.heap) σ8 H' s' → Nx H' →
        ∃ m, m < n ∧ ∃ i H', Inv (X.blk s3 H3 scope ce fp) [] (wipe σ vs) H' s' ∧ tn i s'.heap ∧ (∀ b ∈ fp, H' b = none) ∧ W i m H' := by
      intro s' H' I' nx
      obtain ⟨m', hm, w'⟩ := hNx H' nx
      have pin' : ∀ b ∈ fp, ∀ o, s7.heap.get? b = some o → s'.heap.get? b = some o ∧ H' b = none := fun b hb o e => by
        obtain ⟨z1, z2, _⟩ := I'.pin (b, o) (List.mem_append_right _ (List.mem_append_right _ (mem_pinsAt hb e)))
        exact ⟨z1, z2⟩
      have hl : (wipe σ vs).length = σ8.length := by rw [← hw8, wipe_length]
      refine ⟨m', hm, i + 1, H', (I'.unpinned (pins := [])).weak hl ?_, T.keep _ _ _ st7 fun b hb o e => (pin' b hb o e).1, ?_, w'⟩
      · intro j v e
        rw [← hw8] at e
        exact (wipe_some e).1
      · intro b hb
        obtain ⟨o, e, _⟩ := T.obj _ _ st7 b hb
        exact (pin' b hb o e).2
    cases b
    · simp only [Bool.false_eq_true, if_false] at q9 ⊢
      exact fin I9 q9
    · simp only [if_true] at q9 ⊢
      refine thnF (he.run _ s9 σ8 H9 _ I9 q9) ?_
      rintro z s10 ⟨yv, H10, I10, r10, q10⟩
      refine thnF (mt_saddK _ s10 σ8 H10 (.ref D) [yv] (.ref D) [z] _ I10 rfl (.cons r10 .nil) q10) ?_
      rintro _ s11 ⟨_, H11, I11, _, nx⟩
      exact fin I11 nx
theorem sc_run {pins : List (Addr × Obj)} {s : Shared} {σ : St} {H : Hp} {Q : VK} {pos pos' : Pos} {use : Option (Value → Sem Unit)} {Qf : Value → Shared → Prop} (hc : X.calm = true) (hN : X.N.Nodup) (I : Inv X pins σ H s) (hi : PI X tg iter wi) (ok : BlkOk X.N X.env.scope scope own)
    (hg : ∀ (s : Shared) (H : Hp) (C : Addr) (cl : List (Str × Addr)) (fp : List Addr), PG (X.blk s H scope (compEnvC scope cl C X.env) fp) tg g)
    (ht : ∀ (s : Shared) (H : Hp) (C : Addr) (cl : List (Str × Addr)) (fp : List Addr), PTs (X.blk s H scope (compEnvC scope cl C X.env) fp) ifs tt)
    (he : ∀ (s : Shared) (H : Hp) (C : Addr) (cl : List (Str × Addr)) (fp : List Addr), PE (X.blk s H scope (compEnvC scope cl C X.env) fp) elt te)
    (hs : ∀ x, foldedSetIterable iter X.env x = pure x) (h : zSc X.prog X.w wi g tt te (own.map (·.2)) σ H Q)
    (done : ∀ D C s' m H', Inv X pins σ H' s' → Q (.ref D) H' → s'.heap.Ns C m → FpOk X pins H' C → compPost (model X.prog X.w) X.A X.xe use Qf (.ref D) C (.ok .next) s') :
    wpAny (model X.prog X.w) X.A (comprehension (.SetComp elt [⟨tg, iter, ifs, 0⟩] scope pos) scope X.env pos' (newSet (.type "set")) false (eval iter X.env) use) Qf X.xe s := by
  have hfree : ∀ y ∈ scope.names, y.2 = .free → ∃ c, X.env.cells.lookup y.1 = some c := by
    intro y hy e
    rcases ok.free y hy e with k | k
    · exact I.ok.has _ (.inl k)
    · exact I.ok.has _ (.inr k)
  refine wpAny_comprehension_free (use := use) rfl hs (closure_ok hfree) ok.kind (fun y hy e => by rw [ok.uniq y hy, e]) (thn (hi.run pins s σ H _ I h) fun xv s1 hx => thn hx ?_)
  rintro itv s2 ⟨it, fp, tn, J, H2, rfl, I2, T, st2, f2, q⟩
  refine PpSet.newSet_ok (newEnv_comp ?_)
  have hDn : H2 s2.heap.objs.size = none := I2.hok.fresh (Nat.le_refl _)
  obtain ⟨W, ⟨m0, w0⟩, turn⟩ := q _ hDn
  -- the new set is known
  have I3 : Inv X pins σ (upd H2 s2.heap.objs.size (SetK X.prog X.w s2.heap.objs.size (fun _ => false) 0)) { s2 with heap := s2.heap.push (set0 X.w) } :=
    I2.laid (t' := s2.toks) (fun b o e => Heap.get?_push_of_some _ e) (Nat.le_refl _) (setK_new set0_key)
  have f3 : ∀ b ∈ fp, FpOk X pins (upd H2 s2.heap.objs.size (SetK X.prog X.w s2.heap.objs.size (fun _ => false) 0)) b ∧ b < (s2.heap.push (set0 X.w)).objs.size := by
    intro b hb
    obtain ⟨o, e, _⟩ := T.obj _ _ st2 b hb
    have lt := Heap.lt_size e
    refine ⟨⟨?_, (f2 b hb).2⟩, by rw [Heap.size_push]; exact Nat.lt_succ_of_lt lt⟩
    rw [upd_ne (Nat.ne_of_lt lt)]
    exact (f2 b hb).1
  have st3 : tn 0 (s2.heap.push (set0 X.w)) := T.keep _ _ _ st2 fun b _ o e => Heap.get?_push_of_some _ e
  generalize hs3 : ({ s2 with heap := s2.heap.push (set0 X.w) } : Shared) = s3 at I3
  have h3 : s3.heap = s2.heap.push (set0 X.w) := by rw [← hs3]
  rw [← h3] at f3 st3
  generalize hH3 : upd H2 s2.heap.objs.size (SetK X.prog X.w s2.heap.objs.size (fun _ => false) 0) = H3 at I3 f3 w0
  have I4 := block_start I3 ok hN f3
  show codeAny _ _ (.compStart (.SetComp elt [⟨tg, iter, ifs, 0⟩] scope pos) 0 (.ref it) (.ref s2.heap.objs.size) (compEnvC scope (cellsFrom (s3.heap.objs.size + 1) scope.names (cloFrom X.env.cells scope.names [])) s3.heap.objs.size X.env)) (compPost (model X.prog X.w) X.A X.xe use Qf (.ref s2.heap.objs.size) s3.heap.objs.size) { s3 with heap := pushCells (s3.heap.push { cls := .type "dict", data := .dict #[] }) scope.names }
  have st4 : tn 0 (pushCells (s3.heap.push { cls := .type "dict", data := .dict #[] }) scope.names) := T.keep _ _ _ st3 fun b _ o e => pushCells_keeps _ _ _ _ (Heap.get?_push_of_some _ e)
  have nfp : ∀ b ∈ fp, H3 b = none := fun b hb => (f3 b hb).1.1
  have pg := hg s3 H3 s3.heap.objs.size (cellsFrom (s3.heap.objs.size + 1) scope.names (cloFrom X.env.cells scope.names [])) fp
  have pt := ht s3 H3 s3.heap.objs.size (cellsFrom (s3.heap.objs.size + 1) scope.names (cloFrom X.env.cells scope.names [])) fp
  have pe := he s3 H3 s3.heap.objs.size (cellsFrom (s3.heap.objs.size + 1) scope.names (cloFrom X.env.cells scope.names [])) fp
  generalize hce : compEnvC scope (cellsFrom (s3.heap.objs.size + 1) scope.names (cloFrom X.env.cells scope.names [])) s3.heap.objs.size X.env = ce at I4 pg pt pe ⊢
  have cL : ce.locals = s3.heap.objs.size := by
    rw [← hce]
    rfl
  have out : ∀ H5 s6, Inv (X.blk s3 H3 scope ce fp) [] (wipe σ (own.map (·.2))) H5 s6 → Q (.ref s2.heap.objs.size) H5 →
      compPost (model X.prog X.w) X.A X.xe use Qf (.ref s2.heap.objs.size) s3.heap.objs.size (.ok .next) s6 := by
    intro H5 s6 I6 qq
    have I7 : Inv X pins σ H5 s6 := I3.call' (ch := fp) I6.os I6.base I6.hok I6.bare fun b hb => by
      obtain ⟨⟨_, g1, _, g3, g4, g5⟩, _⟩ := f3 b hb
      exact ⟨g3, g1, g4, g5⟩
    have nC : H5 s3.heap.objs.size = none := by
      have z : H5 ce.locals = none := I6.free
      rwa [cL] at z
    obtain ⟨m, hn, _⟩ := I6.loc
    have hn : s6.heap.Ns ce.locals m := hn
    rw [cL] at hn
    exact done _ _ s6 m H5 I7 qq hn (I3.fpOk (Nat.le_refl _) nC)
  have loop := sc_turns (elt := elt) (iter := iter) (pos := pos) hc T pg pt pe turn I4 st4 nfp w0 out
  exact PpSet.codeAny_compStart_set loop (T.self X.A 0 _ _ _ st4 loop)
theorem pez_sc {pos : Pos} (hc : X.calm = true) (hN : X.N.Nodup) (hi : PI X tg iter wi) (ok : BlkOk X.N X.env.scope scope own)
    (hg : ∀ (s : Shared) (H : Hp) (C : Addr) (cl : List (Str × Addr)) (fp : List Addr), PG (X.blk s H scope (compEnvC scope cl C X.env) fp) tg g)
    (ht : ∀ (s : Shared) (H : Hp) (C : Addr) (cl : List (Str × Addr)) (fp : List Addr), PTs (X.blk s H scope (compEnvC scope cl C X.env) fp) ifs tt)
    (he : ∀ (s : Shared) (H : Hp) (C : Addr) (cl : List (Str × Addr)) (fp : List Addr), PE (X.blk s H scope (compEnvC scope cl C X.env) fp) elt te)
    (hs : ∀ x, foldedSetIterable iter X.env x = pure x := by intro _; rfl) :
    PE X (.SetComp elt [⟨tg, iter, ifs, 0⟩] scope pos) (zSc X.prog X.w wi g tt te (own.map (·.2))) := by
  constructor
  intro pins s σ H Q I h
  rw [PpSet.eval_SetComp]
  refine sc_run hc hN I hi ok hg ht he hs h fun D C s' m H' I' q hn f => ⟨m, hn, fun h2 sb => ?_⟩
  obtain ⟨g0, g1, g2, g3, g4, g5⟩ := f
  exact ⟨.ref D, H', I'.turned (t' := s'.toks) (fun b o hb e => (sb.2 b hb).trans e) g0 g1 g3 g4 g5, rfl, q⟩
/-- name = {..} on one line -/
theorem psz_setSc {i : Nat} {y : Str} {py pos spos : Pos} (hc : X.calm = true) (hN : X.N.Nodup) (hy : X.N[i]? = some y) (hyl : X.env.scope.names.lookup y = some .local)
    (hsw : swapsWith (.SetComp elt [⟨tg, iter, ifs, 0⟩] scope pos) (some (.Name y py)) spos.line X.env = pure true) (hi : PI X tg iter wi) (ok : BlkOk X.N X.env.scope scope own)
    (hg : ∀ (s : Shared) (H : Hp) (C : Addr) (cl : List (Str × Addr)) (fp : List Addr), PG (X.blk s H scope (compEnvC scope cl C X.env) fp) tg g)
    (ht : ∀ (s : Shared) (H : Hp) (C : Addr) (cl : List (Str × Addr)) (fp : List Addr), PTs (X.blk s H scope (compEnvC scope cl C X.env) fp) ifs tt)
    (he : ∀ (s : Shared) (H : Hp) (C : Addr) (cl : List (Str × Addr)) (fp : List Addr), PE (X.blk s H scope (compEnvC scope cl C X.env) fp) elt te)
    (hs : ∀ x, foldedSetIterable iter X.env x = pure x := by intro _; rfl) :
    PS X (.Assign [.Name y py] (.SetComp elt [⟨tg, iter, ifs, 0⟩] scope pos) spos) (tAsg (zSc X.prog X.w wi g tt te (own.map (·.2))) (gName i)) := by
  constructor
  intro pins s σ H D I h
  rw [exec_Assign_Name_used _ _ _ _ hsw]
  refine wpAny_bind (wpAny_standAt (wpAny_bind ?_))
  have h : zSc X.prog X.w wi g tt te (own.map (·.2)) σ H (fun x H1 => gName i x σ H1 D.nx) := h
  show wpAny _ X.A (do let _ ← comprehension (.SetComp elt [⟨tg, iter, ifs, 0⟩] scope pos) scope X.env (firstIterPos [⟨tg, iter, ifs, 0⟩] pos) (newSet (.type "set")) false (eval iter X.env) (some (assign (.Name y py) X.env))) _ _ s
  refine wpAny_bind (thn (sc_run (Qf := fun _ s' => SP X pins D .next s') hc hN I hi ok hg ht he hs h ?_) fun _ s' hq => wpAny_pure (wpAny_pure hq))
  intro L C s' m H' I' q hn f
  show wpAny _ _ (assign (.Name y py) X.env (.ref L)) _ _ _
  refine wpAny_assign_Name (store_ok2 (v := V.ref L) I' hN hy (.inl hyl) rfl (fun s2 I2 ha => ?_) (.inr hyl))
  obtain ⟨a, sb, ha⟩ := ha
  obtain ⟨g0, g1, g2, g3, g4, g5⟩ := f
  have nCa : C ≠ a := by
    rcases ha with z | z
    · rw [z]
      exact g1
    · exact fun e => g4 y a z e.symm
  exact ⟨m, hn.sameBut sb nCa, fun h3 sb3 => ⟨_, H', I2.turned (t' := s2.toks) (fun b o hb e => (sb3.2 b hb).trans e) g0 g1 g3 g4 g5, q⟩⟩
theorem sw_sc {gs : List Comprehension} {pos py : Pos} {y : Str} {l : Nat} {env : Env} (hk : env.scope.kind = .function) (hy : env.scope.names.lookup y = some .local) (hl : (py.line == pos.line) = true)
    (ha : (scope.names.any fun (n, k) => n == y && (k == .local || k == .cell)) = false) : swapsWith (.SetComp elt gs scope pos) (some (.Name y py)) l env = pure true := by
  have e1 : env.kindOf y = some .local := hy
  have e2 : env.blockKind = .function := by
    unfold Env.blockKind
    rw [hk]
    rfl
  unfold swapsWith
  simp only [e1, e2, ha, Expr.pos, hl]
  rfl
end
end Z
namespace Z
open PySem PySem.Spec PyProof.Rows L2

theorem passN {X : Cx} : Passes (L2.CX X.prog X.w) X (fun _ _ _ => False) := fun pins σ H s e s' I h => by
  obtain ⟨_, _, _, _, _, _, _, _, _, _, _, _, z⟩ := h
  exact False.elim z
section
variable {X : Cx}
/-! ### k in d, d a dict -/
def zDIn (neg : Bool) : R2 := fun x y H Q => ∃ a o, y = .ref a ∧ DGet H a x o ∧ Q (.bl (if neg = true then !o.isSome else o.isSome)) H
theorem op_zDIn (hu : X.A.units + 1 < cLine) : OpR X (compareOp .In) (zDIn false) := by
  intro pins s σ H x y v u Q I rx ry h
  obtain ⟨a, o, rfl, g, q⟩ := h
  obtain rfl : u = Value.ref a := ry
  exact d_in hu I g rx fun s2 I2 => ⟨.bl o.isSome, H, I2, rfl, q⟩
theorem op_zDNin (hu : X.A.units + 1 < cLine) : OpR X (compareOp .NotIn) (zDIn true) := by
  intro pins s σ H x y v u Q I rx ry h
  obtain ⟨a, o, rfl, g, q⟩ := h
  obtain rfl : u = Value.ref a := ry
  exact d_notIn hu I g rx fun s2 I2 => ⟨.bl (!o.isSome), H, I2, rfl, q⟩

/-! ### == and in of own instances -/
variable {n : Nat} {C f : Addr} {sp : Sp}
/-- one == other, both instances of the class at C -/
def zEqO (C : Addr) (sp : Sp) : R2 := fun x y H Q => ∃ a b dx dy fs gs, x = .ref a ∧ y = .ref b ∧ H a = some (.ins C dx fs) ∧ H b = some (.ins C dy gs) ∧
  sp [x, y] H (fun v H1 => ∃ c, v = .bl c ∧ Q v H1) fun _ _ _ => False
theorem op_zEqO (F : FnR X.prog X.w X.K X.mg X.base (L2.CX X.prog X.w) n f sp) (hs : PySem.W.findIn X.K (.ref C) "__eq__" = some (some (.ref f))) (hf : PySem.W.isFn X.K (.ref f) = true) (hr : Room n X.A) :
    OpR X (compareOp .Eq) (zEqO C sp) := by
  intro pins s σ H x y v u Q I rx ry h
  obtain ⟨a, b, dx, dy, fs, gs, rfl, rfl, ha, hb, h⟩ := h
  obtain rfl : v = Value.ref a := rx
  obtain rfl : u = Value.ref b := ry
  obtain ⟨mA, J1, _⟩ := ins_get I.hok ha
  obtain ⟨mB, J2, _⟩ := ins_get I.hok hb
  obtain ⟨od1, J1, _⟩ := J1.look
  obtain ⟨od2, J2, _⟩ := J2.look
  obtain ⟨m, hF⟩ := I.fr
  show wpAny (model X.prog X.w) X.A (richCompare .Eq (.ref a) (.ref b)) (EP X pins σ Q) X.xe s
  refine PySem.W.cmp_K (op := .Eq) (tb := .ref C) hr.units0 hF I.ok.mod.kin J1 J2.type (by simp [PySem.W.notFirst]) hs hf ?_
  refine thn (wpAny_call (run_fnR (us := [.ref a, .ref b]) (vs := [.ref a, .ref b]) F hr passN I (.cons rfl (.cons rfl .nil)) h)) ?_
  rintro w s2 ⟨z, H2, I2, rz, c, rfl, q⟩
  obtain rfl : w = Value.bool c := rz
  exact ⟨.bl c, H2, I2, rfl, q⟩
/-- x in o, o an instance of the class at C -/
def zInO (C : Addr) (sp : Sp) : R2 := fun x y H Q => ∃ b dy gs, y = .ref b ∧ H b = some (.ins C dy gs) ∧ sp [y, x] H (fun v H1 => ∃ c, v = .bl c ∧ Q v H1) fun _ _ _ => False
theorem op_zInO (F : FnR X.prog X.w X.K X.mg X.base (L2.CX X.prog X.w) n f sp) (hs : PySem.W.findIn X.K (.ref C) "__contains__" = some (some (.ref f))) (hf : PySem.W.isFn X.K (.ref f) = true) (hr : Room n X.A) :
    OpR X (compareOp .In) (zInO C sp) := by
  intro pins s σ H x y v u Q I rx ry h
  obtain ⟨b, dy, gs, rfl, hb, h⟩ := h
  obtain rfl : u = Value.ref b := ry
  obtain ⟨mB, J2, _⟩ := ins_get I.hok hb
  obtain ⟨od2, J2, _⟩ := J2.look
  obtain ⟨m, hF⟩ := I.fr
  refine PySem.W.in_K hF I.ok.mod.kin J2 hs hf ?_
  refine thn (wpAny_call (run_fnR (us := [.ref b, v]) (vs := [.ref b, x]) F hr passN I (.cons rfl (.cons rx .nil)) h)) ?_
  rintro w s2 ⟨z, H2, I2, rz, c, rfl, q⟩
  obtain rfl : w = Value.bool c := rz
  exact wpAny_pure ⟨.bl c, H2, I2, rfl, q⟩

/-! ### C(*xs), C in a local name -/
variable {k i : Nat} {x : Str} {e : Expr} {te : TE} {p pos sp_ : Pos} {E : XK}
def zNewL (K : PySem.W.Frag) (i : Nat) (C : Addr) (sp : Sp) (E : XK) (te : TE) : TE := fun σ H Q => σ[i]? = some (some (.ref C)) ∧ te σ H fun y H1 => ∃ a xs, y = .ref a ∧ (SqT K H1 a xs ∨ SqL K H1 a xs) ∧
  ∀ o dx, H1 o = none → H1 dx = none → dx ≠ o → sp (.ref o :: xs) (upd (upd H1 dx (.own o)) o (.ins C dx [])) (fun v H2 => v = .non ∧ Q (.ref o) H2) E
theorem pe_zNewL (M : Mk X.K C f) (F : FnR X.prog X.w X.K X.mg X.base (L2.CX X.prog X.w) k f sp) (hr : Room (k + 1) X.A) (hN : X.N[i]? = some x) (hv : Vis X.env.scope x) (hx : Passes (L2.CX X.prog X.w) X E) (he : PE X e te)
    (hdb : (x == ("__debug__" : Str)) = false := by decide) (hcd : (x == ("__classdict__" : Str)) = false := by decide) (hst : starEach [.Starred e sp_] X.env = [(true, eval e X.env)] := by rfl) :
    PE X (.Call (.Name x p) [.Starred e sp_] [] pos) (zNewL X.K i C sp E te) := by
  constructor
  intro pins s σ H Q I h
  obtain ⟨hs, ht⟩ := h
  refine wpAny_Call_Name_kw (thn ((pe_var (pos := p) hN hv hdb hcd).run pins s σ H (fun v H1 => v = .ref C ∧ H1 = H) I ⟨.ref C, hs, rfl, rfl⟩) ?_)
  rintro u s1 ⟨v, H1, I1, r1, rfl, rfl⟩
  cases r1
  refine PySem.W.callWith_S (h₀ := X.base) I.ok.mod.kin M.kp (thn (he.run pins s1 σ _ _ I1 ht) ?_) hst
  rintro w s2 ⟨y, H2, I2, ry, a, xs, rfl, hxs, q⟩
  obtain rfl : w = Value.ref a := ry
  exact StX.star_any I2 hxs fun us s3 I3 rv => ⟨I3.kIn, StX.run_makeR M F hr hx I3 rv q⟩

/-! ### isinstance of an own instance -/
structure CIns (K : PySem.W.Frag) (C : Addr) : Prop where
  cl : Cls K C
  ha : PySem.W.findIn K (.ref C) "__class__" = some (some (.builtin "object.__class__"))
  hn : PySem.W.specialIn K (.builtin "object.__class__") "__get__" = some (some (.builtin "getset_descriptor.__get__"))
  ht : PySem.W.takesIn K (.builtin "object.__class__") = some true
  hm : PySem.W.mroIn K C (.type "object") = some true
theorem isi_own {K : PySem.W.Frag} {C : Addr} {H : Hp} {Q : VK} {a dx : Addr} {fs : List (Str × V)} (c : CIns K C) (ea : H a = some (.ins C dx fs)) (q : Q (.bl true) H) : rIsi K [.ref a, .ref C] H Q :=
  ⟨_, _, .ref C, .ref C, true, rfl, .own C, .base (.ins ea c.cl c.ha c.hn c.ht c.hm), by simp [PySem.W.kitOne], q⟩
end
section
variable {X : Cx}
/-! ### tuple(x) -/
def zTupOf (K : PySem.W.Frag) : List V → Hp → VK → Prop := fun xs H Q => match xs with
  | [.ref p] => ∃ ys, (SqL K H p ys ∧ ∀ l, H l = none → Q (.ref l) (upd H l (.tup ys))) ∨ (SqT K H p ys ∧ Q (.ref p) H)
  | _ => False
theorem call_tupZ : CallR X (.type "tuple") (zTupOf X.K) := by
  intro pins s σ H xs us Q I r h
  unfold zTupOf at h
  split at h
  · obtain ⟨ys, h⟩ := h
    exact call_tuple_of pins s σ H _ us Q I r ⟨_, ys, rfl, h⟩
  · exact h.elim
end

/-! ### def f(a, *xs) -/
def spStar (n : Nat) (sp : Sp) : Sp := fun vs H Q E => ∃ ws rest, vs = ws ++ rest ∧ ws.length = n ∧ rest.length ≤ sizeLine ∧ ∀ p, H p = none → sp (ws ++ [.ref p]) (upd H p (.tup rest)) Q E
section
variable {P : Program} {w : World} {K : PySem.W.Frag} {mg : Str → Option Value} {base : Heap}
theorem okStar {x qual pv : Str} {st : Stmt} {f : Addr} {fd : FuncData} {N ps : List Str} {k : Nat} {sp : Sp} (F : Fun K x qual st f fd) (S : FnScope N (ps ++ [pv]) (defScope st))
    (hb : ∀ (kV doc pm : Value) (an : Option Addr) (cdv ct : Value) (us rest : List Value), us.length = ps.length →
      bindArgs (PySem.W.fnOf x qual (defArgs st) (defBody st) (defScope st) .none kV doc pm an cdv ct) ⟨us ++ rest, []⟩ = (newTuple rest >>= fun t => pure (ps.zip us ++ [(pv, t)])))
    (hbody : ∀ (cdv : Value) (A : Around) (outer : List Env) (s : Shared) (H : Hp) (vs : List V) (Q : VK) (E : XK),
      Room k (A.deeper (envOfC qual (defScope st) s.heap.objs.size f cdv)) → sp vs H Q E →
      ∃ t, PSs (cxOf (L2.CX P w) P w K mg base N qual (defScope st) f cdv A outer s H E) (defBody st) t ∧ t { nx := fun _ H' => Q .non H', rt := Q } (start N vs) H) :
    FnR P w K mg base (L2.CX P w) (k + 1) f (spStar ps.length sp) := by
  obtain ⟨oc, od, kV, doc, pm, an, cdv, ct, osl, rfl, lk, hcd⟩ := F.ex
  exact StX.fn_star (sp := sp) lk hcd S StX.cxUp (hb kV doc pm an cdv ct) fun A outer s H vs Q E hr hs => hbody cdv A outer s H vs Q E hr hs
end

/-- a set of keys over a walk -/
theorem sc_z {P : Program} {w : World} {J : It} {n : Nat} {G : Hp → Prop} {Y : Nat → Hp → V → Hp → Prop} (wk : Walk J n G Y) {g : TG} {tt : TT} {te : TE} {vs : List Nat} {σ : St} {H1 : Hp} {Q : VK} (Pv : Addr → Nat → Hp → Prop)
    (h0 : ∀ D, H1 D = none → Pv D 0 (upd H1 D (SetK P w D (fun _ => false) 0))) (hG : ∀ D i H, H1 D = none → i ≤ n → Pv D i H → G H)
    (hs : ∀ D i x H H', H1 D = none → i < n → Pv D i H → Y i H x H' → g x (wipe σ vs) H' fun σ2 H2 => wipe σ2 vs = wipe σ vs ∧ tt σ2 H2 fun b H3 =>
      if b = true then te σ2 H3 fun y H4 => rSAddK P w (.ref D) [y] H4 fun _ H5 => Pv D (i + 1) H5 else Pv D (i + 1) H3)
    (hd : ∀ D H, H1 D = none → Pv D n H → Q (.ref D) H) : scGo P w J g tt te vs σ H1 Q := by
  intro D hD
  refine ⟨fun i m H => m = n - i ∧ i ≤ n ∧ Pv D i H, ⟨n, by simp, Nat.zero_le _, h0 D hD⟩, ?_⟩
  rintro i m H ⟨rfl, hi, p⟩
  have q := hG D i H hD hi p
  rcases Nat.lt_or_ge i n with lt | ge
  · exact .inr ⟨wk.goes i H lt q, Pv D (i + 1), fun H' p' => ⟨n - (i + 1), by omega, rfl, lt, p'⟩, fun x H' y => hs D i x H H' hD lt p (wk.yields i H x H' lt q y)⟩
  · obtain rfl : i = n := Nat.le_antisymm hi ge
    exact .inl ⟨wk.stops H q, hd D H hD p⟩

theorem seq_of {a b : TS} {D : Ends} {σ : St} {H : Hp} (h : a { D with nx := b D } σ H) : tSeq a b D σ H := h
theorem ifS_of {t : TT} {a b : TS} {D : Ends} {σ : St} {H : Hp} (c : Bool) (ht : ∀ Q : Bool → Hp → Prop, Q c H → t σ H Q) (h1 : c = true → a D σ H) (h2 : c = false → b D σ H) : tIfS t a b D σ H := ht _ (zite h1 h2)
end Z
namespace Z
open PySem PySem.Spec PyProof.Rows L2
open AutoSeq1 (wpAny_loadPart')
open MeetsSeq

/-! ### x in a list, each question at its own state -/
section
variable {prog : Program} {w : World} {A : Around} {E : Value → Shared → Prop}
/-- at each turn the list is read anew; the items up to here were not it -/
def HasI (prog : Program) (w : World) (A : Around) (E : Value → Shared → Prop) (l : Addr) (x : Value) (N : Nat) (I : Nat → Shared → Prop) : Prop :=
  ∀ i s, I i s → ∃ (items : Array Value) (n : Nat), s.heap.get? l = some { cls := .type "list", data := .seq items n } ∧ items.size = N ∧
    ∀ h1 : i < items.size, wpAny (model prog w) A.in1 (eqBool items[i] x) (fun r s' => r = false ∧ I (i + 1) s') E s
theorem has_loop {R : Result → Shared → Prop} (l : Addr) (x : Value) (N : Nat) (I : Nat → Shared → Prop) (hl : HasI prog w A (fun e s' => R (.error e) s') l x N I) (fin : ∀ s, I N s → R (.ok (.ret (.bool false))) s) (k : Nat) :
    ∀ i : Nat, N - i = k → i ≤ N → ∀ s, I i s → wpAny (model prog w) A.in1 (Builtin.«list.__contains__.loop» ⟨[.ref l, x, rawInt i], []⟩) (GQ.FinOf prog w A R) (fun e s' => R (.error e) s') s := by
  induction k with
  | zero =>
    intro i hk hi s h
    obtain ⟨items, n, hg, hs, _⟩ := hl _ _ h
    obtain rfl : i = N := by omega
    have hR := fin s h
    obtain ⟨hp, g, d, tk, os⟩ := s
    wp_walk using wpAny_loadPart' hg
    have e1 : items[((i : Nat) : Int).toNat]? = none := by simp; omega
    rw [e1]
    wp_walk
    exact hR
  | succ k ih =>
    intro i hk hi s h
    obtain ⟨items, n, hg, hs, turn⟩ := hl _ _ h
    have lt : i < items.size := by omega
    have ht := turn lt
    obtain ⟨hp, g, d, tk, os⟩ := s
    wp_walk using wpAny_loadPart' hg
    have e1 : items[((i : Nat) : Int).toNat]? = some items[i] := by simp [lt]
    rw [e1]
    refine wpAny_bind (wpAny_mono ht ?_ fun _ _ z => z)
    rintro r s2 ⟨rfl, h2⟩
    have hrec := ih (i + 1) (by omega) (by omega) s2 h2
    obtain ⟨hp2, g2, d2, tk2, os2⟩ := s2
    have hc : ((i : Int) + 1) = ((i + 1 : Nat) : Int) := by omega
    wp_walk
    rw [hc]
    exact ⟨plainId_quiet plain_contains_loop _, codeAny_builtin entry_contains_loop (by
      rw [Around.under_plainId plain_contains_loop _]
      exact hrec)⟩
theorem in_none {l : Addr} {x : Value} {N : Nat} {s : Shared} {Q : Value → Shared → Prop} (I : Nat → Shared → Prop) (hl : HasI prog w A E l x N I) (h : I 0 s) (fin : ∀ s, I N s → Q (.bool false) s) :
    wpAny (model prog w) A (compareOp .In x (.ref l)) Q E s := by
  obtain ⟨items, n, hg, hs, _⟩ := hl _ _ h
  have hT : s.TypeIs (.ref l) "list" := ⟨_, hg, rfl⟩
  show wpAny _ A (do return .bool (← contains (.ref l) x)) Q E s
  refine wpAny_bind (wpAny_contains_slot hT F.slot_list_contains (wpAny_mono (GQ.call_here (Q := fun v s' => v = .bool false ∧ Q (.bool false) s') F.slot_list_contains hT F.entry_list_contains (F.args_list_contains_2 _ _) ?_) ?_ fun _ _ z => z))
  · have loop := has_loop (prog := prog) (w := w) (A := A) (R := wants (fun v s' => v = .bool false ∧ Q (.bool false) s') E) l x N I hl (fun s' h' => ⟨rfl, fin s' h'⟩) (N - 0) 0 rfl (Nat.zero_le _) s h
    obtain ⟨hp, g, d, tk, os⟩ := s
    wp_walk using wpAny_loadPart' hg
    exact ⟨plainId_quiet plain_contains_loop _, codeAny_builtin entry_contains_loop (by
      rw [Around.under_plainId plain_contains_loop _]
      exact loop)⟩
  · rintro v s' ⟨rfl, q⟩
    exact wpAny_truthy_bool (wpAny_pure q)
end
/-! ### == of another thing and an own instance -/
section
variable {prog : Program} {w : World} {A : Around} {E : Value → Shared → Prop} {s : Shared} {K : PySem.W.Frag} {x C f : Addr} {ox : Obj} {od : Option Obj} {v : Value} {T ida : String}
theorem rc_other {Q : Value → Shared → Prop} (hT : s.TypeIs v T) (slot : Slot T "__eq__" ida) (J : PySem.W.InstAt s.heap x ox C od) (X : K.In s.heap) (hsub : PySem.W.subIn K (.ref C) (.type T) = some false)
    (hs : PySem.W.findIn K (.ref C) "__eq__" = some (some (.ref f))) (hf : PySem.W.isFn K (.ref f) = true) (hu : A.units < cLine)
    (dec : ∀ Q' : Value → Shared → Prop, Q' .notImplemented s → wpAny (model prog w) A (call (.builtin ida) [v, .ref x]) Q' E s)
    (h : wpAny (model prog w) A (call (.ref f) [.ref x, v]) (PySem.W.CmpBack Q) E s) : wpAny (model prog w) A (richCompare .Eq v (.ref x)) Q E s := by
  have one : wpAny (model prog w) A (tryCompare (.ref x) "__eq__" v) (fun r s' => ∃ u, r = some u ∧ Q u s') E s := by
    unfold tryCompare
    refine wpAny_bind (PySem.W.ifBound_K X J hs hf (wpAny_mono h (fun u s' hv => ?_) fun _ _ e => e))
    cases u <;> first | exact hv.elim | exact wpAny_pure ⟨_, rfl, hv⟩
  rcases hi : cmpInfo CmpOp.Eq with ⟨sym, f', r⟩
  have e1 : f' = "__eq__" := by cases hi; rfl
  have e2 : r = "__eq__" := by cases hi; rfl
  subst e1 e2
  simp only [richCompare, hi, hT.oneThing_none]
  try with_reducible refine wpAny_holding ?_
  refine wpAny_bind (wpAny_cRoomFor hu ?_)
  refine wpAny_bind (wpAny_typeOf hT (wpAny_bind (J.type.here ?_)))
  have ne : (Value.type T != Value.ref C) = true := by simp
  simp only [ne, if_true]
  refine wpAny_bind ((PySem.W.looks_subIn X hsub).here ?_)
  simp only [Bool.false_eq_true, if_false, Bool.not_false, if_true]
  refine wpAny_bind (m := tryCompare v _ (.ref x)) (wpAny_tryCompare_declines hT slot (dec _ ⟨rfl, ?_⟩))
  refine wpAny_bind (wpAny_mono one (fun r s' z => ?_) fun _ _ e => e)
  obtain ⟨u, rfl, q⟩ := z
  exact wpAny_pure q
end

section
variable {prog : Program} {w : World} {A : Around} {E : Value → Shared → Prop} {s : Shared} {x : Addr} {ox : Obj}
theorem dec_none {Q : Value → Shared → Prop} (h : Q .notImplemented s) : wpAny (model prog w) A (call (.builtin "NoneType.__eq__") [.none, .ref x]) Q E s :=
  call_gives F.slot_NoneType_eq rfl F.entry_NoneType_eq (F.args_NoneType_eq_2 _ _) (SeqAt.NoneType___eq___none_ref_0 x) h
theorem dec_str {z : Str} {t : Tok} {Q : Value → Shared → Prop} (hx : s.heap.get? x = some ox) (hd : ox.data = .plain) (h : Q .notImplemented s) : wpAny (model prog w) A (call (.builtin "str.__eq__") [.str z t, .ref x]) Q E s := by
  refine GQ.call_here F.slot_str_eq (typeIs_str s z t) F.entry_str_eq (F.args_str_eq_2 _ _) ?_
  obtain ⟨cls, dd, data, sl⟩ := ox
  simp only at hd
  subst hd
  obtain ⟨hp, g, d, tk, os⟩ := s
  wp_walk using wpAny_load hx
  exact h
theorem dec_list {l : Addr} {items : Array Value} {n : Nat} {Q : Value → Shared → Prop} (hl : s.heap.get? l = some { cls := .type "list", data := .seq items n })
    (hi : ∀ (A' : Around) (Q' : Bool → Shared → Prop) (E' : Value → Shared → Prop), Q' false s → wpAny (model prog w) A' (isInstance (.ref x) (.type "list")) Q' E' s) (h : Q .notImplemented s) :
    wpAny (model prog w) A (call (.builtin "list.__eq__") [.ref l, .ref x]) Q E s := by
  refine GQ.call_here F.slot_list_eq ⟨_, hl, rfl⟩ F.entry_list_eq (F.args_list_eq_2 _ _) ?_
  obtain ⟨hp, g, d, tk, os⟩ := s
  have hi' : ∀ {A' : Around} {Q' : Bool → Shared → Prop} {E' : Value → Shared → Prop}, Q' false ⟨hp, g, d, tk, os⟩ → wpAny (model prog w) A' (isInstance (.ref x) (.type "list")) Q' E' ⟨hp, g, d, tk, os⟩ := fun q => hi _ _ _ q
  wp_walk using wpAny_loadPart' hl, hi'
  exact h
theorem dec_tuple {l : Addr} {items : Array Value} {n : Nat} {dd : Option Addr} {sl : Array (Option Value)} {Q : Value → Shared → Prop} (hl : s.heap.get? l = some { cls := .type "tuple", dict := dd, data := .seq items n, slots := sl })
    (hi : ∀ (A' : Around) (Q' : Bool → Shared → Prop) (E' : Value → Shared → Prop), Q' false s → wpAny (model prog w) A' (isInstance (.ref x) (.type "tuple")) Q' E' s) (h : Q .notImplemented s) :
    wpAny (model prog w) A (call (.builtin "tuple.__eq__") [.ref l, .ref x]) Q E s := by
  refine GQ.call_here F.slot_tuple_eq ⟨_, hl, rfl⟩ F.entry_tuple_eq (F.args_tuple_eq_2 _ _) ?_
  obtain ⟨hp, g, d, tk, os⟩ := s
  have hi' : ∀ {A' : Around} {Q' : Bool → Shared → Prop} {E' : Value → Shared → Prop}, Q' false ⟨hp, g, d, tk, os⟩ → wpAny (model prog w) A' (isInstance (.ref x) (.type "tuple")) Q' E' ⟨hp, g, d, tk, os⟩ := fun q => hi _ _ _ q
  wp_walk using wpAny_loadPart' hl, hi'
  exact h
end

theorem eqBool_of {prog : Program} {w : World} {A : Around} {E : Value → Shared → Prop} {s : Shared} {u : Value} {x : Addr} {Q : Bool → Shared → Prop} (hu : u = .none ∨ (∃ z t, u = .str z t) ∨ ∃ b, u = .ref b ∧ b ≠ x)
    (h : wpAny (model prog w) A (richCompare .Eq u (.ref x)) (fun v s' => ∃ r, v = .bool r ∧ Q r s') E s) : wpAny (model prog w) A (eqBool u (.ref x)) Q E s := by
  have fin : ∀ v s', (∃ r, v = .bool r ∧ Q r s') → wpAny (model prog w) A (truthOfDropped v) Q E s' := by
    rintro v s' ⟨r, rfl, q⟩
    exact wpAny_truthy_bool q
  rcases hu with rfl | ⟨z, t, rfl⟩ | ⟨b, rfl, hb⟩
  · unfold eqBool
    refine wpAny_holding (wpAny_ite_split (fun e => ?_) fun _ => wpAny_bind (wpAny_mono h fin fun _ _ z => z))
    exact absurd (eq_of_beq e) (fun z => by cases z)
  · unfold eqBool
    refine wpAny_holding (wpAny_ite_split (fun e => ?_) fun _ => wpAny_bind (wpAny_mono h fin fun _ _ z => z))
    exact absurd (eq_of_beq e) (fun z => by cases z)
  · unfold eqBool
    refine wpAny_holding (wpAny_ite_split (fun e => ?_) fun _ => wpAny_bind (wpAny_mono h fin fun _ _ z => z))
    exact absurd (eq_of_beq e) (fun z => by cases z; exact hb rfl)
/-- None, a text, a list, a tuple -/
def Oth (K : PySem.W.Frag) (H : Hp) (v : V) : Prop := v = .non ∨ (∃ z, v = .str z) ∨ (∃ b ys, v = .ref b ∧ H b = some (.lst ys)) ∨ ∃ b ys, v = .ref b ∧ SqT K H b ys
structure OwnNe (K : PySem.W.Frag) (C f : Addr) : Prop where
  none : PySem.W.subIn K (.ref C) (.type "NoneType") = some false
  str : PySem.W.subIn K (.ref C) (.type "str") = some false
  list : PySem.W.subIn K (.ref C) (.type "list") = some false
  tup : PySem.W.subIn K (.ref C) (.type "tuple") = some false
  at_ : PySem.W.findIn K (.ref C) "__eq__" = some (some (.ref f))
  fn : PySem.W.isFn K (.ref f) = true
def zInL (K : PySem.W.Frag) (C : Addr) (sp : Sp) : R2 := fun x y H Q => ∃ a dx fs l xs, x = .ref a ∧ y = .ref l ∧ H a = some (.ins C dx fs) ∧ H l = some (.lst xs) ∧
  (∀ v ∈ xs, Oth K H v ∧ ∀ H', Same H H' → sp [.ref a, v] H' (fun r H2 => r = .bl false ∧ Same H' H2) fun _ _ _ => False) ∧ ∀ H', Same H H' → Q (.bl false) H'
section
variable {X : Cx} {n : Nat} {C f : Addr} {sp : Sp}
theorem op_zInL (F : FnR X.prog X.w X.K X.mg X.base (L2.CX X.prog X.w) n f sp) (o : OwnNe X.K C f) (hr : Room (n + 1) X.A) : OpR X (compareOp .In) (zInL X.K C sp) := by
  intro pins s σ H x y v u Q I rx ry h
  obtain ⟨a, dx, fs, l, xs, rfl, rfl, ha, hl, hv, q⟩ := h
  obtain rfl : v = Value.ref a := rx
  obtain rfl : u = Value.ref l := ry
  refine in_none (N := xs.length) (fun i s' => ∃ H', Inv X pins σ H' s' ∧ Same H H') ?_ ⟨H, I, Same.refl H⟩ ?_
  · rintro i s1 ⟨H1, I1, z1⟩
    obtain ⟨_, its, m, rv, ln, hg⟩ := I1.lstM (z1 _ _ hl)
    refine ⟨its.toArray, m, hg, by simp [ln], fun h1 => ?_⟩
    have k1 : i < xs.length := by
      rw [ln]
      simpa using h1
    obtain ⟨u, hu, ru⟩ := rv.get (List.getElem?_eq_getElem k1)
    have eu : its.toArray[i] = u := by
      have h1' : i < its.length := by simpa using h1
      rw [List.getElem?_eq_getElem h1'] at hu
      simpa using Option.some.inj hu
    rw [eu]
    obtain ⟨ot, sp1⟩ := hv _ (List.getElem_mem k1)
    have ha1 := z1 _ _ ha
    obtain ⟨ox, od, J, hp⟩ := StX.insC_at I1 (.inr ⟨dx, fs, ha1⟩)
    have room : Room n X.A.in1 := hr.in1
    have hun : X.A.in1.units < cLine := room.units0
    -- the question itself
    have ask : ∀ Q' : Value → Shared → Prop, (∀ s2 H2, Inv X pins σ H2 s2 → Same H H2 → Q' (.bool false) s2) → wpAny (model X.prog X.w) X.A.in1 (call (.ref f) [.ref a, u]) (PySem.W.CmpBack Q') X.xe s1 := by
      intro Q' hQ
      have e := I1.env0
      have e0 : Env0 X.prog X.w X.K X.mg X.base X.A.in1 X.stack s1 H1 := ⟨e.frames, e.mod, e.bs, e.bsz, e.funs, e.frf, e.hok, e.bare⟩
      refine wpAny_call (codeAny_mono (F X.A.in1 X.stack s1 H1 [.ref a, u] [.ref a, xs[i]] _ _ room e0 (.cons (show RelV (.ref a) (.ref a) from rfl) (.cons ru .nil)) (sp1 H1 z1)) fun r s2 hq => ?_)
      rcases r with er | fl
      · exact passN pins σ H1 s1 er s2 I1 hq
      · cases fl with
        | ret w =>
          obtain ⟨z, H2, I2, rz, ez, z2⟩ := I1.after hq
          subst ez
          obtain rfl : w = Value.bool false := rz
          exact hQ s2 H2 I2 (z1.trans z2)
        | next => exact hq.elim
        | brk => exact hq.elim
        | cont => exact hq.elim
    have inst : ∀ T : String, PySem.W.subIn X.K (.ref C) (.type T) = some false → ∀ (A' : Around) (Q' : Bool → Shared → Prop) (E' : Value → Shared → Prop), Q' false s1 → wpAny (model X.prog X.w) A' (isInstance (.ref a) (.type T)) Q' E' s1 := by
      intro T hT A' Q' E' q'
      simp only [isInstance]
      exact wpAny_bind (J.type.here ((PySem.W.looks_subIn I1.kIn hT).here q'))
    have back : ∀ s2 H2, Inv X pins σ H2 s2 → Same H H2 → ∃ r, Value.bool false = .bool r ∧ r = false ∧ ∃ H', Inv X pins σ H' s2 ∧ Same H H' := fun s2 H2 I2 z2 => ⟨false, rfl, rfl, H2, I2, z2⟩
    generalize xs[i] = v at ot sp1 ru
    rcases ot with rfl | ⟨z, rfl⟩ | ⟨b, ys, rfl, hb⟩ | ⟨b, ys, rfl, hb⟩
    · obtain rfl : u = Value.none := ru
      exact eqBool_of (.inl rfl) (rc_other (T := "NoneType") rfl PySem.F.slot_NoneType_eq J I1.kIn o.none o.at_ o.fn hun (fun Q' q' => dec_none q') (ask _ back))
    · obtain ⟨t, rfl⟩ := ru
      exact eqBool_of (.inr (.inl ⟨_, _, rfl⟩)) (rc_other (T := "str") rfl PySem.F.slot_str_eq J I1.kIn o.str o.at_ o.fn hun (fun Q' q' => dec_str J.at_ hp q') (ask _ back))
    · obtain rfl : u = Value.ref b := ru
      have hb1 := z1 _ _ hb
      obtain ⟨_, its2, m2, _, _, hg2⟩ := I1.lstM hb1
      have ne : b ≠ a := fun z => by rw [z, ha1] at hb1; cases hb1
      exact eqBool_of (.inr (.inr ⟨_, rfl, ne⟩)) (rc_other (T := "list") ⟨_, hg2, rfl⟩ PySem.F.slot_list_eq J I1.kIn o.list o.at_ o.fn hun (fun Q' q' => dec_list hg2 (inst "list" o.list) q') (ask _ back))
    · obtain rfl : u = Value.ref b := ru
      obtain ⟨its2, _, p2, _⟩ := I1.tuple (show SqT X.K H1 b ys from by
        rcases hb with (h | ⟨o, h⟩) | h
        · exact .inl (.inl (z1 _ _ h))
        · exact .inl (.inr ⟨o, z1 _ _ h⟩)
        · exact .inr h)
      obtain ⟨ob, e1, c1, m2, d1⟩ := p2
      obtain ⟨cls, dd, data, sl⟩ := ob
      simp only at c1 d1
      subst c1 d1
      have ne : b ≠ a := fun z => by
        rw [z, J.at_] at e1
        cases e1
        have := J.cls
        cases this
      exact eqBool_of (.inr (.inr ⟨_, rfl, ne⟩)) (rc_other (T := "tuple") ⟨_, e1, rfl⟩ PySem.F.slot_tuple_eq J I1.kIn o.tup o.at_ o.fn hun (fun Q' q' => dec_tuple e1 (inst "tuple" o.tup) q') (ask _ back))
  · rintro s2 ⟨H2, I2, z2⟩
    exact ⟨.bl false, H2, I2, rfl, q H2 z2⟩
end

/-! ### C() of a class whose __init__ takes any number; str(int) -/
theorem pe_zMakeR0 {X : Cx} {k : Nat} {f C : Addr} {sp : Sp} {E : XK} {x : Str} {p pos : Pos} (M : Mk X.K C f) (F : FnR X.prog X.w X.K X.mg X.base (L2.CX X.prog X.w) k f sp) (hr : Room (k + 1) X.A) (hg : Gl X x) (hm : X.mg x = some (.ref C))
    (hx : Passes (L2.CX X.prog X.w) X E) (hdb : (x == ("__debug__" : Str)) = false := by decide) : PE X (.Call (.Name x p) [] [] pos) (StX.tMakeR C sp E tNil) := by
  constructor
  intro pins s σ H Q I h
  refine wpAny_Call_Name_kw (ld_glob I hg hm ?_ hdb)
  exact PySem.W.callWith_K0 I.kIn M.kp (StX.run_makeR (us := []) M F hr hx I .nil h)
def rStrI : List V → Hp → VK → Prop := fun xs H Q => ∃ i : Int, xs = [.int i] ∧ i.natAbs.log2 < 1920 ∧ Q (.str (toString i)) H
theorem call_strZ {X : Cx} : CallR X (.type "str") rStrI := call_str_int
end Z
namespace Z
open PySem PySem.Spec PyProof.Rows L2
/-! ### C.m(..), m a staticmethod of the class C -/
structure SMet (K : PySem.W.Frag) (C : Addr) (mc : Value) (m : Str) (p g : Addr) : Prop where
  at_ : PySem.W.findCls K (.ref C) mc m = some (.get (.builtin "staticmethod.__get__") (.ref p) .none (.ref C))
  rc : ∃ rest, PySem.W.recIn K p "staticmethod" = some (.ref g :: rest)
  kp : PySem.W.keepIn K (.ref g) = true
def tSMeth (C : Addr) (sp : Sp) (E : XK) (ta : TE) (t : TA) : TE := fun σ H Q => ta σ H fun x H1 => x = .ref C ∧ t σ H1 fun vs H2 => sp vs H2 Q E
section
variable {X : Cx} {CX : CXT} {k : Nat} {C p g : Addr} {mc : Value} {sp : Sp} {E : XK} {o e : Expr} {es : List Expr} {m : Str} {pos apos : Pos} {ta : TE} {t : TA} {pl : Sem Bool}
theorem pe_smeth (he : PE X o ta) (r : ClX.CRead X.K C mc) (c : SMet X.K C mc m p g) (F : FnR X.prog X.w X.K X.mg X.base CX k g sp) (hr : Room k X.A) (hx : Passes CX X E) (ha : PA X (e :: es) t)
    (hst : starEach (e :: es) X.env = (false, eval e X.env) :: starEach es X.env := by rfl) (hpl : (backTo pos (starEach es X.env)).any (·.1) = false := by rfl)
    (ht : eval (.Call (.Attribute o m apos) (e :: es) [] pos) X.env = (do
      let ov ← eval o X.env
      standAt apos.atName
      let (f, first) ← holding [ov] (getMethod ov m pl)
      callWith pos f first (backTo pos (starEach (e :: es) X.env)) (backToKw pos (keywordEach [] X.env))) := by rfl) :
    PE X (.Call (.Attribute o m apos) (e :: es) [] pos) (tSMeth C sp E ta t) := by
  refine ⟨fun pins s σ H Q I h => ?_⟩
  refine PySem.W.methodCall_KW (pl := pl) (thn (he.run pins s σ H _ I h) fun u s1 ⟨x, H1, I1, rx, ex, q⟩ => ?_) ht
  subst ex
  obtain rfl : u = Value.ref C := rx
  obtain ⟨rest, hp⟩ := c.rc
  refine PySem.W.method_cls I1.kIn r.ga (PySem.W.cls_bind I1.kIn r.rd c.at_ ?_)
  refine wpAny_call (PySem.W.sm_get (s := { s1 with toks := s1.toks + 1 }) (show X.K.In s1.heap from I1.kIn) hp (PySem.W.handed_on rfl ?_))
  have I2 := I1.tok (t := s1.toks + 1)
  refine PySem.W.callWith_K (h₀ := X.base) I2.ok.mod.kin c.kp (thn (ha.run pos pins _ σ H1 _ I2 q) ?_) hst hpl
  rintro us s3 ⟨vs, H2, I3, rv, q2⟩
  exact ⟨I3.kIn, wpAny_call (run_fnR (us := us) (vs := vs) F hr hx I3 rv q2)⟩
end
/-! ### int of a text, a cut of a text -/
def rIntS : List V → Hp → VK → Prop := fun xs H Q => match xs with
  | [.str a] => ∃ n, PySem.intText? a = some n ∧ a.length ≤ 640 ∧ Q (.int n) H
  | xs => rInt1 xs H Q
theorem call_intS {X : Cx} : CallR X (.type "int") rIntS := by
  intro pins s σ H xs us Q I r h
  unfold rIntS at h
  split at h
  · obtain ⟨n, h1, h2, q⟩ := h
    exact call_int_str pins s σ H _ us Q I r ⟨_, n, rfl, h1, h2, q⟩
  · exact call_intZ pins s σ H _ us Q I r h
end Z
namespace Z
open PySem PySem.Spec PyProof.Rows L2
/-! ### an exception as a thing that is tracked -/
def ExV (cls : Value) (d : Option Addr) (a : Addr) : HO := .ext fun h => ∃ (oe : Obj) (vs : Array Value), h.get? a = some oe ∧ Zc cls d oe ∧ oe.data = .fields vs
theorem exV_ok {P : Program} {w : World} {H : Hp} {h : Heap} {a : Addr} {cls : Value} {d : Option Addr} {oe : Obj} (e : h.get? a = some oe) (z : Zc cls d oe) (f : ∃ vs, oe.data = .fields vs) : ObjOk P w H h a (ExV cls d a) := by
  obtain ⟨vs, f⟩ := f
  exact ⟨⟨oe, vs, e, z, f⟩, ⟨oe, e⟩, fun _ _ ⟨o, v, q, r⟩ k => ⟨o, v, k o q, r⟩⟩
section
variable {X : Cx} {pins : List (Addr × Obj)} {σ : St} {H : Hp} {s : Shared} {a : Addr} {o : HO}
/-- what stands there, new since the entry, is tracked from now on -/
theorem track (I : Inv X pins σ H s) (hn : H a = none) (hc : ∃ ob vs, s.heap.get? a = some ob ∧ ob.data = .fields vs) (n0 : ∀ ob, X.s_0.heap.get? a = some ob → a ∉ X.ex → False) (nL : a ≠ X.env.locals)
    (np : ∀ p ∈ X.pn ++ pins, p.1 ≠ a) (new : ObjOk X.prog X.w (upd H a o) s.heap a o) : Inv X pins σ (upd H a o) s := by
  have ne : ∀ {b : Addr} {u : HO}, H b = some u → b ≠ a := fun e z => by rw [z, hn] at e; cases e
  have up : ∀ {b : Addr} {u : HO}, H b = some u → upd H a o b = some u := fun e => by rw [upd_ne (ne e)]; exact e
  have B := I.base
  refine ⟨I.ok, I.os, I.bare, ⟨B.keep, B.slot, ?_, B.there, ?_, ?_, ?_⟩, I.loc, I.cell, ?_, ?_, ?_, ?_, I.len⟩
  · intro b ob e n hx
    have nb : b ≠ a := fun z => n0 ob (z ▸ e) (z ▸ hx)
    rw [upd_ne nb]
    exact B.free b ob e n hx
  · intro b xs e
    exact up (B.tups b xs e)
  · intro b ob u e
    exact up (B.frzs b ob u e)
  · intro b ps e
    obtain ⟨m, q⟩ := B.tbls b ps e
    exact ⟨m, up q⟩
  · rw [upd_ne nL.symm]
    exact I.free
  · intro x c e
    have nc : c ≠ a := fun z => by
      obtain ⟨v, ob, e1, d1⟩ := I.cell x c e
      obtain ⟨ob2, vs, e2, d2⟩ := hc
      rw [z, e2] at e1
      cases e1
      rw [d2] at d1
      cases d1
    rw [upd_ne nc]
    exact I.freeC x c e
  · intro p hp
    obtain ⟨e, n, r⟩ := I.pin p hp
    exact ⟨e, by rw [upd_ne (np p hp)]; exact n, r⟩
  · intro b u e
    by_cases hb : b = a
    · subst hb
      rw [upd_same] at e
      cases e
      exact new
    · rw [upd_ne hb] at e
      exact (I.hok b u e).stay (fun _ _ _ q => q) (fun _ q => up q) fun _ _ q => up q
end
/-! ### its fields, its class -/
structure ExT (K : PySem.W.Frag) (C : Addr) : Prop where
  xf : XfC K C
  cl : (PySem.W.clsIn K C).isSome = true
  ha : PySem.W.findIn K (.ref C) "__class__" = some (some (.builtin "object.__class__"))
  hn : PySem.W.specialIn K (.builtin "object.__class__") "__get__" = some (some (.builtin "getset_descriptor.__get__"))
  ht : PySem.W.takesIn K (.builtin "object.__class__") = some true
  hm : PySem.W.mroIn K C (.type "object") = some true
/-- an exception of the class at C with these fields -/
def ExA (H : Hp) (a C : Addr) (fs : List (Str × V)) : Prop := ∃ dd, H a = some (ExV (.ref C) (some dd) a) ∧ H dd = some (.xd fs)
theorem ExA.same {H H' : Hp} {a C : Addr} {fs : List (Str × V)} (s : Same H H') (h : ExA H a C fs) : ExA H' a C fs := by
  obtain ⟨dd, h1, h2⟩ := h
  exact ⟨dd, s _ _ h1, s _ _ h2⟩
def tXv (C : Addr) (f : Str) (te : TE) : TE := fun σ H Q => te σ H fun x H1 => ∃ (a : Addr) (fs : List (Str × V)) (v : V), x = .ref a ∧ ExA H1 a C fs ∧ fs.lookup f = some v ∧ Q v H1
/-- isinstance(e, c) -/
def rIsV (K : PySem.W.Frag) : List V → Hp → VK → Prop := fun xs H Q => ∃ (a C : Addr) (fs : List (Str × V)) (c : V) (u : Value) (b : Bool), xs = [.ref a, c] ∧ ExA H a C fs ∧ ExT K C ∧ ClsV c u ∧ PySem.W.kitOne K (.ref C) u = some b ∧ Q (.bl b) H
def rIsVT (K : PySem.W.Frag) : List V → Hp → VK → Prop := fun xs H Q => ∃ (a C tp : Addr) (fs : List (Str × V)) (cs : List V) (us : List Value) (b : Bool), xs = [.ref a, .ref tp] ∧ H tp = some (.tup cs) ∧ Paired ClsV cs us ∧ ExA H a C fs ∧ ExT K C ∧
  PySem.W.kitAny K (.ref C) us = some b ∧ Q (.bl b) H
section
variable {X : Cx}
theorem exa_at {pins : List (Addr × Obj)} {σ : St} {H : Hp} {s : Shared} {a C : Addr} {fs : List (Str × V)} (I : Inv X pins σ H s) (h : ExA H a C fs) :
    ∃ (oe od : Obj) (mA : Str → Option Value), PySem.W.InstAt s.heap a oe C (some od) ∧ (∀ f, PySem.W.lookIn f od = some (mA f)) ∧ ∀ f, RelO (fs.lookup f) (mA f) := by
  obtain ⟨dd, e1, e2⟩ := h
  obtain ⟨⟨oe, vs, ho, hz, hd⟩, _, _⟩ := I.hok a _ e1
  obtain ⟨mA, ns, rel⟩ := (show ObjOk X.prog X.w H s.heap dd (.xd fs) from I.hok dd _ e2)
  obtain ⟨od, h1, h2⟩ := lookIn_ns ns
  refine ⟨oe, od, mA, ⟨ho, hz.1, ?_, ?_⟩, h2, rel⟩
  · unfold PySem.W.notCls
    rw [hd]
  · rw [hz.2]
    exact h1
theorem pe_xv {C : Addr} {e : Expr} {te : TE} {pos : Pos} {n : Str} (T : ExT X.K C) (hno : PySem.W.findIn X.K (.ref C) n = some none) (he : PE X e te) (hb : attributeBase e n X.env (eval e X.env) = eval e X.env := by rfl) :
    PE X (.Attribute e n pos) (tXv C n te) := by
  constructor
  intro pins s σ H Q I h
  refine attr_of hb (thn (he.run pins s σ H _ I h) ?_)
  rintro u s1 ⟨x, H1, I1, rx, a, fs, v, rfl, ha, hl, q⟩
  obtain rfl : u = Value.ref a := rx
  obtain ⟨oe, od, mA, J, lk, rel⟩ := exa_at I1 ha
  obtain ⟨u, hu, ru⟩ := RelO.some_of (v := v) (o := mA n) (by rw [← hl]; exact rel n)
  exact HandSPX.exc_get I1.kIn J T.xf.ga T.xf.gg T.xf.exC (PySem.W.findObj_own T.xf.hdC hno rfl (by rw [lk, hu])) (handed_of ru) ⟨v, H1, I1.tok _, ru, q⟩
theorem call_isV : CallR X (.builtin "isinstance") (rIsV X.K) := by
  intro pins s σ H xs us Q I r h
  obtain ⟨a, C, fs, c, cv, b, rfl, ha, T, k, e, q⟩ := h
  obtain ⟨u1, u2, rfl, r1, r2⟩ := vals2 r
  have e2 := k.eq r2
  subst e2
  obtain rfl : u1 = Value.ref a := r1
  obtain ⟨oe, od, mA, J, _⟩ := exa_at I ha
  exact PySem.W.kia_one (PySem.W.kitx_exc T.cl T.xf.ga T.xf.gg T.xf.exC T.ha T.hn T.ht T.hm) I.kIn J e (fun z => nomatch z) fun tk => ⟨.bl b, H, I.tok tk, rfl, q⟩
theorem call_isVT : CallR X (.builtin "isinstance") (rIsVT X.K) := by
  intro pins s σ H xs us Q I r h
  obtain ⟨a, C, tp, fs, cs, ws, b, rfl, hT, k, ha, T, e, q⟩ := h
  obtain ⟨u1, u2, rfl, r1, r2⟩ := vals2 r
  obtain rfl : u1 = Value.ref a := r1
  obtain rfl : u2 = Value.ref tp := r2
  obtain ⟨oe, od, mA, J, _⟩ := exa_at I ha
  obtain ⟨_, its, rv, ⟨oc, od2, dt, sl⟩, h1, h2, n, h3⟩ := (show ObjOk X.prog X.w H s.heap tp (.tup cs) from I.hok tp _ hT)
  have e3 := ClsV.all k rv
  simp only at h2 h3
  subst e3 h2 h3
  exact PySem.W.kia_tup (PySem.W.kitx_exc T.cl T.xf.ga T.xf.gg T.xf.exC T.ha T.hn T.ht T.hm) I.kIn J h1 e (fun z => nomatch z) fun tk => ⟨.bl b, H, I.tok tk, rfl, q⟩
end
theorem kit_cls {K : PySem.W.Frag} {t : Value} {C : Addr} {b : Bool} (ne : (t == Value.ref C) = b) (hc : (PySem.W.clsIn K C).isSome = true) (ht : PySem.W.typeIn K (.ref C) = some (.type "type")) (hs : PySem.W.subIn K t (.ref C) = some b) : PySem.W.kitOne K t (.ref C) = some b := by
  unfold PySem.W.kitOne PySem.W.kitCls
  cases b with
  | true => rw [if_pos ne]
  | false =>
    rw [ne]
    simp [hc, ht, hs]
theorem kit_bt {K : PySem.W.Frag} {C : Addr} {T : String} {b : Bool} (hm : PySem.W.kitMeta T = true) (hs : PySem.W.subIn K (.ref C) (.type T) = some b) : PySem.W.kitOne K (.ref C) (.type T) = some b := by
  unfold PySem.W.kitOne PySem.W.kitCls
  rw [if_neg (by simp)]
  show (if PySem.W.kitMeta T = true then PySem.W.subIn K (.ref C) (.type T) else none) = some b
  rw [if_pos hm]
  exact hs
theorem kit_one {K : PySem.W.Frag} {t : Value} : PySem.W.kitOne K t t = some true := by
  unfold PySem.W.kitOne
  rw [if_pos (beq_self_eq_true _)]
theorem kit_ne {K : PySem.W.Frag} {D C : Addr} (h1 : PySem.W.subIn K (.ref D) (.ref D) = some true) (h2 : PySem.W.subIn K (.ref D) (.ref C) = some false) : (Value.ref D == Value.ref C) = false := by
  rw [beq_eq_false_iff_ne]
  intro e
  rw [← e, h1] at h2
  cases h2
/-! ### try: body / except x as n: suite, what is caught always of that class -/
def wAsV (K : PySem.W.Frag) (c : Value) (i : Nat) (ts : TS) (D : Ends) : WX := fun cls d σ H => PySem.W.exmOne K cls c = some true ∧
  ∀ a, H a = none → ts { nx := fun σ' H' => D.nx (σ'.set i none) H', rt := D.rt, bk := fun σ' H' => D.bk (σ'.set i none) H', ct := fun σ' H' => D.ct (σ'.set i none) H' } (σ.set i (some (.ref a))) (upd H a (ExV cls d a))
/-- the exception on the ground, its name still to be given -/
structure Gr (X : Cx) (pins : List (Addr × Obj)) (σ : St) (H : Hp) (cls : Value) (d : Option Addr) (a : Addr) (B : Heap) (s : Shared) : Prop where
  inv : Inv X pins σ H s
  fl : HandSPX.FlyingZ B (X.env :: X.outer) a (Zc cls d) s.heap
  new : H a = none
  n0 : ∀ ob, X.s_0.heap.get? a = some ob → a ∉ X.ex → False
  nL : a ≠ X.env.locals
  np : ∀ p ∈ X.pn ++ pins, p.1 ≠ a
theorem Gr.of {X : Cx} {pins : List (Addr × Obj)} {σ : St} {H : Hp} {cls : Value} {d : Option Addr} {a : Addr} {B : Heap} {sI s : Shared} (hs : X.stack = X.env :: X.outer) (hf : X.env.frame = some X.env.locals) (J : Inv X pins σ H sI)
    (nb : ∀ b o, sI.heap.get? b = some o → b ∉ frs X.stack → B.get? b = some o) (fl : HandSPX.FlyingZ B (X.env :: X.outer) a (Zc cls d) s.heap) (up : sI.heap.UpToSlots s.heap) (os : s.os = sI.os) (ag : AllBare s.gens) (na : H a = none) : Gr X pins σ H cls d a B s := by
  obtain ⟨oe, vs, he, hz, hd⟩ := fl.there
  have nfr : a ∉ frs (X.env :: X.outer) := fun hm => by
    obtain ⟨_, o2, e2, hn⟩ := fl.2.2.1.mem hm
    rw [he] at e2
    cases e2
    exact hn _ hd
  have gone : ∀ o, sI.heap.get? a = some o → False := fun o e => by
    have := nb a o e (by rw [hs]; exact nfr)
    rw [fl.2.1] at this
    cases this
  refine ⟨J.landed nb fl.1 up os ag, fl, na, fun ob e hx => ?_, fun z => ?_, fun p hp z => ?_⟩
  · obtain ⟨o2, q⟩ := J.base.there a ob e hx
    exact gone _ q
  · exact nfr (List.mem_filterMap.mpr ⟨X.env, List.mem_cons_self, by rw [hf, z]⟩)
  · obtain ⟨e, _⟩ := J.pin p hp
    rw [z] at e
    exact gone _ e
/-- into the suite, the exception tracked -/
theorem Gr.suite {X : Cx} {pins : List (Addr × Obj)} {σ : St} {H : Hp} {cls : Value} {d : Option Addr} {a : Addr} {B : Heap} {s : Shared} (G : Gr X pins σ H cls d a B s) : Inv (X.suite a (X.pn ++ pins)) [] σ (upd H a (ExV cls d a)) s := by
  obtain ⟨oe, vs, he, hz, hd⟩ := G.fl.there
  have T := track G.inv G.new ⟨oe, vs, he, hd⟩ G.n0 G.nL G.np (exV_ok he hz ⟨vs, hd⟩)
  exact ⟨T.ok.suite _ _, T.os, T.bare, T.base, T.loc, T.cell, T.free, T.freeC, fun p hp => T.pin p (by simpa using hp), T.hok, T.len⟩
theorem unsuite {X : Cx} {pins : List (Addr × Obj)} {σ : St} {H : Hp} {a : Addr} {s : Shared} (ok : X.Ok) (I : Inv (X.suite a (X.pn ++ pins)) [] σ H s) : Inv X pins σ H s :=
  ⟨ok, I.os, I.bare, I.base, I.loc, I.cell, I.free, I.freeC, fun p hp => I.pin p (by simpa using hp), I.hok, I.len⟩
section
variable {X : Cx} {x n : Str} {c : Value} {i : Nat} {body suite : List Stmt} {b₀ : Stmt} {np pos pos' : Pos} {tb : WX → TS} {ts : TS}
theorem ps_try_asV (hs : X.stack = X.env :: X.outer) (hf : X.env.frame = some X.env.locals) (hN : X.N.Nodup) (hi : X.N[i]? = some n) (hln : X.env.kindOf n = some .local) (hc : Names X x c)
    (hb : ∀ (W : WX) (pn : List (Addr × Obj)) (xe : Value → Shared → Prop), Takes (X.tr pn xe) W → PassesOwn (model X.prog X.w) X.A X.env xe → PSs (X.tr pn xe) body (tb W))
    (hsu : ∀ (a : Addr) (pn : List (Addr × Obj)), PSs (X.suite a pn) (b₀ :: suite) ts) :
    PS X (.Try body [.ExceptHandler (some (.Name x np)) (some n) (b₀ :: suite) pos'] [] [] pos) (fun D σ H => tb (wAsV X.K c i ts D) D σ H) := by
  constructor
  intro pins s σ H D I h
  have ok := I.ok
  -- behind the suite
  have out : ∀ (a : Addr) (f : Flow) (s6 : Shared), SP (X.suite a (X.pn ++ pins)) [] { nx := fun σ' H' => D.nx (σ'.set i none) H', rt := D.rt, bk := fun σ' H' => D.bk (σ'.set i none) H', ct := fun σ' H' => D.ct (σ'.set i none) H' } f s6 →
      wpAny (model X.prog X.w) X.A (do bindName X.env n .none; unbindBehindTheSuite X.env n pos') (fun _ s7 => SP X pins D f s7) X.xe s6 := by
    intro a f s6 q
    cases f with
    | next =>
      obtain ⟨σ6, H6, S6, q6⟩ := q
      exact gone_ok (unsuite ok S6) hN hi hln fun s7 J7 => ⟨_, _, J7, q6⟩
    | brk =>
      obtain ⟨σ6, H6, S6, q6⟩ := q
      exact gone_ok (unsuite ok S6) hN hi hln fun s7 J7 => ⟨_, _, J7, q6⟩
    | cont =>
      obtain ⟨σ6, H6, S6, q6⟩ := q
      exact gone_ok (unsuite ok S6) hN hi hln fun s7 J7 => ⟨_, _, J7, q6⟩
    | ret u =>
      obtain ⟨v6, σ6, H6, S6, r6, q6⟩ := q
      exact gone_ok (unsuite ok S6) hN hi hln fun s7 J7 => ⟨_, _, _, J7, r6, q6⟩
  -- behind the body
  have done : ∀ (f : Flow) (s1 : Shared), SP (X.tr (X.pn ++ pins) (fun e s₁ => wpAny (model X.prog X.w) X.A (noteFrame e X.env) (fun _ s₂ => wpAny (model X.prog X.w) X.A (setFlight e none) (fun _ s₃ =>
      wpAny (model X.prog X.w) X.A (handleBy e X.env [.ExceptHandler (some (.Name x np)) (some n) (b₀ :: suite) pos']) (SP X pins D) X.xe s₃) X.xe s₂) X.xe s₁)) [] D f s1 →
      (match f with | .next => wpAny (model X.prog X.w) X.A (execs [] X.env) (SP X pins D) X.xe s1 | f => SP X pins D f s1) := by
    intro f s1 q
    cases f with
    | next =>
      obtain ⟨σ2, H2, J2, q2⟩ := q
      exact wpAny_execs_nil ⟨σ2, H2, J2.ofTry ok, q2⟩
    | brk =>
      obtain ⟨σ2, H2, J2, q2⟩ := q
      exact ⟨σ2, H2, J2.ofTry ok, q2⟩
    | cont =>
      obtain ⟨σ2, H2, J2, q2⟩ := q
      exact ⟨σ2, H2, J2.ofTry ok, q2⟩
    | ret u =>
      obtain ⟨v, σ2, H2, J2, r, q2⟩ := q
      exact ⟨v, σ2, H2, J2.ofTry ok, r, q2⟩
  refine wpAny_Try_except (wpAny_mono ((hb (wAsV X.K c i ts D) (X.pn ++ pins) _ ?_ PassesOwn.looking).run [] s σ H D (I.toTry _) h) done fun _ _ q => q)
  rintro u s1 ⟨a, B, sI, pins2, σ1, H1, cls, d, rfl, J2, nb, up, sky, na, os, ag, hm, hy⟩
  have J := J2.ofTry (pins := pins) ok
  have frames : X.A.frames = some (X.env :: X.outer) := by rw [ok.frames, hs]
  refine Sky.land Zc.steady frames hf (show Sky B (X.env :: X.outer) a (Zc cls d) X.env.locals s1.heap by rw [← hs]; exact sky) fun h3 fl3 up3 => ?_
  have G3 : Gr X pins σ1 H1 cls d a B { s1 with heap := h3 } := Gr.of hs hf J nb fl3 (up.trans up3) os ag na
  have S3 := G3.suite
  obtain ⟨oe, vs, he, hz, _⟩ := fl3.there
  refine wpAny_handleBy_cons (codeAny_handlers_test ?_) (by intro q; cases q)
  have ty : PySem.W.Looks (model X.prog X.w) h3 (typeOf (.ref a)) cls := fun A Q E s k q => wpAny_typeOf_ref (k _ _ he) (by rw [hz.1]; exact q)
  have mt := PySem.W.exm_one (M := model X.prog X.w) G3.inv.kIn ty hm
  have nm : ∀ {Q E : Value → Shared → Prop}, Q c { s1 with heap := h3 } → wpAny (model X.prog X.w) (X.A.mark (some (.ref a))) (eval (.Name x np) X.env) Q E { s1 with heap := h3 } := by
    intro Q E q
    obtain ⟨hg, hd, h1 | ⟨h1, h2, h3⟩⟩ := hc
    · exact ld_glob (X := X.suite a (X.pn ++ pins)) S3 hg h1 q hd
    · exact ld_blt (X := X.suite a (X.pn ++ pins)) S3 hg h1 h2 q h3 hd
  refine nm (mt.here (codeAny_handlers_suite_as (HandSPX.lands_againZ fl3 fun h4 fl4 up4 => ?_)))
  have G4 : Gr X pins σ1 H1 cls d a B { s1 with heap := h4 } := Gr.of hs hf J nb fl4 ((up.trans up3).trans up4) os ag na
  refine store_ok (X := X.suite a (X.pn ++ pins)) (v := .ref a) G4.suite hN hi (.inl hln) rfl (fun s5 S5 => ?_) (.inr hln)
  exact wpAny_mono ((hsu a (X.pn ++ pins)).run [] s5 _ _ _ S5 (hy a na)) (fun f s6 q => out a f s6 q) fun _ _ z => z.elim
end
/-! ### exceptions out of C.m(..) and C(..), by the state of the slots -/
def tCMethS (C : Addr) (sp : Sp) (E : St → XK) (ta : TE) (t : TA) : TE := fun σ H Q => ClX.tCMeth C sp (E σ) ta t σ H Q
def tMakeRS (C : Addr) (sp : Sp) (E : St → XK) (t : TA) : TE := fun σ H Q => StX.tMakeR C sp (E σ) t σ H Q
section
variable {X : Cx} {gd : Bool} {k : Nat} {C f g p : Addr} {fd : FuncData} {ps : List Str} {mc : Value} {sp : Sp} {E : St → XK} {o e : Expr} {es : List Expr} {x m : Str} {pos apos np : Pos} {ta : TE} {t : TA} {pl : Sem Bool}
theorem pe_cmethS (he : PE X o ta) (r : ClX.CRead X.K C mc) (c : ClX.CMet X.K C mc m p g) (F : FnG gd X.prog X.w X.K X.mg X.base k g fd ps sp) (hr : Room k X.A) (hgu : gd = true → X.A.guards = some []) (hb : Binds X.K fd ps []) (hx : ∀ σ, PassesAt (L2.CX X.prog X.w) X σ (E σ)) (ha : PA X (e :: es) t)
    (hst : starEach (e :: es) X.env = (false, eval e X.env) :: starEach es X.env := by rfl) (hpl : (backTo pos (starEach es X.env)).any (·.1) = false := by rfl)
    (ht : eval (.Call (.Attribute o m apos) (e :: es) [] pos) X.env = (do
      let ov ← eval o X.env
      standAt apos.atName
      let (f, first) ← holding [ov] (getMethod ov m pl)
      callWith pos f first (backTo pos (starEach (e :: es) X.env)) (backToKw pos (keywordEach [] X.env))) := by rfl) :
    PE X (.Call (.Attribute o m apos) (e :: es) [] pos) (tCMethS C sp E ta t) := by
  constructor
  intro pins s σ H Q I h
  refine PySem.W.methodCall_KW (pl := pl) (thn (he.run pins s σ H _ I h) ?_) ht
  rintro u s1 ⟨z, H1, I1, rz, rfl, q⟩
  obtain rfl : u = Value.ref C := rz
  refine ClX.getmethcm_ok I1 r c fun s2 I2 => ClX.callwith_cm I2 (ClX.base_none I1 (Nat.le_refl _)) c.fi (thn (ha.run pos _ s2 σ H1 _ I2 q) ?_) hst hpl
  rintro us s3 ⟨vs, H2, I3, rv, q2⟩
  have rc : Vals (V.ref C :: vs) (Value.ref C :: us) := .cons rfl rv
  have hl : (Value.ref C :: us).length = ps.length := rc.length.symm.trans (F.len _ _ _ _ q2)
  have z : wpAny (model X.prog X.w) X.A (call (.ref s1.heap.objs.size) us) (EP X ((s1.heap.objs.size, PySem.W.methodObj (.ref g) (.ref C)) :: pins) σ Q) X.xe s3 := by
    refine wpAny_call (PySem.W.method_call (ClX.pin_at I3) ?_)
    refine codeAny_mono (F.run X.A X.stack s3 H2 ⟨Value.ref C :: us, []⟩ (Value.ref C :: us) (V.ref C :: vs) Q (E σ) hr hgu I3.env0 (by simpa using hb s3 (Value.ref C :: us) I3.kIn (by simpa using hl)) rc q2) fun w s4 hq => ?_
    cases w with
    | error er => exact hx σ _ H2 s3 er s4 I3 hq
    | ok fl =>
      cases fl with
      | ret u => exact I3.after hq
      | next => exact hq.elim
      | brk => exact hq.elim
      | cont => exact hq.elim
  exact ⟨⟨ClX.pin_at I3, I3.kIn⟩, thn z fun _ _ y => ClX.unpinE y⟩
theorem pe_makeRS (M : Mk X.K C f) (F : FnR X.prog X.w X.K X.mg X.base (L2.CX X.prog X.w) k f sp) (hr : Room (k + 1) X.A) (hg : Gl X x) (hm : X.mg x = some (.ref C)) (hx : ∀ σ, PassesAt (L2.CX X.prog X.w) X σ (E σ)) (ha : PA X (e :: es) t)
    (hdb : (x == ("__debug__" : Str)) = false := by decide) (he : starEach (e :: es) X.env = (false, eval e X.env) :: starEach es X.env := by rfl) (hpl : (backTo pos (starEach es X.env)).any (·.1) = false := by rfl) :
    PE X (.Call (.Name x np) (e :: es) [] pos) (tMakeRS C sp E t) := by
  constructor
  intro pins s σ H Q I h
  refine wpAny_Call_Name_kw (ld_glob I hg hm ?_ hdb)
  refine PySem.W.callWith_K (h₀ := X.base) I.ok.mod.kin M.kp (thn (ha.run pos pins s σ H _ I h) ?_) he hpl
  rintro us s1 ⟨vs, H1, I1, rv, q⟩
  refine ⟨I1.kIn, wpAny_call ?_⟩
  have hq := q _ _ (I1.hok.fresh (Nat.le_succ s1.heap.objs.size)) (I1.hok.fresh (Nat.le_refl s1.heap.objs.size)) (Nat.ne_of_lt (Nat.lt_succ_self _))
  have I2 := Inv.made (C := C) I1
  have rc : Vals (V.ref (s1.heap.objs.size + 1) :: vs) (Value.ref (s1.heap.objs.size + 1) :: us) := .cons rfl rv
  refine make_map (f := f) I1.kIn M.makes M.init (beq_iff_eq.mp M.fn) (codeAny_mono (F _ X.stack _ _ _ _ _ (E σ) (hr.make C us []) (I2.env0.make C us []) rc hq) fun w s4 hw => ?_)
  cases w with
  | error er => exact hx σ pins _ _ er s4 I2 hw
  | ok fl =>
    cases fl with
    | ret u =>
      obtain ⟨v, H3, I3, r3, e3, q3⟩ := I2.after hw
      subst e3
      exact ⟨r3, ⟨V.ref (s1.heap.objs.size + 1), H3, I3, rfl, q3⟩⟩
    | next => exact hw.elim
    | brk => exact hw.elim
    | cont => exact hw.elim
end
end Z
namespace Z
open PySem PySem.Spec PyProof.Rows L2
open PySem.SeqAt PySem.MeetsSeq PySem.MeetsSeq2 PySem.MeetsSeq3 PySem.SeqRoads2
open PySem.AutoSeq1 (wpAny_loadPart')
/-! ### == of a flat thing and a dict -/
section
variable {A : Around} {s : Shared}
/-- a dict as it stands -/
def DictO (h : Heap) (l : Addr) : Prop := ∃ (dd : Option Addr) (es : Array DictEntry) (ep : Nat) (sl : Array (Option Value)), h.get? l = some { cls := .type "dict", dict := dd, data := .dict es ep, slots := sl }
theorem dict_declines {prog : Program} {w : World} {E : Value → Shared → Prop} {l : Addr} {v : Value} {Q : Value → Shared → Prop} (hl : DictO s.heap l) (hv : v = .none ∨ (∃ i t, v = .int i t) ∨ ∃ z t, v = .str z t) (q : Q .notImplemented s) :
    wpAny (model prog w) A (call (.builtin "dict.__eq__") [.ref l, v]) Q E s := by
  obtain ⟨dd, es, ep, sl, hl⟩ := hl
  refine GQ.call_here F.slot_dict_eq ⟨_, hl, rfl⟩ F.entry_dict_eq (F.args_dict_eq_2 _ _) ?_
  obtain ⟨hp, g, d, tk, os⟩ := s
  have f1 := F.sub_NoneType_dict
  have f2 := F.sub_int_dict
  have f3 := F.sub_str_dict
  rcases hv with rfl | ⟨i, t, rfl⟩ | ⟨z, t, rfl⟩
  · wp_walk using wpAny_loadPart' hl, wpAny_load hl
    exact q
  · wp_walk using wpAny_loadPart' hl, wpAny_load hl
    exact q
  · wp_walk using wpAny_loadPart' hl, wpAny_load hl
    exact q
theorem int_declines {prog : Program} {w : World} {E : Value → Shared → Prop} {l : Addr} {i : Int} {t : Tok} {Q : Value → Shared → Prop} (hl : DictO s.heap l) (q : Q .notImplemented s) : wpAny (model prog w) A (call (.builtin "int.__eq__") [.int i t, .ref l]) Q E s := by
  obtain ⟨dd, es, ep, sl, hl⟩ := hl
  refine GQ.call_here F.slot_int_eq (typeIs_int s i t) F.entry_int_eq (F.args_int_eq_2 _ _) ?_
  obtain ⟨hp, g, d, tk, os⟩ := s
  wp_walk using wpAny_loadPart' hl, wpAny_load hl
  exact q
theorem str_declines {prog : Program} {w : World} {E : Value → Shared → Prop} {l : Addr} {z : Str} {t : Tok} {Q : Value → Shared → Prop} (hl : DictO s.heap l) (q : Q .notImplemented s) : wpAny (model prog w) A (call (.builtin "str.__eq__") [.str z t, .ref l]) Q E s := by
  obtain ⟨dd, es, ep, sl, hl⟩ := hl
  refine GQ.call_here F.slot_str_eq (typeIs_str s z t) F.entry_str_eq (F.args_str_eq_2 _ _) ?_
  obtain ⟨hp, g, d, tk, os⟩ := s
  wp_walk using wpAny_loadPart' hl, wpAny_load hl
  exact q
theorem eq_dict {l : Addr} {v : Value} (hl : DictO s.heap l) (hu : A.units < cLine) (hv : v = .none ∨ (∃ i t, v = .int i t) ∨ ∃ z t, v = .str z t) : EqAt A s v (.ref l) false := by
  intro prog w E Q h
  have ty : s.TypeIs (.ref l) "dict" := by
    obtain ⟨dd, es, ep, sl, hl⟩ := hl
    exact ⟨_, hl, rfl⟩
  have rc : wpAny (model prog w) A (richCompare .Eq v (.ref l)) (fun u s' => u = .bool false ∧ s' = s) E s := by
    rcases hv with rfl | ⟨i, t, rfl⟩ | ⟨z, t, rfl⟩
    · exact rc_eq_decline_or (k := false) (Ta := "NoneType") rfl ty (by decide) F.sub_dict_NoneType F.slot_NoneType_eq F.slot_dict_eq_refl (fun _ hq => dec_none hq) (fun _ hq => dict_declines hl (.inl rfl) hq)
        (fun _ hq => wpAny_of_eq (rfl : isSame .none (.ref l) = pure false) hq) (.inr hu) ⟨rfl, rfl⟩
    · exact rc_eq_decline_or (k := false) (typeIs_int s i t) ty (by decide) F.sub_dict_int F.slot_int_eq F.slot_dict_eq_refl (fun _ hq => int_declines hl hq) (fun _ hq => dict_declines hl (.inr (.inl ⟨_, _, rfl⟩)) hq)
        (fun _ hq => wpAny_of_eq (rfl : isSame (.int i t) (.ref l) = pure false) hq) (.inr hu) ⟨rfl, rfl⟩
    · exact rc_eq_decline_or (k := false) (typeIs_str s z t) ty (by decide) F.sub_dict_str F.slot_str_eq F.slot_dict_eq_refl (fun _ hq => str_declines hl hq) (fun _ hq => dict_declines hl (.inr (.inr ⟨_, _, rfl⟩)) hq)
        (fun _ hq => wpAny_of_eq (rfl : isSame (.str z t) (.ref l) = pure false) hq) (.inr hu) ⟨rfl, rfl⟩
  have fin : ∀ (u : Value) (s' : Shared), u = .bool false ∧ s' = s → wpAny (model prog w) A (truthOfDropped u) Q E s' := by
    rintro u s' ⟨rfl, rfl⟩
    exact wpAny_truthy_bool h
  rcases hv with rfl | ⟨i, t, rfl⟩ | ⟨z, t, rfl⟩
  · unfold eqBool
    exact wpAny_holding (wpAny_ite_split (fun e => absurd (eq_of_beq e) fun z => by cases z) fun _ => wpAny_bind (wpAny_mono rc fin fun _ _ z => z))
  · unfold eqBool
    exact wpAny_holding (wpAny_ite_split (fun e => absurd (eq_of_beq e) fun z => by cases z) fun _ => wpAny_bind (wpAny_mono rc fin fun _ _ z => z))
  · unfold eqBool
    exact wpAny_holding (wpAny_ite_split (fun e => absurd (eq_of_beq e) fun z => by cases z) fun _ => wpAny_bind (wpAny_mono rc fin fun _ _ z => z))
end
/-! ### x in l, l a list of tuples of flat things, x a tuple that begins with a dict -/
def tflat (v : V) : Prop := v = .non ∨ (∃ i, v = .int i) ∨ ∃ z, v = .str z
def rInDict (K : PySem.W.Frag) : R2 := fun x y H Q => ∃ (a d l : Addr) (v : V) (rs : List V) (kvs : List (Key × V)), x = .ref a ∧ y = .ref l ∧ SqT K H a [.ref d, v] ∧ H d = some (.dK kvs) ∧ tflat v ∧ SqL K H l rs ∧
  (∀ r ∈ rs, ∃ (b : Addr) (p q : V), r = .ref b ∧ SqT K H b [p, q] ∧ tflat p ∧ tflat q) ∧ Q (.bl false) H
def zInD (K : PySem.W.Frag) : R2 := fun x y H Q => rInD K x y H Q ∨ rInDict K x y H Q
theorem tflat_flat {v : V} (h : tflat v) : flatV v = true := by
  rcases h with rfl | ⟨i, rfl⟩ | ⟨z, rfl⟩ <;> rfl
section
variable {X : Cx}
theorem op_inDict (hu : X.A.units + 65 < cLine) : OpR X (compareOp .In) (rInDict X.K) := by
  intro pins s σ H x y v u Q I rx ry h
  obtain ⟨a, d, l, v2, rs, kvs, rfl, rfl, ha, hd, fv, hl, hr, q⟩ := h
  obtain rfl : v = Value.ref a := rx
  obtain rfl : u = Value.ref l := ry
  obtain ⟨its, rv, hl', _⟩ := I.list hl
  obtain ⟨xs, rx, px, _⟩ := I.tuple ha
  have dO : DictO s.heap d := by
    obtain ⟨_, _, vs, _, ⟨oc, od, dt, sl⟩, es, ep, e1, e2, e3, _⟩ := (show ObjOk X.prog X.w H s.heap d (.dK kvs) from I.hok d _ hd)
    have c1 := e2.1
    simp only at c1 e3
    subst c1 e3
    exact ⟨od, es, ep, sl, e1⟩
  obtain ⟨u1, u2, rfl, r1, r2⟩ := vals2 rx
  obtain rfl : u1 = Value.ref d := r1
  have he : ∀ y, y ∈ its.toArray → EqAt X.A.in1 s y (.ref a) ((fun _ => false) y) := by
    intro y hy
    obtain ⟨i, hi⟩ := List.getElem?_of_mem (show y ∈ its by simpa using hy)
    have li : i < rs.length := by
      rw [rv.length]
      exact (List.getElem?_eq_some_iff.mp hi).1
    obtain ⟨y2, hy2, ry⟩ := rv.get (List.getElem?_eq_getElem li)
    rw [hi] at hy2
    cases hy2
    obtain ⟨b, p, w, er, hb, fp, fw⟩ := hr _ (List.getElem_mem li)
    rw [er] at ry
    obtain rfl : y = Value.ref b := ry
    obtain ⟨zs, rz, pz, _⟩ := I.tuple hb
    obtain ⟨w1, w2, rfl, k1, k2⟩ := vals2 rz
    have ne : b ≠ a := by
      intro z
      subst z
      obtain ⟨o1, e1, _, n1, d1⟩ := px
      obtain ⟨o2, e2, _, n2, d2⟩ := pz
      rw [e1] at e2
      cases e2
      rw [d1] at d2
      injection d2 with d2
      have d3 := congrArg Array.toList d2
      simp only [List.cons.injEq] at d3
      obtain ⟨d4, _⟩ := d3
      rw [← d4] at k1
      rcases fp with rfl | ⟨i, rfl⟩ | ⟨z, rfl⟩
      · cases k1
      · obtain ⟨_, k1⟩ := k1; cases k1
      · obtain ⟨_, k1⟩ := k1; cases k1
    have rc := RcAt.tuples (A := X.A.in1) (e := fun j => if j = 0 then false else eqU v2 w2) (isTup_tuple pz) (isTup_tuple px) (show X.A.units + 1 < cLine by omega) (fun j h1 h2 => by
      have hj : j = 0 ∨ j = 1 := by
        have : j < 2 := by simpa using h1
        omega
      rcases hj with rfl | rfl
      · refine eq_dict dO (show X.A.units + 2 < cLine by omega) ?_
        rcases fp with rfl | ⟨i, rfl⟩ | ⟨z, rfl⟩
        · exact .inl k1
        · obtain ⟨t, k1⟩ := k1; exact .inr (.inl ⟨_, _, k1⟩)
        · obtain ⟨t, k1⟩ := k1; exact .inr (.inr ⟨_, _, k1⟩)
      · exact mem_eqAt r2 (tflat_flat fv) (xs := [w]) (us := [w2]) (.cons k2 .nil) (by simp [tflat_flat fw]) w2 (by simp))
    have e0 : ((List.range (min (#[w1, w2] : Array Value).size (#[Value.ref d, u2] : Array Value).size)).all (fun j => if j = 0 then false else eqU v2 w2) && (#[w1, w2] : Array Value).size == (#[Value.ref d, u2] : Array Value).size) = false := by
      simp [List.range_succ]
    exact EqAt.of_refs ne (by
      have rc' := rc
      rw [show ([w1, w2].toArray) = #[w1, w2] from rfl, show ([Value.ref d, u2].toArray) = #[Value.ref d, u2] from rfl, e0] at rc'
      exact rc')
  refine in_listAt (fun _ => false) hl'.isList he ?_
  have : its.toArray.any (fun _ => false) = false := by simp
  rw [this]
  exact ⟨.bl false, H, I, rfl, q⟩
theorem op_zInD (hu : X.A.units + 65 < cLine) : OpR X (compareOp .In) (zInD X.K) := OpR.or (op_inD hu) (op_inDict hu)
end
end Z
namespace Z
open PySem PySem.Spec PyProof.Rows L2
/-- xs.insert(i, y) -/
def rInsZ : V → List V → Hp → VK → Prop := fun x vs H Q => ∃ (l : Addr) (xs : List V) (i : Int) (y : V), x = .ref l ∧ vs = [.int i, y] ∧ H l = some (.lst xs) ∧ xs.length < sizeLine ∧ 0 ≤ i ∧ i < 2 ^ 63 ∧ Q .non (upd H l (.lst (xs.take i.toNat ++ [y] ++ xs.drop i.toNat)))
theorem mt_insZ {X : Cx} : MtR X "list.insert" rInsZ := mt_insert
theorem room65 {k : Nat} {A : Around} (r : Room k A) : A.units + 65 < cLine := by
  have := r.un
  omega
/-! ### repr of a list of things of any kind, dicts among them -/
def DpR2 (K : PySem.W.Frag) (H : Hp) (v : V) (d : PyData) : Prop := DpR K H v d ∨ ∃ (a b : Addr) (u : V) (du : PyData), v = .ref a ∧ SqT K H a [.ref b, u] ∧ H b = some (.dK []) ∧ flatD u = some du ∧ d = .tuple [.dict [], du]
def Rdd (h : Heap) (u : Value) (d : PyData) : Prop := ∃ as, Reads h u d as ∧ (d.hasDict = true → sysModules ∉ as)
theorem DpR2.reads {X : Cx} {pins : List (Addr × Obj)} {σ : St} {H : Hp} {s : Shared} (I : Inv X pins σ H s) {d : PyData} {v : V} {u : Value} (h : DpR2 X.K H v d) (r : RelV v u) : Rdd s.heap u d := by
  rcases h with h | ⟨a, b, w, dw, rfl, ha, hb, fw, rfl⟩
  · exact h.reads I r
  · obtain rfl : u = Value.ref a := r
    obtain ⟨its, rv, ⟨o, e1, c1, n, d1⟩, _⟩ := I.tuple ha
    obtain ⟨u1, u2, rfl, r1, r2⟩ := vals2 rv
    obtain ⟨as, h1, h2⟩ := DpR.reads I (d := .dict []) (v := .ref b) (u := u1) (.inr ⟨b, [], [], rfl, hb, rfl, .nil⟩) r1
    have h3 := flatD_reads (h := s.heap) fw r2
    refine ⟨as ++ ([] ++ []), Reads.tuple e1 c1 d1 (.cons h1 (.cons h3 .nil)), fun _ z => h2 (by simp [PyData.hasDict]) (by simpa using z)⟩
section
variable {prog : Program} {w : World} {h₀ : Heap}
theorem repr_each : ∀ {vs : List Value} {ds : List PyData}, Paired (Rdd h₀) vs ds → PyData.showableAll ds = true → (∀ t ∈ PyData.shownAll ds, t.length ≤ sizeLine) →
    (∃ as, ReadsAll h₀ vs ds as) ∧ ∃ bs, ReadAtMost h₀ (PyData.depthAll ds) bs ∧ ReprAllK prog w bs h₀ (PyData.depthAll ds) vs (PyData.shownAll ds)
  | _, _, .nil, _, _ => ⟨⟨_, .nil⟩, [], (fun _ h => nomatch h), by simp only [PyData.shownAll]; exact .nil⟩
  | _, _, .cons ⟨as, r, hm⟩ t, hs, hz => by
    simp only [PyData.showableAll, Bool.and_eq_true] at hs
    obtain ⟨b1, h1, k1⟩ := ReprK.of_reads (prog := prog) (w := w) r hs.1 hm (hz _ (by simp only [PyData.shownAll]; exact List.mem_cons_self ..))
    obtain ⟨⟨as2, r2⟩, b2, h2, k2⟩ := repr_each t hs.2 fun x hx => hz x (by simp only [PyData.shownAll]; exact List.mem_cons_of_mem _ hx)
    refine ⟨⟨_, .cons r r2⟩, b1 ++ b2, ?_, ?_⟩
    · simp only [PyData.depthAll]
      exact (h1.mono (Nat.le_max_left _ _)).append (h2.mono (Nat.le_max_right _ _))
    · simp only [PyData.depthAll, PyData.shownAll]
      exact .cons ((k1.more fun _ q => List.mem_append_left _ q).level_le (Nat.le_max_left _ _)) (k2.more_le (fun _ q => List.mem_append_right _ q) (Nat.le_max_right _ _))
end
theorem rdds {X : Cx} {pins : List (Addr × Obj)} {σ : St} {H : Hp} {s : Shared} (I : Inv X pins σ H s) : ∀ {vs : List V} {us : List Value} {ds : List PyData}, Paired (DpR2 X.K H) vs ds → Vals vs us → Paired (Rdd s.heap) us ds
  | _, _, _, .nil, .nil => .nil
  | _, _, _, .cons h t, .cons r q => .cons (h.reads I r) (rdds I t q)
def rReprL (K : PySem.W.Frag) : List V → Hp → VK → Prop := fun xs H Q => ∃ (a : Addr) (vs : List V) (ds : List PyData), xs = [.ref a] ∧ SqL K H a vs ∧ Paired (DpR2 K H) vs ds ∧ PyData.showableAll ds = true ∧ PyData.depthAll ds ≤ 32 ∧
  (PyData.list ds).shown.length ≤ sizeLine ∧ Q (.str (PyData.list ds).shown) H
theorem call_reprL {X : Cx} (hg : X.A.guards = some []) (hu : X.A.units + 64 < cLine) : CallR X (.builtin "repr") (rReprL X.K) := by
  intro pins s σ H xs us Q I r h
  obtain ⟨a, vs, ds, rfl, hq, hp, hs, hd, hz, q⟩ := h
  obtain ⟨u, rfl, ru⟩ := vals1 r
  obtain rfl : u = Value.ref a := ru
  obtain ⟨its, rv, ⟨oa, n, e1, c1, _, d1⟩, _⟩ := I.list hq
  have hz2 : (listText (PyData.shownAll ds)).length ≤ sizeLine := by simpa only [PyData.shown] using hz
  obtain ⟨⟨as, ra⟩, bs, h1, h2⟩ := repr_each (prog := X.prog) (w := X.w) (rdds I hp rv) hs fun t ht => Nat.le_trans (listText_mem_le ht) hz2
  have hna : a ∉ bs := not_mem_of_deeper (Reads.list e1 c1 d1 ra) (by simp only [PyData.depth]; omega) h1
  have keep : ∀ b o, s.heap.get? b = some o → s.heap.get? b = some o := fun _ _ z => z
  simp only [PyData.shown] at q
  refine call_repr_slot (by omega) ⟨oa, e1, c1⟩ F.slot_list_repr.toG ?_
  cases its with
  | nil =>
    cases ra
    simp only [PyData.shownAll, listText_nil] at q
    exact call_list_repr_empty ⟨oa, e1, c1⟩ e1 d1 ⟨_, _, rfl, ⟨.str _, H, I.tok _, ⟨_, rfl⟩, q⟩⟩
  | cons x l =>
    exact call_list_reprK e1 c1 d1 hna (by simpa using h2.length_eq) (fun i y e => h2.item i y (by simpa using e)) (show X.A.in1.guards = some [] from hg) (fun b _ => Clear.nil b) (show X.A.units + 1 + (PyData.depthAll ds + 1) < cLine by omega) keep
      (fun h' u tk hk => ⟨_, _, rfl, ⟨.str _, H, I.kept (t' := tk) hk, ⟨_, rfl⟩, q⟩⟩) hz2
end Z
namespace Z
open PySem PySem.W PySem.Calls PyProof.Rows PySem.HandSPX
/-! ### type.__call__ on an own exception class, with keywords -/
section
variable {M : Model} {A : Around} {E : Value → Shared → Prop} {h : Heap} {g : Array GenState} {d : Drawn} {t : Nat} {os : OsState}
variable {nm q : Str} {C N : Addr} {bs bm bmB : List Value} {hdct : Bool} {sn : List Str} {sub : List Value} {ab : Bool} {col : Option Bool} {dd : Option Addr} {k0 k1 k2 k3 k5 : Option Value} {B newId initId : String}
theorem check_new_kw (F : ExcBaseFacts B newId initId bmB) (hT : ∀ X : String, bm.contains (.type X) = bmB.contains (.type X)) {rest : List Value} {kw : List (Str × Value)} {Q : Unit → Shared → Prop}
    (hC : h.get? C = some (excClassObj nm q C N bs bm hdct sn sub ab col dd k0 k1 k2 k3 k5 newId)) (hq : Q () ⟨h, g, d, t, os⟩) : wpAny M A (checkBuiltinCall newId ⟨.ref C :: rest, kw⟩) Q E ⟨h, g, d, t, os⟩ := by
  have hcont : (Value.ref C :: bm).contains (.type B) = true := by rw [List.contains_cons, hT, F.hasB, Bool.or_true]
  have hstar := F.noStar
  simp only [checkBuiltinCall, F.newKind, F.newSplit, F.newRow]
  repeat (first | refine wpAny_loadPart_at hC ?_ | (refine wpAny_isSubtype_exc hC ?_; rw [hcont]) | refine wpAny_staticBase_exc hC ?_ | refine wpAny_madeBy_exc hC ?_ | simp only [bne_self_eq_false, Bool.false_eq_true, if_false] | wp_step)
  exact hq
end
section
variable {prog : Program} {w : World} {A : Around} {E : Value → Shared → Prop} {R : Result → Shared → Prop} {h : Heap} {g : Array GenState} {d : Drawn} {t : Nat} {os : OsState}
variable {nm q : Str} {C N : Addr} {bs bm bmB : List Value} {hdct : Bool} {sn : List Str} {sub : List Value} {ab : Bool} {col : Option Bool} {dd : Option Addr} {k0 k1 k2 k3 k5 : Option Value} {B newId initId : String}
theorem new_kw (F : ExcBaseFacts B newId initId bmB) (hT : ∀ X : String, bm.contains (.type X) = bmB.contains (.type X)) {rest : List Value} {kw : List (Str × Value)}
    (hC : h.get? C = some (excClassObj nm q C N bs bm hdct sn sub ab col dd k0 k1 k2 k3 k5 newId))
    (hq : R (.ok (.ret (.ref (h.objs.size + 1)))) ⟨(h.push { cls := .type "tuple", data := .seq rest.toArray }).push
      { cls := .ref C, data := .fields #[.ref h.objs.size, .none, .none, .none, .bool false, .none] }, g, d, t, os⟩) (hrest : rest.length ≤ sizeLine) :
    codeAny (model prog w) A (.builtin newId ⟨.ref C :: rest, kw⟩) R ⟨h, g, d, t, os⟩ := by
  have hends := F.ends
  have hcB : (Value.ref C :: bm).contains (.type B) = true := by rw [List.contains_cons, hT, F.hasB, Bool.or_true]
  have hcA : (Value.ref C :: bm).contains (.type "AttributeError") = false := by rw [List.contains_cons, hT, F.noAttr]; rfl
  have hcN : (Value.ref C :: bm).contains (.type "NameError") = false := by rw [List.contains_cons, hT, F.noName]; rfl
  refine codeAny_builtinAt F.entry ?_
  unfold Builtin.«BaseException.__new__»
  refine PySem.wpAt_bind ?_
  show PySem.wpAt _ _ _ (stack >>= _) _ _ _
  refine PySem.wpAt_bind (PySem.wpAt_stack fun p below => PySem.wpAt_of_wpAny ?_)
  wp_walk
  refine PySem.wpAt_of_wpAny ?_
  rw [F.owner]
  repeat (first | with_reducible refine wpAny_madeHere_exc F.canon hC ?_ | with_reducible refine wpAny_loadPart_at hC ?_ | (with_reducible refine wpAny_isSubtype_exc hC ?_; first | rw [hcB] | rw [hcA] | rw [hcN]) | wp_step)
  show R _ _
  rw [Heap.size_push]
  exact hq
theorem type_call_kw (F : ExcBaseFacts B newId initId bmB) (hT : ∀ X : String, bm.contains (.type X) = bmB.contains (.type X)) {rest : List Value} {kw : List (Str × Value)} {fI : Addr} {Q : Fin → Shared → Prop}
    (hC : h.get? C = some (excClassObj nm q C N bs bm hdct sn sub ab col dd k0 k1 k2 k3 k5 newId))
    (hi : W.Looks (model prog w) h (typeLookup (.ref C) "__init__") (some (.ref fI))) (hb : ∀ self, W.Looks (model prog w) h (bindSpecial (.ref fI) self) (.ref fI, [self])) (hrest : rest.length ≤ sizeLine)
    (hq : codeAny (model prog w) A (.call (.ref fI) ⟨.ref (h.objs.size + 1) :: rest, kw⟩)
      (fun r s' => match r with | .ok (.ret v) => v = .none ∧ Q (.done (.ret (.ref (h.objs.size + 1)))) s' | .ok _ => False | .error e => E e s')
      ⟨(h.push (W.kdv_tup rest)).push (excO C h.objs.size), g, d, t, os⟩) :
    wpAny (model prog w) A (Builtin.«type.__call__» ⟨.ref C :: rest, kw⟩) Q E ⟨h, g, d, t, os⟩ := by
  repeat (first | with_reducible refine wpAny_loadPart_at hC ?_ | with_reducible refine wpAny_madeBy_exc hC ?_ | wp_step)
  refine codeAny_call_builtin_code (Code.quiet_builtin _ F.quiet) (check_new_kw F hT hC ?_)
  refine new_kw F hT hC ?_ hrest
  show wpAny _ _ _ _ _ _
  have k : ∀ b o, h.get? b = some o → ((h.push (W.kdv_tup rest)).push (excO C h.objs.size)).get? b = some o := fun b o e => Heap.get?_push_of_some _ (Heap.get?_push_of_some _ e)
  have hC₁ := k _ _ hC
  have hget : ((h.push (W.kdv_tup rest)).push (excO C h.objs.size)).get? (h.objs.size + 1) = some (excO C h.objs.size) := by heap_get
  have hcC : (Value.ref C :: bm).contains (.ref C) = true := by simp
  have i1 := hi.keeps k
  have b1 := (hb (.ref (h.objs.size + 1))).keeps k
  unfold isInstance
  repeat (first | with_reducible refine wpAny_loadPart_at hget ?_ | (with_reducible refine wpAny_isSubtype_exc hC₁ ?_; rw [hcC]) | wp_step)
  show wpAny _ _ (typeLookup (.ref C) _) _ _ _
  refine i1.at ?_
  refine wpAny_holding (wpAny_bind (b1.at ?_))
  refine wpAny_bind (wpAny_call (codeAny_mono hq fun r s' z => ?_))
  rcases r with e | (v | _ | _ | _) <;> first | exact z | exact z.elim | skip
  obtain ⟨rfl, z⟩ := z
  first
    | exact wpAny_pure (wpAny_pure z)
    | (wp_walk; exact z)
theorem call_kw (F : ExcBaseFacts B newId initId bmB) (hT : ∀ X : String, bm.contains (.type X) = bmB.contains (.type X)) {rest : List Value} {kw : List (Str × Value)} {fI : Addr}
    (hC : h.get? C = some (excClassObj nm q C N bs bm hdct sn sub ab col dd k0 k1 k2 k3 k5 newId))
    (hi : W.Looks (model prog w) h (typeLookup (.ref C) "__init__") (some (.ref fI))) (hb : ∀ self, W.Looks (model prog w) h (bindSpecial (.ref fI) self) (.ref fI, [self])) (hrest : rest.length ≤ sizeLine)
    (hq : codeAny (model prog w) (A.under (.builtin "type.__call__" ⟨.ref C :: rest, kw⟩)) (.call (.ref fI) ⟨.ref (h.objs.size + 1) :: rest, kw⟩) (W.InitBack (h.objs.size + 1) R)
      ⟨(h.push (W.kdv_tup rest)).push (excO C h.objs.size), g, d, t, os⟩) :
    codeAny (model prog w) A (.call (.ref C) ⟨rest, kw⟩) R ⟨h, g, d, t, os⟩ := by
  have f1 := tc_lookup
  have f2 := tc_bind (.ref C)
  have hTy : (⟨h, g, d, t, os⟩ : Shared).TypeIs (.ref C) "type" := ⟨_, hC, rfl⟩
  refine codeAny_of_tree ?_
  show wpAny _ _ (callAny (.ref C) _) _ _ _
  repeat (any_goals (first | assumption | with_reducible refine wpAny_loadPart_at hC ?_ | wp_step))
  refine ⟨rfl, ?_⟩
  refine codeAny_call_builtin_at (Code.quiet_builtin _ (by decide +kernel)) entry_typeCall (wpAny_check_type_call_sub hC (type_call_kw F hT hC hi hb hrest ?_))
  refine codeAny_mono hq fun r s' z => ?_
  rcases r with e | (v | _ | _ | _) <;> exact z
end
section
open Builtin Builtin.ObjectAttr
variable {prog : Program} {w : World} {A : Around} {E : Value → Shared → Prop} {R : Result → Shared → Prop} {hp : Heap} {g : Array GenState} {d : Drawn} {t : Nat} {os : OsState}
theorem isEmpty_of_contains {l : List Value} {v : Value} (h : l.contains v = true) : l.isEmpty = false := by
  cases l with
  | nil => exact absurd h (by simp)
  | cons _ _ => rfl
/-- self.name = v on an exception that has no dict yet -/
theorem osa_new {K : W.Frag} {name : Str} {tk : Tok} {v : Value} {x C : Addr} {fv : Array Value} {cd : ClassData}
    (X : K.In hp) (hx : hp.get? x = some { cls := .ref C, data := .fields fv }) (hcd : W.clsIn K C = some cd) (hm : ∀ self, refuseLoop self "__setattr__" cd.mro = pure ()) (hob : cd.mro.contains (.type "object") = true) (hh : cd.hasDict = true) (ha : W.findIn K (.ref C) name = some none)
    (hq : ∀ h' tk' dx, (∀ b o, b ≠ x → hp.get? b = some o → h'.get? b = some o) → hp.objs.size ≤ dx → dx ≠ x → h'.get? x = some { cls := .ref C, dict := some dx, data := .fields fv } →
      h'.Ns1 dx (fun y => if y = name then some v else none) → R (.ok (.ret .none)) ⟨h', g, d, tk', os⟩) :
    codeAny (model prog w) A (.call (.builtin "object.__setattr__") ⟨[.ref x, .str name tk, v], []⟩) R ⟨hp, g, d, t, os⟩ := by
  have I : W.InstAt hp x { cls := .ref C, data := .fields fv } C none := ⟨hx, rfl, rfl, trivial⟩
  have SF := F.store_object
  have ne := isEmpty_of_contains hob
  have hxs : x ≠ hp.objs.size := Nat.ne_of_lt (Heap.lt_size hx)
  have sub : W.Looks (model prog w) hp (isInstance (.ref x) (.type "object")) true := I.type.andThen (W.looks_mroIn X (by unfold W.mroIn; rw [hcd, Option.bind_some, if_neg (by rw [ne]; decide), hob]))
  refine codeAny_call_builtin SF.slot.plain SF.entry (@W.check_slot (model prog w) _ _ ⟨hp, g, d, t, os⟩ "object.__setattr__" "object" "__setattr__" (.ref x) [.str name tk, v] [] _ SF.kind SF.split sub (SF.args (.ref x) (.str name tk) v) ?_)
  have hmr : W.Looks (model prog w) hp (mroOf (.ref C)) cd.mro := (W.looks_clsIn X hcd).andThen .now
  have L3 : W.Looks (model prog w) hp (storeTaker? none) none := .now
  have hcls : W.Looks (model prog w) hp (classData C) cd := W.looks_clsIn X hcd
  rw [W.osa_eq, refuse_eq]
  refine wpAny_bind (wpAny_bind (I.type.at (wpAny_bind (hmr.at ?_))))
  rw [hm]
  refine wpAny_pure (wpAny_bind (I.type.at (wpAny_bind ((W.looks_findIn X ha).at (wpAny_bind (L3.at ?_))))))
  show wpAny _ _ (storeInOwnDict (.ref x) (.ref C) (.str name tk) name v false) _ _ _
  obtain ⟨nm, bs, mro, ns, qn, hd, sn, sb, ab, col, del⟩ := cd
  dsimp only at hh
  subst hh
  unfold storeInOwnDict ownDictForStores
  repeat (first | with_reducible refine HandSPX.store_in_new ?_ ?_ | with_reducible refine wpAny_loadPart_at hx ?_ | with_reducible refine hcls.at ?_ | wp_step)
  · exact ⟨_, #[], _, (Heap.get?_update_ne _ _ _ _ hxs.symm).trans (Heap.get?_push_at rfl rfl), rfl, fun e he => absurd he (by simp), fun _ => rfl⟩
  · intro h' tk' hn' hs
    have hx₁ : (hp.push { cls := .type "dict", data := .dict #[] }).get? x = some { cls := .ref C, data := .fields fv } := Heap.get?_push_of_some _ hx
    refine hq h' tk' hp.objs.size (fun b o hb ho => ?_) (Nat.le_refl _) hxs.symm ?_ hn'
    · exact (hs.2 b (Nat.ne_of_lt (Heap.lt_size ho))).trans ((Heap.get?_update_ne _ _ _ _ hb).trans (Heap.get?_push_of_some _ ho))
    · exact (hs.2 x hxs).trans (Heap.get?_update_self _ hx₁ rfl)
/-- a further field of an exception that has its dict -/
theorem osa_more {K : W.Frag} {name : Str} {tk : Tok} {v : Value} {x C dx : Addr} {fv : Array Value} {cd : ClassData} {m0 : Str → Option Value} {nl : List Str}
    (X : K.In hp) (hx : hp.get? x = some { cls := .ref C, dict := some dx, data := .fields fv }) (hns : hp.Ns1 dx m0) (hw : Within m0 nl) (hz : nl.length ≤ 1000) (hcd : W.clsIn K C = some cd) (hm : ∀ self, refuseLoop self "__setattr__" cd.mro = pure ()) (hob : cd.mro.contains (.type "object") = true) (hh : cd.hasDict = true)
    (ha : W.findIn K (.ref C) name = some none)
    (hq : ∀ h' tk', (∀ b o, b ≠ dx → hp.get? b = some o → h'.get? b = some o) → h'.Ns1 dx (fun y => if y = name then some v else m0 y) → R (.ok (.ret .none)) ⟨h', g, d, tk', os⟩) :
    codeAny (model prog w) A (.call (.builtin "object.__setattr__") ⟨[.ref x, .str name tk, v], []⟩) R ⟨hp, g, d, t, os⟩ := by
  obtain ⟨oD, esD, epD, hoD, hdD, _⟩ := hns.count hw
  have I : W.InstAt hp x { cls := .ref C, dict := some dx, data := .fields fv } C (some oD) := ⟨hx, rfl, rfl, hoD⟩
  have SF := F.store_object
  have ne := isEmpty_of_contains hob
  have sub : W.Looks (model prog w) hp (isInstance (.ref x) (.type "object")) true := I.type.andThen (W.looks_mroIn X (by unfold W.mroIn; rw [hcd, Option.bind_some, if_neg (by rw [ne]; decide), hob]))
  refine codeAny_call_builtin SF.slot.plain SF.entry (@W.check_slot (model prog w) _ _ ⟨hp, g, d, t, os⟩ "object.__setattr__" "object" "__setattr__" (.ref x) [.str name tk, v] [] _ SF.kind SF.split sub (SF.args (.ref x) (.str name tk) v) ?_)
  have hmr : W.Looks (model prog w) hp (mroOf (.ref C)) cd.mro := (W.looks_clsIn X hcd).andThen .now
  have L3 : W.Looks (model prog w) hp (storeTaker? none) none := .now
  have hcls : W.Looks (model prog w) hp (classData C) cd := W.looks_clsIn X hcd
  rw [W.osa_eq, refuse_eq]
  refine wpAny_bind (wpAny_bind (I.type.at (wpAny_bind (hmr.at ?_))))
  rw [hm]
  refine wpAny_pure (wpAny_bind (I.type.at (wpAny_bind ((W.looks_findIn X ha).at (wpAny_bind (L3.at ?_))))))
  show wpAny _ _ (storeInOwnDict (.ref x) (.ref C) (.str name tk) name v false) _ _ _
  obtain ⟨nm, bs, mro, ns, qn, hd, sn, sb, ab, col, del⟩ := cd
  dsimp only at hh
  subst hh
  unfold storeInOwnDict ownDictForStores
  repeat (first | with_reducible refine OEX.store_in_old hns hw hz ?_ | with_reducible refine wpAny_loadPart_at hx ?_ | with_reducible refine hcls.at ?_ | wp_step)
  intro h' tk' hn' hs
  exact hq h' tk' (fun b o hb ho => (hs.2 b hb).trans ho) hn'
end
end Z

namespace Z
open PySem PySem.Spec PyProof.Rows L2
/-- what the written part says of the class: an own exception over a built-in one -/
structure OexB (K : PySem.W.Frag) (C : Addr) : Prop where
  cls : ∃ B newId initId bmB nm q N bs bm sn sub ab col dd k0 k1 k2 k3 k5, ExcBaseFacts B newId initId bmB ∧ K.lookup C = some (excClassObj nm q C N bs bm true sn sub ab col dd k0 k1 k2 k3 k5 newId) ∧
    (∀ X : String, bm.contains (.type X) = bmB.contains (.type X)) ∧ (∀ self, refuseLoop self "__setattr__" bm = pure ()) ∧ bm.contains (.type "object") = true
  sa : PySem.W.findIn K (.ref C) "__setattr__" = some (some (.builtin "object.__setattr__"))
  exC : PySem.W.subIn K (.ref C) (.type "BaseException") = some true
  tyC : PySem.W.typeIn K (.ref C) = some (.type "type")
  kC : PySem.W.keepIn K (.ref C) = true
section
variable {X : Cx} {pins : List (Addr × Obj)} {σ : St} {H : Hp} {s : Shared} {a C dx : Addr} {f : Str} {y : V} {u : Value} {fs : List (Str × V)} {Q : Unit → Shared → Prop} {E : Value → Shared → Prop} {A : Around}
/-- self.f = y, the first one -/
theorem ostB_new (T : OexB X.K C) (I : Inv X pins σ H s) (e : H a = some (exo a C none)) (hno : PySem.W.findIn X.K (.ref C) f = some none) (ry : RelV y u)
    (h : ∀ dx s', H dx = none → dx ≠ a → Inv X pins σ (upd (upd H dx (exd dx [(f, y)])) a (exo a C (some dx))) s' → Q () s') : wpAny (model X.prog X.w) A (setAttr (.ref a) f u) Q E s := by
  obtain ⟨B, newId, initId, bmB, nm, q, N, bs, bm, sn, sub, ab, col, dd, k0, k1, k2, k3, k5, hF, hC, hT, hbm, hob⟩ := T.cls
  have hcl : PySem.W.clsIn X.K C = some { name := nm, bases := bs, mro := .ref C :: bm, ns := N, qualname := q, hasDict := true, slotNames := sn, subclasses := sub, abstract := ab, collection := col, hasDel := false } := by unfold PySem.W.clsIn; rw [hC] <;> rfl
  obtain ⟨t1, ho⟩ := exo_at I.hok e
  obtain ⟨hp, g, d, t, os⟩ := s
  refine PySem.W.set_plain I.kIn (ox := { cls := .ref C, dict := none, data := .fields #[.ref t1, .none, .none, .none, .bool false, .none] }) (od := none) ⟨ho, rfl, rfl, trivial⟩ T.sa ?_
  refine osa_new I.kIn ho hcl (fun self => by rw [refuseLoop_ref]; exact hbm self) (by simp only [List.contains_cons, hob, Bool.or_true]) rfl hno (fun h' tk' dx k dn dne hx hn => ?_)
  have hnd : H dx = none := I.hok.fresh dn
  have nd : ∀ {b : Addr} {o : Obj}, hp.get? b = some o → b ≠ dx := fun {b o} q => Nat.ne_of_lt (Nat.lt_of_lt_of_le (Heap.lt_size q) dn)
  have na : ∀ {b : Addr}, H b = none → b ≠ a := fun {b} n z => by
    rw [z, e] at n
    cases n
  have Un1 : Un X.fs [] H (upd (upd H dx (exd dx [(f, y)])) a (exo a C (some dx))) hp h' := {
    keep := fun b o q n _ _ => k b o (na n) q
    slot := fun b o q n _ _ => ⟨o.slots, k b o (na n) q⟩
    free := fun b o q n _ => by rw [upd_ne (na n), upd_ne (nd q)]; exact n
    there := fun b o q _ => by
      by_cases hb : b = a
      · exact ⟨_, by rw [hb]; exact hx⟩
      · exact ⟨o, k b o hb q⟩
    tups := fun b xs q => by rw [upd_ne (at_ne e q exo_tup), upd_ne (ne_of_none q hnd)]; exact q
    frzs := fun b o v q => by rw [upd_ne (at_ne e q exo_frz), upd_ne (ne_of_none q hnd)]; exact q
    tbls := fun b ps q => ⟨#[], by rw [upd_ne (at_ne e q exo_tbl), upd_ne (ne_of_none q hnd), q]; simp⟩ }
  refine h dx _ hnd dne (I.un (t' := tk') Un1 fun b o q => ?_)
  by_cases hb : b = a
  · subst hb
    rw [upd_same] at q
    cases q
    exact exo_ok hx
  · rw [upd_ne hb] at q
    by_cases hd : b = dx
    · subst hd
      rw [upd_same] at q
      cases q
      exact exd_ok hn (relO_put (fs := []) ry fun g => True.intro)
    · rw [upd_ne hd] at q
      exact (I.hok b o q).stay (fun c v hc z => k c v (by
          rcases hc with hc | hc
          · rw [hc]
            exact hb
          · exact at_ne e hc exo_own) z)
        (fun c hc => by rw [upd_ne (at_ne e hc exo_own), upd_ne (ne_of_none hc hnd)]; exact hc) (fun c xs hc => by rw [upd_ne (at_ne e hc exo_tup), upd_ne (ne_of_none hc hnd)]; exact hc)
/-- self.f = y, a further one -/
theorem ostB_old (T : OexB X.K C) (I : Inv X pins σ H s) (e : H a = some (exo a C (some dx))) (ed : H dx = some (exd dx fs)) (hl : fs.length ≤ 900) (hno : PySem.W.findIn X.K (.ref C) f = some none) (ry : RelV y u)
    (h : ∀ s', Inv X pins σ (upd H dx (exd dx ((f, y) :: fs))) s' → Q () s') : wpAny (model X.prog X.w) A (setAttr (.ref a) f u) Q E s := by
  obtain ⟨B, newId, initId, bmB, nm, q, N, bs, bm, sn, sub, ab, col, dd, k0, k1, k2, k3, k5, hF, hC, hT, hbm, hob⟩ := T.cls
  have hcl : PySem.W.clsIn X.K C = some { name := nm, bases := bs, mro := .ref C :: bm, ns := N, qualname := q, hasDict := true, slotNames := sn, subclasses := sub, abstract := ab, collection := col, hasDel := false } := by unfold PySem.W.clsIn; rw [hC] <;> rfl
  obtain ⟨t1, ho⟩ := exo_at I.hok e
  obtain ⟨mA, hns, rel⟩ := exd_at I.hok ed
  have hw := within_of rel
  obtain ⟨hp, g, d, t, os⟩ := s
  obtain ⟨oD, _, _, hoD, _, _⟩ := hns.count hw
  refine PySem.W.set_plain I.kIn (ox := { cls := .ref C, dict := some dx, data := .fields #[.ref t1, .none, .none, .none, .bool false, .none] }) (od := some oD) ⟨ho, rfl, rfl, hoD⟩ T.sa ?_
  refine osa_more I.kIn ho hns hw (by rw [List.length_map]; omega) hcl (fun self => by rw [refuseLoop_ref]; exact hbm self) (by simp only [List.contains_cons, hob, Bool.or_true]) rfl hno (fun h' tk' k hn => ?_)
  have hd : ∃ o, h'.get? dx = some o := by
    obtain ⟨o, _, _, e', _⟩ := hn
    exact ⟨o, e'⟩
  exact h _ (I.write (t' := tk') (x := dx) (e := dx) (o := exd dx ((f, y) :: fs)) (by rw [ed]; exact True.intro) (.inl rfl) k hd (exd_ok hn (relO_put ry rel)))
end
/-- self.f = e -/
def tOstB (K : PySem.W.Frag) (f : Str) (to te : TE) : TS := fun D σ H => te σ H fun y H1 => to σ H1 fun x H2 => ∃ a C : Addr, x = .ref a ∧ OexB K C ∧ PySem.W.findIn K (.ref C) f = some none ∧
  ((H2 a = some (exo a C none) ∧ ∀ dx, H2 dx = none → dx ≠ a → D.nx σ (upd (upd H2 dx (exd dx [(f, y)])) a (exo a C (some dx)))) ∨
    ∃ (dx : Addr) (fs : List (Str × V)), H2 a = some (exo a C (some dx)) ∧ H2 dx = some (exd dx fs) ∧ fs.length ≤ 900 ∧ D.nx σ (upd H2 dx (exd dx ((f, y) :: fs))))
section
variable {X : Cx} {o e : Expr} {es : List Expr} {to te : TE} {ta : TA} {f : Str} {p p' p1 p2 pos : Pos}
theorem ps_ostB (ho : PE X o to) (he : PE X e te) (hs : swapsWith e (some (.Attribute o f p')) pos.line X.env = pure false := by rfl) : PS X (.Assign [.Attribute o f p'] e pos) (tOstB X.K f to te) := by
  refine ⟨fun pins s σ H D I h => ?_⟩
  refine plainObj_wpAny_Assign_Attribute (thn (he.run pins s σ H _ I h) fun v s1 ⟨y, H1, I1, r1, q1⟩ => thn (ho.run pins s1 σ H1 _ I1 q1) fun u s2 ⟨x, H2, I2, r2, a, C, ex, T, hno, q⟩ => ?_) hs
  subst ex
  obtain rfl : u = Value.ref a := r2
  rcases q with ⟨ea, q⟩ | ⟨dx, fs, ea, ed, hl, q⟩
  · exact ostB_new T I2 ea hno r1 fun dx s' n ne J => ⟨σ, _, J, q dx n ne⟩
  · exact ostB_old T I2 ea ed hl hno r1 fun s' J => ⟨σ, _, J, q⟩
end
/-! ### C(e, ..) that is raised -/
section
variable {gd : Bool} {X : Cx} {k : Nat} {C fI : Addr} {fd : FuncData} {ps : List Str} {sp : Sp} {x : Str} {p pos : Pos} {e : Expr} {es : List Expr} {t : TA}
/-- C(e, .., k = v): the state behind, and what is known of it -/
theorem run_xmk {pins : List (Addr × Obj)} {σ : St} {H : Hp} {s : Shared} {Q : Addr → Addr → List (Str × V) → Hp → Prop} {P : Value → Shared → Prop} {us all : List Value} {kw : List (Str × Value)} {vs : List V} (T : OexB X.K C) (iC : PySem.W.findIn X.K (.ref C) "__init__" = some (some (.ref fI))) (tI : PySem.W.typeIn X.K (.ref fI) = some (.type "function"))
    (F : FnG gd X.prog X.w X.K X.mg X.base k fI fd ps sp) (hr : Room (k + 1) X.A) (hgu : gd = true → X.A.guards = some [])
    (hb : ∀ (a : Addr) (s : Shared), X.K.In s.heap → BindsTo s fd ⟨.ref a :: us, kw⟩ (ps.zip (.ref a :: all))) (I : Inv X pins σ H s) (r : Vals vs all) (hz : us.length ≤ 1000)
    (h : ∀ a, H a = none → sp (.ref a :: vs) (upd H a (exo a C none)) (fun v H2 => v = .non ∧ ∃ (d : Addr) (fs : List (Str × V)), H2 a = some (exo a C (some d)) ∧ H2 d = some (exd d fs) ∧ H d = none ∧ Q a d fs H2) E0)
    (hP : ∀ a hp2 s' H2 d fs, s.heap.objs.size ≤ a → (∀ b o, s.heap.get? b = some o → hp2.get? b = some o) → s'.os = s.os → AllBare s'.gens → Un (frs X.stack) [] (upd H a (exo a C none)) H2 hp2 s'.heap → HOk X.prog X.w H2 s'.heap →
      Inv X pins σ H2 s' → H2 a = some (exo a C (some d)) → H2 d = some (exd d fs) → H d = none → Q a d fs H2 → P (.ref a) s') :
    wpAny (model X.prog X.w) X.A (call (.ref C) us kw) P X.xe s := by
  obtain ⟨B, newId, initId, bmB, nm, q, N, bs, bm, sn, sub, ab, col, dd, k0, k1, k2, k3, k5, hF, hC, hT, hbm, hob⟩ := T.cls
  obtain ⟨hp, g, dr, tk, os⟩ := s
  have hsz : hp.objs.size ≤ hp.objs.size + 1 := Nat.le_succ _
  have hq := h (hp.objs.size + 1) (I.hok.fresh hsz)
  have kk : ∀ b o, hp.get? b = some o → ((hp.push (PySem.W.kdv_tup us)).push (PySem.HandSPX.excO C hp.objs.size)).get? b = some o :=
    fun b o z => Heap.get?_push_of_some _ (Heap.get?_push_of_some _ z)
  have hget : ((hp.push (PySem.W.kdv_tup us)).push (PySem.HandSPX.excO C hp.objs.size)).get? (hp.objs.size + 1) =
      some (PySem.HandSPX.excO C hp.objs.size) := by heap_get
  have I2 := I.laid (t' := tk) (a := hp.objs.size + 1) (o := exo (hp.objs.size + 1) C none)
    (h' := (hp.push (PySem.W.kdv_tup us)).push (PySem.HandSPX.excO C hp.objs.size)) kk hsz (exo_ok hget)
  have r2 : Vals (V.ref (hp.objs.size + 1) :: vs) (Value.ref (hp.objs.size + 1) :: all) := .cons rfl r
  have hus : us.length ≤ sizeLine := by
    rw [sizeLine_eq]
    omega
  have bb := hb (hp.objs.size + 1) ⟨(hp.push (PySem.W.kdv_tup us)).push (PySem.HandSPX.excO C hp.objs.size), g, dr, tk, os⟩ I2.kIn
  refine wpAny_call (call_kw hF hT (I.kIn _ _ hC)
    (PySem.W.looks_findIn I.kIn iC) (fun self => PySem.W.bind_fn I.kIn self tI) hus
    (codeAny_mono (F.run _ X.stack _ _ ⟨Value.ref (hp.objs.size + 1) :: us, kw⟩ _ _ _ E0 (hr.make C us kw) (fun z => guards_make (hgu z)) (I2.env0.make C us kw) bb r2 hq) fun r s' hq' => ?_))
  rcases r with er | fl
  · exact (show False by
      obtain ⟨_, _, _, _, _, _, _, _, _, _, _, _, z⟩ := hq'
      exact z).elim
  · cases fl with
    | ret u =>
      obtain ⟨v, H2, os2, bare2, un2, hok2, rv, ev, d, fs, ea, ed, hd1, q2⟩ := hq'
      subst ev
      exact ⟨rv, hP _ _ s' H2 d fs hsz kk os2 bare2 un2 hok2 (I2.call' (ch := []) os2 un2 hok2 bare2 (fun b z => absurd z (by simp))) ea ed hd1 q2⟩
    | next => exact hq'.elim
    | brk => exact hq'.elim
    | cont => exact hq'.elim
theorem pmk_ZB (T : OexB X.K C) (iC : PySem.W.findIn X.K (.ref C) "__init__" = some (some (.ref fI))) (tI : PySem.W.typeIn X.K (.ref fI) = some (.type "function"))
    (F : FnG gd X.prog X.w X.K X.mg X.base k fI fd ps sp) (hr : Room (k + 1) X.A) (hgu : gd = true → X.A.guards = some []) (hb : Binds X.K fd ps []) (hg : Gl X x)
    (hm : X.mg x = some (.ref C)) (ha : PA X (e :: es) t) (hdb : (x == ("__debug__" : Str)) = false := by decide)
    (he : starEach (e :: es) X.env = (false, eval e X.env) :: starEach es X.env := by rfl) (hpl : (backTo pos (starEach es X.env)).any (·.1) = false := by rfl) :
    PMk X (.Call (.Name x p) (e :: es) [] pos) (zMkO C sp t) := by
  intro pins s σ H Q I h
  refine wpAny_Call_Name_kw (ld_glob I hg hm ?_ hdb)
  refine PySem.W.callWith_K (h₀ := X.base) I.ok.mod.kin T.kC (thn (ha.run pos pins s σ H _ I h) ?_) he hpl
  rintro us s1 ⟨vs, H1, I1, r1, hz, q1⟩
  refine ⟨I1.kIn, ?_⟩
  refine run_xmk (Q := fun a d fs H2 => Q (.ref C) (some d) (upd (del H2 a) d (.xd fs))) T iC tI F hr hgu (all := us) (kw := []) (fun a s2 K2 => ?_) I1 r1 (by show us.length ≤ 1000; rw [← Paired.length r1]; exact hz) q1 fun a hp2 s' H2 d fs hsz kk os2 bare2 un2 hok2 I3 ea ed hd1 q2 => ?_
  · have hl := F.len _ _ _ _ (q1 _ (I1.hok.fresh (Nat.le_refl _)))
    have bb := hb s2 (.ref a :: us) K2 (by rw [List.append_nil, List.length_cons, ← Paired.length r1]; exact hl)
    rw [List.append_nil] at bb
    exact bb
  · obtain ⟨hp, g, dr, tk, os⟩ := s1
    obtain ⟨h2, g2, d2, t2, os'⟩ := s'
    exact mk_end (raises_own T.exC T.tyC) I1 hsz kk un2 hok2 os2 bare2 ea ed hd1 q2
/-! ### an exception as a value: C(e, ..) -/
/-- an exception of the class at C with these fields -/
def ExO (H : Hp) (a C : Addr) (fs : List (Str × V)) : Prop := ∃ dd, H a = some (exo a C (some dd)) ∧ H dd = some (exd dd fs)
theorem ExO.same {H H' : Hp} {a C : Addr} {fs : List (Str × V)} (s : Same H H') (h : ExO H a C fs) : ExO H' a C fs := by
  obtain ⟨dd, h1, h2⟩ := h
  exact ⟨dd, s _ _ h1, s _ _ h2⟩
def tXmk (C : Addr) (sp : Sp) (ta : TA) : TE := fun σ H Q => ta σ H fun vs H1 => vs.length ≤ 1000 ∧ ∀ a, H1 a = none → sp (.ref a :: vs) (upd H1 a (exo a C none))
    (fun v H2 => v = .non ∧ ∃ (d : Addr) (fs : List (Str × V)), H2 a = some (exo a C (some d)) ∧ H2 d = some (exd d fs) ∧ H1 d = none ∧ Q (.ref a) H2) E0
theorem pe_xmk (T : OexB X.K C) (iC : PySem.W.findIn X.K (.ref C) "__init__" = some (some (.ref fI))) (tI : PySem.W.typeIn X.K (.ref fI) = some (.type "function"))
    (F : FnG gd X.prog X.w X.K X.mg X.base k fI fd ps sp) (hr : Room (k + 1) X.A) (hgu : gd = true → X.A.guards = some []) (hb : Binds X.K fd ps []) (hg : Gl X x)
    (hm : X.mg x = some (.ref C)) (ha : PA X (e :: es) t) (hdb : (x == ("__debug__" : Str)) = false := by decide)
    (he : starEach (e :: es) X.env = (false, eval e X.env) :: starEach es X.env := by rfl) (hpl : (backTo pos (starEach es X.env)).any (·.1) = false := by rfl) :
    PE X (.Call (.Name x p) (e :: es) [] pos) (tXmk C sp t) := by
  constructor
  intro pins s σ H Q I h
  refine wpAny_Call_Name_kw (ld_glob I hg hm ?_ hdb)
  refine PySem.W.callWith_K (h₀ := X.base) I.ok.mod.kin T.kC (thn (ha.run pos pins s σ H _ I h) ?_) he hpl
  rintro us s1 ⟨vs, H1, I1, r1, hz, q1⟩
  refine ⟨I1.kIn, ?_⟩
  refine run_xmk (Q := fun a d fs H2 => Q (.ref a) H2) T iC tI F hr hgu (all := us) (kw := []) (fun a s2 K2 => ?_) I1 r1 (by show us.length ≤ 1000; rw [← Paired.length r1]; exact hz) q1 fun a hp2 s' H2 d fs hsz kk os2 bare2 un2 hok2 I3 ea ed hd1 q2 => ?_
  · have hl := F.len _ _ _ _ (q1 _ (I1.hok.fresh (Nat.le_refl _)))
    have bb := hb s2 (.ref a :: us) K2 (by rw [List.append_nil, List.length_cons, ← Paired.length r1]; exact hl)
    rw [List.append_nil] at bb
    exact bb
  · exact ⟨.ref a, H2, I3, rfl, q2⟩
/-- C(k = e, ..), keywords alone: gV brings the values into the order of the parameters -/
def tXmkK (C : Addr) (sp : Sp) (n : Nat) (gV : List V → List V → List V) (tk : TA) : TE := fun σ H Q => tk σ H fun zs H1 => zs.length = n ∧ ∀ a, H1 a = none → sp (gV [.ref a] zs) (upd H1 a (exo a C none))
    (fun v H2 => v = .non ∧ ∃ (d : Addr) (fs : List (Str × V)), H2 a = some (exo a C (some d)) ∧ H2 d = some (exd d fs) ∧ H1 d = none ∧ Q (.ref a) H2) E0
theorem pe_xmkK {ks : List Str} {kws : List Keyword} {tk : TA} {g : List Value → List Value} {gV : List V → List V} (T : OexB X.K C) (iC : PySem.W.findIn X.K (.ref C) "__init__" = some (some (.ref fI))) (tI : PySem.W.typeIn X.K (.ref fI) = some (.type "function"))
    (F : FnG gd X.prog X.w X.K X.mg X.base k fI fd ps sp) (hr : Room (k + 1) X.A) (hgu : gd = true → X.A.guards = some []) (hb : KBn X.K fd ps 1 ks (fun us ws => us ++ g ws) (fun us ws => us ++ gV ws))
    (hrel : ∀ {zs : List V} {ws : List Value}, Vals zs ws → Vals (gV zs) (g ws)) (hg : Gl X x)
    (hm : X.mg x = some (.ref C)) (hkw : PK X kws tk) (hall : (backToKw pos (keywordEach kws X.env)).all (·.1.isSome) = true := by rfl) (hks : (backToKw pos (keywordEach kws X.env)).filterMap (·.1) = ks := by rfl)
    (hdb : (x == ("__debug__" : Str)) = false := by decide) (hpl : ((backTo pos (starEach [] X.env)).any (·.1) || (backToKw pos (keywordEach kws X.env)).any (·.1.isNone)) = false := by rfl) :
    PE X (.Call (.Name x p) [] kws pos) (tXmkK C sp ks.length (fun us ws => us ++ gV ws) tk) := by
  constructor
  intro pins s σ H Q I h
  refine wpAny_Call_Name_kw (ld_glob I hg hm ?_ hdb)
  refine PySem.W.callWith_KW0 (h₀ := X.base) I.ok.mod.kin T.kC hall (thn (hkw.run pos pins s σ H _ I h) fun ws s2 ⟨zs, H2, I2, rz, l2, q2⟩ => ⟨I2.kIn, ?_⟩) hpl
  rw [hks]
  have e2 : ws.length = ks.length := rz.length.symm.trans l2
  exact run_xmk (Q := fun a d fs H2 => Q (.ref a) H2) T iC tI F hr hgu (us := []) (fun a s2 K2 => hb.to s2 [.ref a] ws K2 rfl e2) I2 (hrel rz) (by decide) q2 fun a hp2 s' H2 d fs hsz kk os2 bare2 un2 hok2 I3 ea ed hd1 q2 => ⟨.ref a, H2, I3, rfl, q2⟩
end
theorem Fun.kbn {K : PySem.W.Frag} {x qual : Str} {st : Stmt} {f : Addr} {fd : FuncData} {ps : List Str} {n : Nat} {ks : List Str} {g : List Value → List Value → List Value} {gV : List V → List V → List V} (F : L2.Fun K x qual st f fd)
    (h : ∀ (kV doc pm : Value) (an : Option Addr) (cdv ct : Value) (us ws : List Value), us.length = n → ws.length = ks.length → bindArgs (PySem.W.fnOf x qual (defArgs st) (defBody st) (defScope st) .none kV doc pm an cdv ct) ⟨us, ks.zip ws⟩ = pure (ps.zip (g us ws)))
    (rel : ∀ {vs : List V} {us : List Value} {zs : List V} {ws : List Value}, Vals vs us → Vals zs ws → Vals (gV vs zs) (g us ws)) : KBn K fd ps n ks g gV := by
  obtain ⟨oc, od, kV, doc, pm, an, cdv, ct, osl, rfl, lk, hcd⟩ := F.ex
  exact ⟨fun s us ws _ l1 l2 => .of_eq (h kV doc pm an cdv ct us ws l1 l2), rel⟩
end Z
namespace Z
open PySem PySem.Spec PyProof.Rows L2
/-! ### the fields and the classes of an exception that is a value -/
/-- e.f, of an exception of whatever class -/
def tXo (K : PySem.W.Frag) (f : Str) (te : TE) : TE := fun σ H Q => te σ H fun x H1 => ∃ (a C : Addr) (fs : List (Str × V)) (v : V), x = .ref a ∧ ExO H1 a C fs ∧ XfC K C ∧ PySem.W.findIn K (.ref C) f = some none ∧ fs.lookup f = some v ∧ Q v H1
/-- isinstance(e, c) -/
def rIsO (K : PySem.W.Frag) : List V → Hp → VK → Prop := fun xs H Q => ∃ (a C : Addr) (fs : List (Str × V)) (c : V) (u : Value) (b : Bool), xs = [.ref a, c] ∧ ExO H a C fs ∧ ExT K C ∧ ClsV c u ∧ PySem.W.kitOne K (.ref C) u = some b ∧ Q (.bl b) H
section
variable {X : Cx}
theorem exo_in {pins : List (Addr × Obj)} {σ : St} {H : Hp} {s : Shared} {a C : Addr} {fs : List (Str × V)} (I : Inv X pins σ H s) (h : ExO H a C fs) :
    ∃ (oe od : Obj) (mA : Str → Option Value), PySem.W.InstAt s.heap a oe C (some od) ∧ (∀ f, PySem.W.lookIn f od = some (mA f)) ∧ ∀ f, RelO (fs.lookup f) (mA f) := by
  obtain ⟨dd, e1, e2⟩ := h
  obtain ⟨t1, ho⟩ := exo_at I.hok e1
  obtain ⟨mA, ns, rel⟩ := exd_at I.hok e2
  obtain ⟨od, h1, h2⟩ := lookIn_ns ns
  exact ⟨_, od, mA, ⟨ho, rfl, rfl, h1⟩, h2, rel⟩
theorem pe_xo {e : Expr} {te : TE} {pos : Pos} {n : Str} (he : PE X e te) (hb : attributeBase e n X.env (eval e X.env) = eval e X.env := by rfl) :
    PE X (.Attribute e n pos) (tXo X.K n te) := by
  constructor
  intro pins s σ H Q I h
  refine attr_of hb (thn (he.run pins s σ H _ I h) ?_)
  rintro u s1 ⟨x, H1, I1, rx, a, C, fs, v, rfl, ha, T, hno, hl, q⟩
  obtain rfl : u = Value.ref a := rx
  obtain ⟨oe, od, mA, J, lk, rel⟩ := exo_in I1 ha
  obtain ⟨u, hu, ru⟩ := RelO.some_of (v := v) (o := mA n) (by rw [← hl]; exact rel n)
  exact HandSPX.exc_get I1.kIn J T.ga T.gg T.exC (PySem.W.findObj_own T.hdC hno rfl (by rw [lk, hu])) (handed_of ru) ⟨v, H1, I1.tok _, ru, q⟩
theorem call_isO : CallR X (.builtin "isinstance") (rIsO X.K) := by
  intro pins s σ H xs us Q I r h
  obtain ⟨a, C, fs, c, cv, b, rfl, ha, T, k, e, q⟩ := h
  obtain ⟨u1, u2, rfl, r1, r2⟩ := vals2 r
  have e2 := k.eq r2
  subst e2
  obtain rfl : u1 = Value.ref a := r1
  obtain ⟨oe, od, mA, J, _⟩ := exo_in I ha
  exact PySem.W.kia_one (PySem.W.kitx_exc T.cl T.xf.ga T.xf.gg T.xf.exC T.ha T.hn T.ht T.hm) I.kIn J e (fun z => nomatch z) fun tk => ⟨.bl b, H, I.tok tk, rfl, q⟩
end
end Z
namespace Z
open PySem PySem.Spec PyProof.Rows L2
theorem vals_getD : ∀ {zs : List V} {ws : List Value}, Vals zs ws → ∀ i, RelV (zs.getD i .non) (ws.getD i .none)
  | _, _, .nil, i => by simp only [List.getD_nil]; exact rfl
  | _, _, .cons r t, 0 => r
  | _, _, .cons r t, i + 1 => vals_getD t i
/-- an own class whose classes above are built-in -/
def MroT (K : PySem.W.Frag) (C : Addr) (ts : List String) : Prop := ∃ cd, PySem.W.clsIn K C = some cd ∧ cd.mro = .ref C :: ts.map .type
theorem mroT_of {K : PySem.W.Frag} {nm q : Str} {C N : Addr} {bs bm : List Value} {hd : Bool} {sn : List Str} {sub : List Value} {ab : Bool} {col : Option Bool} {dd : Option Addr} {k0 k1 k2 k3 k5 : Option Value} {newId : String} {ts : List String}
    (h : K.lookup C = some (excClassObj nm q C N bs bm hd sn sub ab col dd k0 k1 k2 k3 k5 newId)) (e : bm = ts.map .type) : MroT K C ts := by
  subst e
  exact ⟨{ name := nm, bases := bs, mro := .ref C :: ts.map .type, ns := N, qualname := q, hasDict := hd, slotNames := sn, subclasses := sub, abstract := ab, collection := col, hasDel := false }, by unfold PySem.W.clsIn; rw [h] <;> rfl, rfl⟩
theorem MroT.ref {K : PySem.W.Frag} {C D : Addr} {ts : List String} (h : MroT K C ts) : PySem.W.subIn K (.ref C) (.ref D) = some (decide (C = D)) := by
  obtain ⟨cd, h1, h2⟩ := h
  show PySem.W.mroIn K C (.ref D) = _
  unfold PySem.W.mroIn
  rw [h1, Option.bind_some, h2]
  have : (ts.map Value.type).contains (.ref D) = false := by
    rw [List.contains_eq_mem]
    simp
  by_cases e : C = D
  · subst e
    simp
  · have e2 : ¬ D = C := fun z => e z.symm
    simp [e, e2]
theorem MroT.type {K : PySem.W.Frag} {C : Addr} {ts : List String} {T : String} (h : MroT K C ts) : PySem.W.subIn K (.ref C) (.type T) = some (decide (T ∈ ts)) := by
  obtain ⟨cd, h1, h2⟩ := h
  show PySem.W.mroIn K C (.type T) = _
  unfold PySem.W.mroIn
  rw [h1, Option.bind_some, h2]
  simp
/-- isinstance over own classes that are unlike -/
theorem kit_own {K : PySem.W.Frag} {C D : Addr} {ts : List String} (h : MroT K C ts) (hc : (PySem.W.clsIn K D).isSome = true) (ht : PySem.W.typeIn K (.ref D) = some (.type "type")) : PySem.W.kitOne K (.ref C) (.ref D) = some (decide (C = D)) := by
  by_cases e : C = D
  · subst e
    rw [kit_one]
    simp
  · refine kit_cls ?_ hc ht h.ref
    have : decide (C = D) = false := by simp [e]
    rw [this, beq_eq_false_iff_ne]
    exact fun z => e (Value.ref.inj z)
end Z
namespace Z
open PySem PySem.Spec PyProof.Rows L2
/-! ### try with several clauses, each with its name -/
def wAsVs (K : PySem.W.Frag) : List (Value × Nat × TS) → Ends → WX
  | [], _ => fun _ _ _ _ => False
  | c :: r, D => fun cls d σ H => (PySem.W.exmOne K cls c.1 = some true ∧
      ∀ a, H a = none → c.2.2 { nx := fun σ' H' => D.nx (σ'.set c.2.1 none) H', rt := D.rt, bk := fun σ' H' => D.bk (σ'.set c.2.1 none) H', ct := fun σ' H' => D.ct (σ'.set c.2.1 none) H' } (σ.set c.2.1 (some (.ref a))) (upd H a (ExV cls d a))) ∨
    (PySem.W.exmOne K cls c.1 = some false ∧ wAsVs K r D cls d σ H)
inductive Clauses (X : Cx) : List ExceptHandler → List (Value × Nat × TS) → Prop
  | nil : Clauses X [] []
  | cons {x n : Str} {c : Value} {i : Nat} {suite : List Stmt} {b₀ : Stmt} {np pos' : Pos} {ts : TS} {hs : List ExceptHandler} {cs : List (Value × Nat × TS)} (hi : X.N[i]? = some n) (hln : X.env.kindOf n = some .local) (hc : Names X x c)
      (hsu : ∀ (a : Addr) (pn : List (Addr × Obj)), PSs (X.suite a pn) (b₀ :: suite) ts) (r : Clauses X hs cs) : Clauses X (.ExceptHandler (some (.Name x np)) (some n) (b₀ :: suite) pos' :: hs) ((c, i, ts) :: cs)
section
variable {X : Cx}
/-- the ground, and where it comes from -/
structure Gd (X : Cx) (pins : List (Addr × Obj)) (σ : St) (H : Hp) (cls : Value) (d : Option Addr) (a : Addr) (B : Heap) (s : Shared) : Prop where
  ex : ∃ sI : Shared, Inv X pins σ H sI ∧ (∀ b o, sI.heap.get? b = some o → b ∉ frs X.stack → B.get? b = some o) ∧ sI.heap.UpToSlots s.heap ∧ s.os = sI.os
  fl : HandSPX.FlyingZ B (X.env :: X.outer) a (Zc cls d) s.heap
  ag : AllBare s.gens
  na : H a = none
theorem Gd.gr {X : Cx} {pins : List (Addr × Obj)} {σ : St} {H : Hp} {cls : Value} {d : Option Addr} {a : Addr} {B : Heap} {s : Shared} (G : Gd X pins σ H cls d a B s) (hs : X.stack = X.env :: X.outer) (hf : X.env.frame = some X.env.locals) : Gr X pins σ H cls d a B s := by
  obtain ⟨sI, J, nb, up, os⟩ := G.ex
  exact Gr.of hs hf J nb G.fl up os G.ag G.na
theorem Gd.again {X : Cx} {pins : List (Addr × Obj)} {σ : St} {H : Hp} {cls : Value} {d : Option Addr} {a : Addr} {B : Heap} {s : Shared} {h4 : Heap} (G : Gd X pins σ H cls d a B s) (fl : HandSPX.FlyingZ B (X.env :: X.outer) a (Zc cls d) h4) (up4 : s.heap.UpToSlots h4) : Gd X pins σ H cls d a B { s with heap := h4 } := by
  obtain ⟨sI, J, nb, up, os⟩ := G.ex
  exact ⟨⟨sI, J, nb, up.trans up4, os⟩, fl, G.ag, G.na⟩
theorem Gr.handled {pins : List (Addr × Obj)} {σ : St} {H : Hp} {cls : Value} {d : Option Addr} {a : Addr} {B : Heap} {D : Ends} (hN : X.N.Nodup) (hst : X.stack = X.env :: X.outer) (hf : X.env.frame = some X.env.locals) :
    ∀ {hs : List ExceptHandler} {cs : List (Value × Nat × TS)}, Clauses X hs cs → ∀ {s : Shared}, Gd X pins σ H cls d a B s → wAsVs X.K cs D cls d σ H →
      wpAny (model X.prog X.w) X.A (handleBy (.ref a) X.env hs) (SP X pins D) X.xe s
  | _, _, .nil, s, G, w => w.elim
  | _, _, .cons (x := x) (n := n) (c := c) (i := i) (suite := suite) (b₀ := b₀) (np := np) (pos' := pos') (ts := ts) hi hln hc hsu r, s, G0, w => by
    have G3 := G0.gr hst hf
    have ok := G3.inv.ok
    have out : ∀ (f : Flow) (s6 : Shared), SP (X.suite a (X.pn ++ pins)) [] { nx := fun σ' H' => D.nx (σ'.set i none) H', rt := D.rt, bk := fun σ' H' => D.bk (σ'.set i none) H', ct := fun σ' H' => D.ct (σ'.set i none) H' } f s6 →
        wpAny (model X.prog X.w) X.A (do bindName X.env n .none; unbindBehindTheSuite X.env n pos') (fun _ s7 => SP X pins D f s7) X.xe s6 := by
      intro f s6 q
      cases f with
      | next =>
        obtain ⟨σ6, H6, S6, q6⟩ := q
        exact gone_ok (unsuite ok S6) hN hi hln fun s7 J7 => ⟨_, _, J7, q6⟩
      | brk =>
        obtain ⟨σ6, H6, S6, q6⟩ := q
        exact gone_ok (unsuite ok S6) hN hi hln fun s7 J7 => ⟨_, _, J7, q6⟩
      | cont =>
        obtain ⟨σ6, H6, S6, q6⟩ := q
        exact gone_ok (unsuite ok S6) hN hi hln fun s7 J7 => ⟨_, _, J7, q6⟩
      | ret u =>
        obtain ⟨v6, σ6, H6, S6, r6, q6⟩ := q
        exact gone_ok (unsuite ok S6) hN hi hln fun s7 J7 => ⟨_, _, _, J7, r6, q6⟩
    have S3 := G3.suite
    obtain ⟨oe, vs, he, hz, _⟩ := G3.fl.there
    refine wpAny_handleBy_cons (codeAny_handlers_test ?_) (by intro q; cases q)
    have ty : PySem.W.Looks (model X.prog X.w) s.heap (typeOf (.ref a)) cls := fun A Q E s k q => wpAny_typeOf_ref (k _ _ he) (by rw [hz.1]; exact q)
    have nm : ∀ {Q E : Value → Shared → Prop}, Q c s → wpAny (model X.prog X.w) (X.A.mark (some (.ref a))) (eval (.Name x np) X.env) Q E s := by
      intro Q E q
      obtain ⟨hg, hd, h1 | ⟨h1, h2, h3⟩⟩ := hc
      · exact ld_glob (X := X.suite a (X.pn ++ pins)) S3 hg h1 q hd
      · exact ld_blt (X := X.suite a (X.pn ++ pins)) S3 hg h1 h2 q h3 hd
    rcases w with ⟨hm, hy⟩ | ⟨hm, w⟩
    · have mt := PySem.W.exm_one (M := model X.prog X.w) G3.inv.kIn ty hm
      refine nm (mt.here ?_)
      refine codeAny_handlers_suite_as (HandSPX.lands_againZ G0.fl fun h4 fl4 up4 => ?_)
      have G4 := (G0.again fl4 up4).gr hst hf
      refine store_ok (X := X.suite a (X.pn ++ pins)) (v := .ref a) G4.suite hN hi (.inl hln) rfl (fun s5 S5 => ?_) (.inr hln)
      exact wpAny_mono ((hsu a (X.pn ++ pins)).run [] s5 _ _ _ S5 (hy a G0.na)) (fun f s6 q => out f s6 q) fun _ _ z => z.elim
    · have mt := PySem.W.exm_one (M := model X.prog X.w) G3.inv.kIn ty hm
      refine nm (mt.here ?_)
      exact Gr.handled hN hst hf r G0 w
theorem ps_try_asVs {hs : List ExceptHandler} {cs : List (Value × Nat × TS)} {body : List Stmt} {pos : Pos} {tb : WX → TS} (hst : X.stack = X.env :: X.outer) (hf : X.env.frame = some X.env.locals) (hN : X.N.Nodup)
    (hb : ∀ (W : WX) (pn : List (Addr × Obj)) (xe : Value → Shared → Prop), Takes (X.tr pn xe) W → PassesOwn (model X.prog X.w) X.A X.env xe → PSs (X.tr pn xe) body (tb W))
    (hc : Clauses X hs cs) (h0 : hs ≠ []) : PS X (.Try body hs [] [] pos) (fun D σ H => tb (wAsVs X.K cs D) D σ H) := by
  constructor
  intro pins s σ H D I h
  have ok := I.ok
  obtain ⟨hd, tl, rfl⟩ := List.exists_cons_of_ne_nil h0
  have done : ∀ (f : Flow) (s1 : Shared), SP (X.tr (X.pn ++ pins) (fun e s₁ => wpAny (model X.prog X.w) X.A (noteFrame e X.env) (fun _ s₂ => wpAny (model X.prog X.w) X.A (setFlight e none) (fun _ s₃ =>
      wpAny (model X.prog X.w) X.A (handleBy e X.env (hd :: tl)) (SP X pins D) X.xe s₃) X.xe s₂) X.xe s₁)) [] D f s1 →
      (match f with | .next => wpAny (model X.prog X.w) X.A (execs [] X.env) (SP X pins D) X.xe s1 | f => SP X pins D f s1) := by
    intro f s1 q
    cases f with
    | next =>
      obtain ⟨σ2, H2, J2, q2⟩ := q
      exact wpAny_execs_nil ⟨σ2, H2, J2.ofTry ok, q2⟩
    | brk =>
      obtain ⟨σ2, H2, J2, q2⟩ := q
      exact ⟨σ2, H2, J2.ofTry ok, q2⟩
    | cont =>
      obtain ⟨σ2, H2, J2, q2⟩ := q
      exact ⟨σ2, H2, J2.ofTry ok, q2⟩
    | ret u =>
      obtain ⟨v, σ2, H2, J2, r, q2⟩ := q
      exact ⟨v, σ2, H2, J2.ofTry ok, r, q2⟩
  refine wpAny_Try_except (wpAny_mono ((hb (wAsVs X.K cs D) (X.pn ++ pins) _ ?_ PassesOwn.looking).run [] s σ H D (I.toTry _) h) done fun _ _ q => q)
  rintro u s1 ⟨a, B, sI, pins2, σ1, H1, cls, d, rfl, J2, nb, up, sky, na, os, ag, hw⟩
  have J := J2.ofTry (pins := pins) ok
  have frames : X.A.frames = some (X.env :: X.outer) := by rw [ok.frames, hst]
  refine Sky.land Zc.steady frames hf (show Sky B (X.env :: X.outer) a (Zc cls d) X.env.locals s1.heap by rw [← hst]; exact sky) fun h3 fl3 up3 => ?_
  exact Gr.handled hN hst hf hc (s := { s1 with heap := h3 }) ⟨⟨sI, J, nb, up.trans up3, os⟩, fl3, ag, na⟩ hw
end
end Z
namespace Z
open PySem PySem.Spec PyProof.Rows L2
open PySem.SeqAt PySem.MeetsSeq PySem.MeetsSeq2 PySem.MeetsSeq3 PySem.SeqRoads2
open PySem.AutoSeq1 (wpAny_loadPart')
/-! ### == of a dict and a tuple -/
section
variable {A : Around} {s : Shared}
def TupO (h : Heap) (l : Addr) : Prop := ∃ (dd : Option Addr) (its : Array Value) (n : Nat) (sl : Array (Option Value)), h.get? l = some { cls := .type "tuple", dict := dd, data := .seq its n, slots := sl }
theorem dict_declines_tuple {prog : Program} {w : World} {E : Value → Shared → Prop} {l t : Addr} {Q : Value → Shared → Prop} (hl : DictO s.heap l) (ht : TupO s.heap t) (q : Q .notImplemented s) :
    wpAny (model prog w) A (call (.builtin "dict.__eq__") [.ref l, .ref t]) Q E s := by
  obtain ⟨dd, es, ep, sl, hl⟩ := hl
  obtain ⟨dd2, its, n, sl2, ht⟩ := ht
  refine GQ.call_here F.slot_dict_eq ⟨_, hl, rfl⟩ F.entry_dict_eq (F.args_dict_eq_2 _ _) ?_
  obtain ⟨hp, g, d, tk, os⟩ := s
  have f1 := F.sub_tuple_dict
  wp_walk using wpAny_loadPart' hl, wpAny_load hl, wpAny_loadPart' ht, wpAny_load ht
  exact q
theorem tuple_declines_dict {prog : Program} {w : World} {E : Value → Shared → Prop} {l t : Addr} {Q : Value → Shared → Prop} (hl : DictO s.heap l) (ht : TupO s.heap t) (q : Q .notImplemented s) :
    wpAny (model prog w) A (call (.builtin "tuple.__eq__") [.ref t, .ref l]) Q E s := by
  obtain ⟨dd, es, ep, sl, hl⟩ := hl
  obtain ⟨dd2, its, n, sl2, ht⟩ := ht
  refine GQ.call_here F.slot_tuple_eq ⟨_, ht, rfl⟩ F.entry_tuple_eq (F.args_tuple_eq_2 _ _) ?_
  obtain ⟨hp, g, d, tk, os⟩ := s
  have f1 := F.sub_dict_tuple
  wp_walk using wpAny_loadPart' hl, wpAny_load hl, wpAny_loadPart' ht, wpAny_load ht
  exact q
theorem rc_dict_tuple {l t : Addr} (hl : DictO s.heap l) (ht : TupO s.heap t) (hu : A.units < cLine) : RcAt A s (.ref l) (.ref t) false := by
  intro prog w E Q h
  have tl : s.TypeIs (.ref l) "dict" := by
    obtain ⟨dd, es, ep, sl, hl⟩ := hl
    exact ⟨_, hl, rfl⟩
  have tt : s.TypeIs (.ref t) "tuple" := by
    obtain ⟨dd, its, n, sl, ht⟩ := ht
    exact ⟨_, ht, rfl⟩
  have ne : l ≠ t := by
    intro z
    subst z
    obtain ⟨_, _, _, _, e1⟩ := hl
    obtain ⟨_, _, _, _, e2⟩ := ht
    rw [e1] at e2
    have z := congrArg (Option.map Obj.cls) e2
    simp at z
  refine rc_eq_decline_or (k := false) tl tt (by decide) F.sub_tuple_dict F.slot_dict_eq F.slot_tuple_eq_refl (fun _ hq => dict_declines_tuple hl ht hq) (fun _ hq => tuple_declines_dict hl ht hq)
    (fun _ hq => ?_) (.inr hu) h
  obtain ⟨_, _, _, _, e1⟩ := hl
  obtain ⟨_, _, _, _, e2⟩ := ht
  first
    | exact wpAny_isSame_ref_other ne e1 e2 (by simp) hq
    | exact wpAny_isSame_ref_other' ne e1 e2 (by simp) hq
end
section
variable {X : Cx}
def rEqDT (K : PySem.W.Frag) : R2 := fun x y H Q => ∃ (a b : Addr) (kvs : List (Key × V)) (ys : List V), x = .ref a ∧ y = .ref b ∧ H a = some (.dK kvs) ∧ SqT K H b ys ∧ Q (.bl false) H
theorem op_eqDT (hu : X.A.units + 64 < cLine) : OpR X (compareOp .Eq) (rEqDT X.K) := by
  intro pins s σ H x y v u Q I rx ry h
  obtain ⟨a, b, kvs, ys, rfl, rfl, ha, hb, q⟩ := h
  obtain rfl : v = Value.ref a := rx
  obtain rfl : u = Value.ref b := ry
  have dO : DictO s.heap a := by
    obtain ⟨_, _, vs, _, ⟨oc, od, dt, sl⟩, es, ep, e1, e2, e3, _⟩ := (show ObjOk X.prog X.w H s.heap a (.dK kvs) from I.hok a _ ha)
    have c1 := e2.1
    simp only at c1 e3
    subst c1 e3
    exact ⟨od, es, ep, sl, e1⟩
  obtain ⟨its, rv, px, _⟩ := I.tuple hb
  have tO : TupO s.heap b := by
    obtain ⟨⟨oc, od, dt, sl⟩, e1, c1, n, d1⟩ := px
    simp only at c1 d1
    subst c1 d1
    exact ⟨od, _, n, sl, e1⟩
  exact rc_dict_tuple dO tO (show X.A.units < cLine by omega) X.prog X.w X.xe _ ⟨.bl false, H, I, rfl, q⟩
/-! ### == and != of lists whose items are alike one by one: the same object, or equal scalars -/
def SmV (v : V) : Prop := v = .non ∨ (∃ b, v = .bl b) ∨ (∃ i, v = .int i) ∨ (∃ z, v = .str z) ∨ ∃ a, v = .ref a
theorem smV_eq {A : Around} {s : Shared} {v : V} {u w : Value} (h : SmV v) (r1 : RelV v u) (r2 : RelV v w) : EqAt A s u w true := by
  rcases h with rfl | ⟨b, rfl⟩ | ⟨i, rfl⟩ | ⟨z, rfl⟩ | ⟨a, rfl⟩
  · cases r1; cases r2
    exact EqAt.same _
  · cases r1; cases r2
    exact EqAt.same _
  · obtain ⟨t1, rfl⟩ := r1
    obtain ⟨t2, rfl⟩ := r2
    have := EqAt.int_int (A := A) (s := s) i t1 i t2
    simpa using this
  · obtain ⟨t1, rfl⟩ := r1
    obtain ⟨t2, rfl⟩ := r2
    have := EqAt.str_str (A := A) (s := s) z t1 z t2
    simpa using this
  · cases r1; cases r2
    exact EqAt.same _
def rEqI (K : PySem.W.Frag) (neg : Bool) : R2 := fun x y H Q => ∃ (a b : Addr) (xs : List V), x = .ref a ∧ y = .ref b ∧ SqL K H a xs ∧ SqL K H b xs ∧ (∀ v ∈ xs, SmV v) ∧ Q (.bl (!neg)) H
theorem listsI {pins : List (Addr × Obj)} {σ : St} {H : Hp} {s : Shared} {a b : Addr} {xs : List V} (I : Inv X pins σ H s) (ha : SqL X.K H a xs) (hb : SqL X.K H b xs) (hs : ∀ v ∈ xs, SmV v) :
    ∃ i1 i2 : Array Value, s.heap.IsList a i1 ∧ s.heap.IsList b i2 ∧ i1.size = i2.size ∧ ∀ A j (h1 : j < i1.size) (h2 : j < i2.size), EqAt A s i1[j] i2[j] true := by
  obtain ⟨its1, r1, p1, _⟩ := I.list ha
  obtain ⟨its2, r2, p2, _⟩ := I.list hb
  refine ⟨its1.toArray, its2.toArray, p1.isList, p2.isList, ?_, fun A j h1 h2 => ?_⟩
  · simp only [List.size_toArray]
    exact r1.length.symm.trans r2.length
  · have h1' : j < its1.length := by simpa using h1
    have hj : j < xs.length := by rw [r1.length]; exact h1'
    obtain ⟨u1, e1, q1⟩ := r1.get (List.getElem?_eq_getElem hj)
    obtain ⟨u2, e2, q2⟩ := r2.get (List.getElem?_eq_getElem hj)
    have z1 : its1.toArray[j] = u1 := by
      have := (List.getElem?_eq_some_iff.mp e1).2
      simpa using this
    have z2 : its2.toArray[j] = u2 := by
      have := (List.getElem?_eq_some_iff.mp e2).2
      simpa using this
    rw [z1, z2]
    exact smV_eq (hs _ (List.getElem_mem hj)) q1 q2
theorem op_eqI (hu : X.A.units + 64 < cLine) : OpR X (compareOp .Eq) (rEqI X.K false) := by
  intro pins s σ H x y v u Q I rx ry h
  obtain ⟨a, b, xs, rfl, rfl, ha, hb, hs, q⟩ := h
  obtain rfl : v = Value.ref a := rx
  obtain rfl : u = Value.ref b := ry
  obtain ⟨i1, i2, p1, p2, hz, he⟩ := listsI I ha hb hs
  have rc := RcAt.lists (A := X.A) (e := fun _ => true) p1 p2 hz (show X.A.units < cLine by omega) fun j h1 h2 => he _ j h1 h2
  have e : ((List.range i1.size).all fun _ => true) = true := by simp
  rw [e] at rc
  exact rc X.prog X.w X.xe _ ⟨.bl true, H, I, rfl, q⟩
theorem op_neI (hu : X.A.units + 64 < cLine) : OpR X (compareOp .NotEq) (rEqI X.K true) := by
  intro pins s σ H x y v u Q I rx ry h
  obtain ⟨a, b, xs, rfl, rfl, ha, hb, hs, q⟩ := h
  obtain rfl : v = Value.ref a := rx
  obtain rfl : u = Value.ref b := ry
  obtain ⟨i1, i2, p1, p2, hz, he⟩ := listsI I ha hb hs
  have rc := RcNeAt.lists (A := X.A) (e := fun _ => true) p1 p2 hz (show X.A.units < cLine by omega) fun j h1 h2 => he _ j h1 h2
  have e : ((List.range i1.size).all fun _ => true) = true := by simp
  rw [e] at rc
  exact rc X.prog X.w X.xe _ ⟨.bl false, H, I, rfl, q⟩
def zEqI (K : PySem.W.Frag) : R2 := fun x y H Q => rEqI K false x y H Q ∨ rEqDT K x y H Q ∨ zEq K x y H Q
def zNeI (K : PySem.W.Frag) : R2 := fun x y H Q => rEqI K true x y H Q ∨ zNe K x y H Q
theorem op_zEqI (hu : X.A.units + 64 < cLine) : OpR X (compareOp .Eq) (zEqI X.K) := (op_eqI hu).or ((op_eqDT hu).or (op_zEq hu))
theorem op_zNeI (hu : X.A.units + 64 < cLine) : OpR X (compareOp .NotEq) (zNeI X.K) := (op_neI hu).or (op_zNe hu)
end
end Z
namespace Z
open PySem PySem.Spec PyProof.Rows L2
/-! ### C(e, .., k = v, ..), its __init__ may raise -/
def zMakeK (C : Addr) (n m : Nat) (sp : Sp) (gV : List V → List V → List V) (E : St → XK) (t tk : TA) : TE := fun σ H Q => t σ H fun vs H1 => tk σ H1 fun zs H2 => vs.length = n ∧ zs.length = m ∧ ∀ x dx, H2 x = none → H2 dx = none → dx ≠ x →
  sp (gV (.ref x :: vs) zs) (upd (upd H2 dx (.own x)) x (.ins C dx [])) (fun v H3 => v = .non ∧ Q (.ref x) H3) (E σ)
section
variable {gd : Bool} {X : Cx} {k n : Nat} {f C : Addr} {fd : FuncData} {ps ks : List Str} {sp : Sp} {E : St → XK} {x : Str} {p pos : Pos} {e : Expr} {es : List Expr} {kws : List Keyword} {t tk : TA} {g : List Value → List Value → List Value} {gV : List V → List V → List V}
theorem pe_makeZK (M : Mk X.K C f) (F : FnG gd X.prog X.w X.K X.mg X.base k f fd ps sp) (hr : Room (k + 1) X.A) (hgu : gd = true → X.A.guards = some []) (hg : Gl X x) (hm : X.mg x = some (.ref C)) (hb : KBn X.K fd ps (n + 1) ks g gV) (hx : ∀ σ, PassesAt (L2.CX X.prog X.w) X σ (E σ))
    (ha : PA X (e :: es) t) (hkw : PK X kws tk)
    (hall : (backToKw pos (keywordEach kws X.env)).all (·.1.isSome) = true := by rfl) (hks : (backToKw pos (keywordEach kws X.env)).filterMap (·.1) = ks := by rfl) (hdb : (x == ("__debug__" : Str)) = false := by decide)
    (he : starEach (e :: es) X.env = (false, eval e X.env) :: starEach es X.env := by rfl) (hpl : ((backTo pos (starEach (e :: es) X.env)).any (·.1) || (backToKw pos (keywordEach kws X.env)).any (·.1.isNone)) = false := by rfl) :
    PE X (.Call (.Name x p) (e :: es) kws pos) (zMakeK C n ks.length sp gV E t tk) := by
  constructor
  intro pins s σ H Q I h
  refine wpAny_Call_Name_kw (ld_glob I hg hm ?_ hdb)
  refine PySem.W.callWith_KW (h₀ := X.base) I.ok.mod.kin M.kp hall (thn (ha.run pos pins s σ H _ I h) fun us s1 ⟨vs, H1, I1, r, q⟩ => ?_) hpl he
  refine thn (hkw.run pos pins s1 σ H1 _ I1 q) fun ws s2 ⟨zs, H2, I2, rz, l1, l2, q2⟩ => ⟨I2.kIn, ?_⟩
  rw [hks]
  have n0 := I2.hok.fresh (Nat.le_refl s2.heap.objs.size)
  have n1 := I2.hok.fresh (Nat.le_succ s2.heap.objs.size)
  have hq := q2 _ _ n1 n0 (Nat.ne_of_lt (Nat.lt_succ_self _))
  have I3 := Inv.made (C := C) I2
  have r1 : Vals (V.ref (s2.heap.objs.size + 1) :: vs) (Value.ref (s2.heap.objs.size + 1) :: us) := .cons rfl r
  have r2 := hb.rel r1 rz
  have m1 : (Value.ref (s2.heap.objs.size + 1) :: us).length = n + 1 := by
    rw [List.length_cons, ← r.length, l1]
  show wpAny _ _ (call (.ref C) us (ks.zip ws)) _ _ _
  refine wpAny_call (make_map (f := f) I2.kIn M.makes M.init (beq_iff_eq.mp M.fn) (codeAny_mono (F.run _ X.stack _ _ ⟨Value.ref (s2.heap.objs.size + 1) :: us, ks.zip ws⟩ (g (Value.ref (s2.heap.objs.size + 1) :: us) ws) _ _ (E σ) (hr.make C us (ks.zip ws))
    (fun z => guards_make (hgu z)) (I3.env0.make C us (ks.zip ws)) (hb.to _ (Value.ref (s2.heap.objs.size + 1) :: us) ws I3.kIn m1 (rz.length.symm.trans l2)) r2 hq) fun r s' hq' => ?_))
  rcases r with er | fl
  · exact hx σ pins _ _ er s' I3 hq'
  · cases fl with
    | ret u =>
      obtain ⟨v, H', I4, rv, ev, q3⟩ := I3.after hq'
      subst ev
      exact ⟨rv, ⟨V.ref (s2.heap.objs.size + 1), H', I4, rfl, q3⟩⟩
    | next => exact hq'.elim
    | brk => exact hq'.elim
    | cont => exact hq'.elim
end
/-! ### cls(e, .., *xs), the class in a local name -/
def zNewS (i : Nat) (C : Addr) (sp : Sp) (E : XK) (t : TA) : TE := fun σ H Q => σ[i]? = some (some (.ref C)) ∧ t σ H fun vs H1 => ∀ o dx, H1 o = none → H1 dx = none → dx ≠ o → sp (.ref o :: vs) (upd (upd H1 dx (.own o)) o (.ins C dx [])) (fun v H2 => v = .non ∧ Q (.ref o) H2) E
section
variable {X : Cx} {k i : Nat} {f C : Addr} {sp : Sp} {x : Str} {e : Expr} {es : List Expr} {t : TA} {p pos : Pos} {E : XK}
theorem pe_zNewS (M : Mk X.K C f) (F : FnR X.prog X.w X.K X.mg X.base (L2.CX X.prog X.w) k f sp) (hr : Room (k + 1) X.A) (hN : X.N[i]? = some x) (hv : Vis X.env.scope x) (hx : Passes (L2.CX X.prog X.w) X E) (ha : PA X (e :: es) t)
    (hdb : (x == ("__debug__" : Str)) = false := by decide) (hcd : (x == ("__classdict__" : Str)) = false := by decide) (he : starEach (e :: es) X.env = (false, eval e X.env) :: starEach es X.env := by rfl) (hst : (backTo pos (starEach es X.env)).any (·.1) = true := by rfl) :
    PE X (.Call (.Name x p) (e :: es) [] pos) (zNewS i C sp E t) := by
  constructor
  intro pins s σ H Q I h
  obtain ⟨hs, ht⟩ := h
  refine wpAny_Call_Name_kw (thn ((pe_var (pos := p) hN hv hdb hcd).run pins s σ H (fun v H1 => v = .ref C ∧ H1 = H) I ⟨.ref C, hs, rfl, rfl⟩) ?_)
  rintro u s1 ⟨v, H1, I1, r1, rfl, rfl⟩
  cases r1
  refine PySem.W.callWith_S2 (h₀ := X.base) I.ok.mod.kin M.kp (thn (ha.run pos pins s1 σ _ _ I1 ht) ?_) he hst
  rintro us s2 ⟨vs, H2, I2, rv, q⟩
  exact ⟨I2.kIn, StX.run_makeR M F hr hx I2 rv q⟩
end
theorem bind_star3 {B : List Value → Sem (List (Str × Value))} {p1 p2 p3 pv : Str} (h0 : ∀ a b c, B [a, b, c] = (newTuple [] >>= fun t => pure [(p1, a), (p2, b), (p3, c), (pv, t)]))
    (h1 : ∀ a b c r rs, B (a :: b :: c :: r :: rs) = (newTuple (r :: rs) >>= fun t => pure [(p1, a), (p2, b), (p3, c), (pv, t)])) :
    ∀ us rest : List Value, us.length = 3 → B (us ++ rest) = (newTuple rest >>= fun t => pure (([p1, p2, p3] : List Str).zip us ++ [(pv, t)]))
  | [a, b, c], [], _ => h0 a b c
  | [a, b, c], r :: rs, _ => h1 a b c r rs
/-! ### one != other by an own __eq__ -/
section
variable {prog : Program} {w : World} {A : Around} {E : Value → Shared → Prop} {s : Shared} {K : PySem.W.Frag} {x C f : Addr} {ox : Obj} {od : Option Obj} {name : Str} {b : Value}
open PySem.W in
theorem ifBound_B {M : Model} {args : List Value} {id : String} {Q : Option Value → Shared → Prop} (X : K.In s.heap) (I : InstAt s.heap x ox C od) (hs : findIn K (.ref C) name = some (some (.builtin id))) (hb : ∀ self, bindSpecial (.builtin id) self = pure (.builtin id, [self]))
    (h : wpAny M A (call (.builtin id) (.ref x :: args)) (fun v => Q (some v)) E s) : wpAny M A (callSpecialIfBound? (.ref x) name args) Q E s := by
  simp only [callSpecialIfBound?, bindSpecialIfBound?]
  refine wpAny_holding (wpAny_bind (wpAny_bind (wpAny_bind (I.type.here ((looks_findIn X hs).here ?_)))))
  refine wpAny_bind (wpAny_askSetting (wpAny_ite ?_))
  have fin : wpAny M A (call (.builtin id) ([.ref x] ++ args) >>= fun v => pure (some v)) Q E s := wpAny_bind (wpAny_mono h (fun v s' h' => wpAny_pure h') fun _ _ h' => h')
  split
  · rw [hb]
    exact wpAny_bind (wpAny_pure (wpAny_pure (by exact fin)))
  · rw [hb]
    exact wpAny_tryCatch (wpAny_bind (wpAny_pure (wpAny_pure (by exact fin))))
open PySem.W in
theorem objNe_K (X : K.In s.heap) (I : InstAt s.heap x ox C od) (hs : findIn K (.ref C) "__eq__" = some (some (.ref f))) (hf : isFn K (.ref f) = true) (hu : A.units < cLine) {Q : Fin → Shared → Prop}
    (hcall : wpAny (model prog w) A (call (.ref f) [.ref x, b]) (fun v s' => ∃ c, v = .bool c ∧ Q (.done (.ret (.bool (!c)))) s') E s) :
    wpAny (model prog w) A (Builtin.«object.__ne__» ⟨[.ref x, b], []⟩) Q E s := by
  obtain ⟨hp, g, d, t, os⟩ := s
  unfold Builtin.«object.__ne__»
  repeat (first
    | with_reducible refine wpAny_cRoomFor hu ?_
    | (refine wpAny_bind (m := callSpecialIfBound? (.ref x) (Str.ofString "__eq__") [b])
        (ifBound_K X I hs hf (wpAny_mono hcall (fun r s' hr => by
          obtain ⟨c, rfl, hq⟩ := hr
          repeat (first | exact hq | exact wpAny_pure hq | exact wpAny_truthy_bool hq | (refine wpAny_bind (m := truthy (.bool _)) (wpAny_truthy_bool ?_)) | wp_step)) fun _ _ e => e)))
    | wp_step)
open PySem.W in
theorem tryNe_K (X : K.In s.heap) (I : InstAt s.heap x ox C od) (hs : findIn K (.ref C) "__eq__" = some (some (.ref f))) (hn : findIn K (.ref C) "__ne__" = some (some (.builtin "object.__ne__"))) (hf : isFn K (.ref f) = true) (hm : mroIn K C (.type "object") = some true)
    (hu : A.in1.units < cLine) {Q : Option Value → Shared → Prop} (hcall : wpAny (model prog w) A.in1 (call (.ref f) [.ref x, b]) (fun v s' => ∃ c, v = .bool c ∧ Q (some (.bool (!c))) s') E s) :
    wpAny (model prog w) A (tryCompare (.ref x) "__ne__" b) Q E s := by
  have FB := PySem.F.cmp_object
  have sub : Looks (model prog w) s.heap (isInstance (.ref x) (.type "object")) true := I.type.andThen (looks_mroIn X hm)
  simp only [tryCompare]
  refine wpAny_bind (ifBound_B X I hn FB.ne.bind (wpAny_call (codeAny_call_builtin FB.ne.plain PySem.F.cmpEntry_ne
    (@PySem.W.check_slot (model prog w) _ _ s "object.__ne__" "object" "__ne__" (.ref x) [b] [] _ PySem.F.cmpKind_ne PySem.F.cmpSplit_ne sub (PySem.F.cmpArgs_ne _ _)
      (objNe_K (A := A.in1) X I hs hf hu (wpAny_mono hcall (fun v s' hv => ?_) fun _ _ e => e))))))
  obtain ⟨c, rfl, hq⟩ := hv
  first | exact ⟨c, rfl, wpAny_pure hq⟩ | exact ⟨c, rfl, wpAny_pure (wpAny_pure hq)⟩ | exact ⟨c, rfl, hq⟩
end
def zNeO (C : Addr) (sp : Sp) : R2 := fun x y H Q => ∃ a b dx dy fs gs, x = .ref a ∧ y = .ref b ∧ H a = some (.ins C dx fs) ∧ H b = some (.ins C dy gs) ∧
  sp [x, y] H (fun v H1 => ∃ c, v = .bl c ∧ Q (.bl (!c)) H1) fun _ _ _ => False
section
variable {X : Cx} {n : Nat} {C f : Addr} {sp : Sp}
theorem op_zNeO (F : FnR X.prog X.w X.K X.mg X.base (L2.CX X.prog X.w) n f sp) (hs : PySem.W.findIn X.K (.ref C) "__eq__" = some (some (.ref f))) (hn : PySem.W.findIn X.K (.ref C) "__ne__" = some (some (.builtin "object.__ne__")))
    (hf : PySem.W.isFn X.K (.ref f) = true) (hm : PySem.W.mroIn X.K C (.type "object") = some true) (hr : Room (n + 1) X.A) : OpR X (compareOp .NotEq) (zNeO C sp) := by
  intro pins s σ H x y v u Q I rx ry h
  obtain ⟨a, b, dx, dy, fs, gs, rfl, rfl, ha, hb, h⟩ := h
  obtain rfl : v = Value.ref a := rx
  obtain rfl : u = Value.ref b := ry
  obtain ⟨mA, J1, _⟩ := ins_get I.hok ha
  obtain ⟨mB, J2, _⟩ := ins_get I.hok hb
  obtain ⟨od1, J1, _⟩ := J1.look
  obtain ⟨od2, J2, _⟩ := J2.look
  have room : Room n X.A.in1 := hr.in1
  have FB := PySem.F.cmp_object
  have ask : wpAny (model X.prog X.w) X.A.in1 (call (.ref f) [.ref a, .ref b]) (fun r s2 => ∃ c, r = .bool c ∧ EP X pins σ Q (.bool (!c)) s2) X.xe s := by
    have e := I.env0
    have e0 : Env0 X.prog X.w X.K X.mg X.base X.A.in1 X.stack s H := ⟨e.frames, e.mod, e.bs, e.bsz, e.funs, e.frf, e.hok, e.bare⟩
    refine wpAny_call (codeAny_mono (F X.A.in1 X.stack s H [.ref a, .ref b] [.ref a, .ref b] _ _ room e0 (.cons rfl (.cons rfl .nil)) h) fun r s2 hq => ?_)
    rcases r with er | fl
    · exact passN pins σ H s er s2 I hq
    · cases fl with
      | ret w =>
        obtain ⟨z, H2, I2, rz, c, ez, q⟩ := I.after hq
        subst ez
        obtain rfl : w = Value.bool c := rz
        exact ⟨c, rfl, .bl (!c), H2, I2, rfl, q⟩
      | next => exact hq.elim
      | brk => exact hq.elim
      | cont => exact hq.elim
  show wpAny (model X.prog X.w) X.A (richCompare .NotEq (.ref a) (.ref b)) (EP X pins σ Q) X.xe s
  obtain ⟨hp, g, d, tk, os⟩ := s
  have hun : X.A.units < cLine := hr.units0
  have hun1 : X.A.in1.units < cLine := room.units0
  unfold richCompare
  simp only [oneThing_ref]
  refine wpAny_holding (wpAny_bind (wpAny_cRoomFor hun ?_))
  rw [cmpInfo_NotEq]
  dsimp only
  refine wpAny_bind (J1.type.here (wpAny_bind (J2.type.here ?_)))
  rw [show (Value.ref C != Value.ref C) = false from by simp]
  simp only [Bool.false_eq_true, if_false]
  refine wpAny_bind (wpAny_pure ?_)
  simp only [Bool.false_eq_true, if_false]
  refine wpAny_bind (tryNe_K (s := ⟨hp, g, d, tk, os⟩) I.kIn J1 hs hn hf hm hun1 (wpAny_mono ask (fun r s' z => ?_) fun _ _ z => z))
  obtain ⟨c, rfl, q⟩ := z
  exact ⟨c, rfl, wpAny_pure q⟩
end
end Z
namespace Z
open PySem PySem.Spec PyProof.Rows L2
theorem kit_subT {K : PySem.W.Frag} {t : Value} {C : Addr} (hc : (PySem.W.clsIn K C).isSome = true) (ht : PySem.W.typeIn K (.ref C) = some (.type "type")) (hs : PySem.W.subIn K t (.ref C) = some true) : PySem.W.kitOne K t (.ref C) = some true := by
  unfold PySem.W.kitOne PySem.W.kitCls
  by_cases e : (t == Value.ref C) = true
  · rw [if_pos e]
  · rw [if_neg e]
    simp [hc, ht, hs]
theorem exm_other {K : PySem.W.Frag} {D C : Addr} (b : PySem.W.subIn K (.ref C) (.type "BaseException") = some true) (c : PySem.W.isClsIn K C = true) (t : PySem.W.typeIn K (.ref C) = some (.type "type")) (u : PySem.W.subIn K (.ref D) (.ref C) = some false) :
    PySem.W.exmOne K (.ref D) (.ref C) = some false := by
  have c' : (PySem.W.clsIn K C).isSome = true := c
  simp [PySem.W.exmOne, PySem.W.kitCls, b, c', t, u]
def rCountS : V → List V → Hp → VK → Prop := fun x xs H Q => ∃ a b, x = .str a ∧ xs = [.str b] ∧ Q (.int (Txt.count a b)) H
theorem mt_countZ {X : Cx} : MtR X "str.count" rCountS := mt_count
end Z
namespace Z
open PySem PySem.Spec PyProof.Rows L2
/-! ### defs with *rest and keyword-only names -/
/-- binding of such a def: what is left over is a new tuple, laid last -/
def BStar (s : Shared) (fd : FuncData) (args : Args) (ps : List Str) (u1 rest kv : List Value) : Prop :=
  ∀ (M : Model) (A : Around) (E : Value → Shared → Prop) (Q : List (Str × Value) → Shared → Prop), rest.length ≤ sizeLine →
    Q (ps.zip (u1 ++ kv ++ [.ref s.heap.objs.size])) { s with heap := s.heap.push ({ cls := .type "tuple", data := .seq rest.toArray } : Obj) } → wpAny M A (bindArgs fd args) Q E s
theorem BStar.of {s : Shared} {fd : FuncData} {args : Args} {ps : List Str} {u1 rest kv : List Value} (h : bindArgs fd args = (newTuple rest >>= fun t => pure (ps.zip (u1 ++ kv ++ [t])))) : BStar s fd args ps u1 rest kv := by
  intro M A E Q hl q
  rw [h]
  exact wpAny_bind (wpAny_newTuple (wpAny_pure q) hl)
/-- t looks the names up in the dict at D, one behind another, and goes on as r -/
def KwT {α : Type} (D : Addr) : List (Str × Value) → Sem α → Sem α → Prop
  | [], t, r => t = r
  | q :: l, t, r => ∃ (β γ : Type) (k1 : Option Value → Sem β) (k2 : β → Sem γ) (k3 : γ → Sem α) (a : β), t = ((nsGet D q.1 >>= k1) >>= k2) >>= k3 ∧ k1 (some q.2) = pure a ∧ KwT D l (k2 a >>= k3) r
theorem KwT.wp {α : Type} {K : PySem.W.Frag} {M : Model} {D : Addr} {s : Shared} {A : Around} {E : Value → Shared → Prop} {Q : α → Shared → Prop} (X : K.In s.heap) : ∀ {l : List (Str × Value)} {t r : Sem α}, (∀ q ∈ l, PySem.W.nsIn K D q.1 = some (some q.2)) → KwT D l t r → wpAny M A r Q E s → wpAny M A t Q E s
  | [], t, r, _, e, h => by
    rw [show t = r from e]
    exact h
  | q :: l, t, r, hl, e, h => by
    obtain ⟨β, γ, k1, k2, k3, a, e1, e2, e3⟩ := e
    have l1 : PySem.W.Looks M s.heap (nsGet D q.1 >>= k1) a := (PySem.W.looks_nsIn X (hl q (List.mem_cons_self ..))).andThen (PySem.W.Looks.of_pure e2)
    rw [e1, bind_assoc]
    exact wpAny_bind (l1.here (KwT.wp X (fun p hp => hl p (List.mem_cons_of_mem _ hp)) e3 h))
/-- .. its keyword-only names all left out -/
theorem BStar.kw {K : PySem.W.Frag} {s : Shared} {fd : FuncData} {args : Args} {ps : List Str} {u1 rest : List Value} {D : Addr} {l : List (Str × Value)} (X : K.In s.heap) (hl : ∀ q ∈ l, PySem.W.nsIn K D q.1 = some (some q.2))
    (h : KwT D l (bindArgs fd args) (newTuple rest >>= fun t => pure (ps.zip (u1 ++ l.map (·.2) ++ [t])))) : BStar s fd args ps u1 rest (l.map (·.2)) := by
  intro M A E Q hr q
  exact KwT.wp X hl h (wpAny_bind (wpAny_newTuple (wpAny_pure q) hr))
structure FnS (gd : Bool) (P : Program) (w : World) (K : PySem.W.Frag) (mg : Str → Option Value) (base : Heap) (k : Nat) (f : Addr) (fd : FuncData) (ps : List Str) (n m : Nat) (sp : Sp) : Prop where
  run : ∀ (A : Around) (outer : List Env) (s : Shared) (H : Hp) (args : Args) (u1 rest kv : List Value) (ws rs zs : List V) (Q : VK) (E : XK), Room k A → (gd = true → A.guards = some []) → Env0 P w K mg base A outer s H → BStar s fd args ps u1 rest kv →
    Vals ws u1 → Vals rs rest → Vals zs kv → ws.length = n → zs.length = m → rs.length ≤ sizeLine → (∀ p, H p = none → sp (ws ++ zs ++ [.ref p]) (upd H p (.tup rs)) Q E) → codeAny (model P w) A (.call (.ref f) args) (CR (L2.CX P w) outer P w H s Q E) s
theorem FnS.imp {gd : Bool} {P : Program} {w : World} {K : PySem.W.Frag} {mg : Str → Option Value} {base : Heap} {k : Nat} {f : Addr} {fd : FuncData} {ps : List Str} {n m : Nat} {sp sp' : Sp} (F : FnS gd P w K mg base k f fd ps n m sp) (h : ∀ vs H Q E, sp' vs H Q E → sp vs H Q E) : FnS gd P w K mg base k f fd ps n m sp' :=
  ⟨fun A outer s H args u1 rest kv ws rs zs Q E hr hg he hb h1 h2 h3 h4 h5 h6 hs => F.run A outer s H args u1 rest kv ws rs zs Q E hr hg he hb h1 h2 h3 h4 h5 h6 fun p hp => h _ _ _ _ (hs p hp)⟩
section
variable {gd : Bool} {P : Program} {w : World} {K : PySem.W.Frag} {mg : Str → Option Value} {base : Heap}
theorem okS {x qual : Str} {st : Stmt} {f : Addr} {fd : FuncData} {N ps : List Str} {k n m : Nat} {sp : Sp} (F : Fun K x qual st f fd) (S : FnScope N ps (defScope st)) (hps : ps.length = n + m + 1)
    (hbody : ∀ (cdv : Value) (A : Around) (outer : List Env) (s : Shared) (H : Hp) (vs : List V) (Q : VK) (E : XK),
      Room k (A.deeper (envOfC qual (defScope st) s.heap.objs.size f cdv)) → (gd = true → (A.deeper (envOfC qual (defScope st) s.heap.objs.size f cdv)).guards = some []) → sp vs H Q E →
      ∃ t, PSs (cxOf (L2.CX P w) P w K mg base N qual (defScope st) f cdv A outer s H E) (defBody st) t ∧ t { nx := fun _ H' => Q .non H', rt := Q } (start N vs) H) :
    FnS gd P w K mg base (k + 1) f fd ps n m sp := by
  obtain ⟨oc, od, kV, doc, pm, an, cdv, ct, osl, rfl, lk, hcd⟩ := F.ex
  refine ⟨fun A outer s H args u1 rest kv ws rs zs Q E hr hgu e0 hb r1 r2 r3 l1 l2 l3 hq => ?_⟩
  have hn : H s.heap.objs.size = Option.none := e0.hok.fresh (Nat.le_refl _)
  refine StX.run_bnd lk hcd S hr e0 (G := fun xs H2 => ∃ p, H p = Option.none ∧ xs = ws ++ zs ++ [V.ref p] ∧ H2 = upd H p (.tup rs)) (fun A' Ex Q' h => ?_) fun s2 H2 xs ⟨p, hp, ex, eH⟩ hr' => ?_
  · refine hb _ A' Ex Q' (by rw [← r2.length]; exact l3) ?_
    have new : ObjOk P w (upd H s.heap.objs.size (.tup rs)) (s.heap.push ({ cls := .type "tuple", data := .seq rest.toArray } : Obj)) s.heap.objs.size (.tup rs) := ⟨l3, rest, r2, ⟨_, Heap.get?_push_size _ rfl, rfl, _, rfl⟩⟩
    have un := StX.un_laid (fs := frs outer) (s := s) (o := ({ cls := .type "tuple", data := .seq rest.toArray } : Obj)) (u := .tup rs) hn
    refine h _ _ (ws ++ zs ++ [V.ref s.heap.objs.size]) (u1 ++ kv ++ [Value.ref s.heap.objs.size]) (StX.env0_laid e0 new) un rfl (fun e s' => StX.cxUp outer s H _ _ E e s' un (fun b o q => Heap.get?_push_of_some _ q) rfl) ((r1.append r3).append (.cons rfl .nil)) ?_ ⟨_, hn, rfl, rfl⟩
    rw [List.length_append, List.length_append, l1, l2, hps]
    rfl
  · subst ex eH
    exact hbody cdv A outer s2 _ _ Q E hr' hgu (hq p hp)
end
/-- how its arguments are bound, K in place: ks the names that a call writes, g and gV all keyword-only values -/
structure SBn (K : PySem.W.Frag) (fd : FuncData) (ps : List Str) (n m : Nat) (ks : List Str) (g : List Value → List Value) (gV : List V → List V) : Prop where
  to : ∀ (s : Shared) (u1 rest ws : List Value), K.In s.heap → u1.length = n → ws.length = ks.length → BStar s fd ⟨u1 ++ rest, ks.zip ws⟩ ps u1 rest (g ws)
  rel : ∀ {zs : List V} {ws : List Value}, Vals zs ws → Vals (gV zs) (g ws)
  len : ∀ zs : List V, zs.length = ks.length → (gV zs).length = m
/-! ### calls with * and keywords -/
open PySem PySem.Calls in
theorem call_starKw {M : Model} {A : Around} {E : Value → Shared → Prop} {s : Shared} {f : Value} {first : List Value} {pos : Pos} {Q : Value → Shared → Prop} {P : Heap → Prop} {args : List (Bool × Sem Value)} {kws : List (Option Str × Sem Value)}
    (hk : ∀ h, P h → ∃ k, (k = Keeper.frame ∨ k = Keeper.machine ∨ k = Keeper.boundFrame) ∧ PySem.W.Looks M h (keeperOf f) k) (hst : args.any (·.1) = true)
    (h : wpAny M A (evalArgs f true args kws) (fun a s₁ => P s₁.heap ∧ wpAny M A (call f (first ++ a.pos) a.kw) Q E s₁) E s) : wpAny M A (callWith pos f first args kws) Q E s := by
  unfold callWith
  refine wpAny_bind (wpAny_holding (wpAny_mono h (fun a s₁ h₁ => wpAny_bind (wpAny_standAt ?_)) fun _ _ x => x))
  obtain ⟨k, hk', L⟩ := hk _ h₁.1
  simp only [hst, Bool.true_or]
  refine wpAny_bind (L.here ?_)
  have tail : ∀ {t : Sem Value}, wpAny M A t Q E s₁ → wpAny M A (t >>= fun r => holding [r] point >>= fun _ => pure r) Q E s₁ :=
    fun ht => wpAny_bind (wpAny_mono ht (fun r s₂ hr => wpAny_bind (wpAny_holding (wpAny_point (wpAny_pure hr)))) fun _ _ x => x)
  have marked (mk : Value) : wpAny M A (callMarked mk f (first ++ a.pos) a.kw) Q E s₁ := by unfold callMarked; exact Calls.wpAny_keep h₁.2
  rcases hk' with rfl | rfl | rfl <;> dsimp only <;> first | exact tail (marked _) | exact tail (wpAny_operating h₁.2)
/-- f(*x, k = v, ..): the keywords stand ahead of what x gives -/
theorem args_loneKw {M : Model} {A : Around} {E : Value → Shared → Prop} {s : Shared} {env : Env} {f : Value} {x : Sem Value} {pos : Pos} {kws : List Keyword} {Q : Args → Shared → Prop} (hall : (backToKw pos (keywordEach kws env)).all (·.1.isSome) = true)
    (h : wpAny M A x (fun v s₁ => wpAny M A (evalAll ((backToKw pos (keywordEach kws env)).map (·.2))) (fun ks s₂ => PySem.W.StarOf M A E v (fun vs s₃ => Q ⟨vs, ((backToKw pos (keywordEach kws env)).filterMap (·.1)).zip ks⟩ s₃) s₂) E s₁) E s) :
    wpAny M A (evalArgs f true [(true, (do let v ← x; standAt pos; pure v))] (backToKw pos (keywordEach kws env))) Q E s := by
  unfold evalArgs
  refine wpAny_bind (wpAny_bind (wpAny_mono h (fun v s₁ h₁ => wpAny_bind (wpAny_standAt (wpAny_pure ?_))) fun _ _ x => x))
  refine wpAny_bind (wpAny_pure ?_)
  refine wpAny_holding ?_
  simp only [hall, if_true]
  refine wpAny_bind (wpAny_mono h₁ (fun ks s₂ h₂ => ?_) fun _ _ x => x)
  unfold PySem.W.StarOf at h₂
  refine wpAny_bind (wpAny_bind (wpAny_mono h₂ (fun b s₃ h₃ => ?_) fun _ _ x => x))
  obtain ⟨rfl, h₃⟩ := h₃
  have z := wpAny_holding (vs := (((backToKw pos (keywordEach kws env)).filterMap (·.1)).zip ks).map (·.2)) (wpAny_mono h₃ (fun vs s₄ h₄ => h₄) fun _ _ x => x)
  try simp only [Bool.false_eq_true, if_false]
  exact wpAny_mono z (fun vs s h => wpAny_pure h) fun _ _ e => e
/-! ### making an instance by such an __init__ -/
section
variable {gd : Bool} {X : Cx} {k n m i : Nat} {f C : Addr} {fd : FuncData} {ps ks : List Str} {sp : Sp} {E : St → XK} {x : Str} {p pos sp_ : Pos} {e : Expr} {es : List Expr} {kws : List Keyword} {te : TE} {t tk : TA} {g : List Value → List Value} {gV : List V → List V}
def NewS (C : Addr) (n : Nat) (sp : Sp) (gV : List V → List V) (E : XK) (vs zs : List V) (H : Hp) (Q : VK) : Prop := ∃ ws rs, vs = ws ++ rs ∧ ws.length = n ∧ rs.length ≤ sizeLine ∧ ∀ x dx p, H x = none → H dx = none → dx ≠ x → (upd (upd H dx (.own x)) x (.ins C dx [])) p = none →
  sp (.ref x :: (ws ++ gV zs ++ [.ref p])) (upd (upd (upd H dx (.own x)) x (.ins C dx [])) p (.tup rs)) (fun v H3 => v = .non ∧ Q (.ref x) H3) E
theorem run_newS {pins : List (Addr × Obj)} {σ : St} {H : Hp} {s : Shared} {Q : VK} {us kv : List Value} {vs zs : List V} {Ex : XK} (M : Mk X.K C f) (F : FnS gd X.prog X.w X.K X.mg X.base k f fd ps (n + 1) m sp) (hr : Room (k + 1) X.A) (hgu : gd = true → X.A.guards = some [])
    (B : SBn X.K fd ps (n + 1) m ks g gV) (hx : PassesAt (L2.CX X.prog X.w) X σ Ex) (I : Inv X pins σ H s) (r1 : Vals vs us) (r3 : Vals zs kv) (l2 : zs.length = ks.length) (h : NewS C n sp gV Ex vs zs H Q) :
    wpAny (model X.prog X.w) X.A (call (.ref C) us (ks.zip kv)) (EP X pins σ Q) X.xe s := by
  obtain ⟨ws, rs, rfl, l1, l3, h⟩ := h
  obtain ⟨u1, u2, rfl, q1, q2⟩ := StX.vals_split r1
  have n0 := I.hok.fresh (Nat.le_refl s.heap.objs.size)
  have n1 := I.hok.fresh (Nat.le_succ s.heap.objs.size)
  have I3 := Inv.made (C := C) I
  have e1 : (Value.ref (s.heap.objs.size + 1) :: u1).length = n + 1 := by rw [List.length_cons, ← q1.length, l1]
  refine wpAny_call (make_map (f := f) I.kIn M.makes M.init (beq_iff_eq.mp M.fn) (codeAny_mono (F.run _ X.stack _ _ ⟨Value.ref (s.heap.objs.size + 1) :: (u1 ++ u2), ks.zip kv⟩ (Value.ref (s.heap.objs.size + 1) :: u1) u2 (g kv) (V.ref (s.heap.objs.size + 1) :: ws) rs (gV zs) (fun v H3 => v = .non ∧ Q (.ref (s.heap.objs.size + 1)) H3) Ex
    (hr.make C (u1 ++ u2) (ks.zip kv)) (fun z => guards_make (hgu z)) (I3.env0.make C (u1 ++ u2) (ks.zip kv)) (B.to _ (Value.ref (s.heap.objs.size + 1) :: u1) u2 kv I3.kIn e1 (r3.length.symm.trans l2)) (.cons rfl q1) q2 (B.rel r3) (by rw [List.length_cons, l1]) (B.len zs l2) l3
    (fun p hp => h _ _ p n1 n0 (Nat.ne_of_lt (Nat.lt_succ_self _)) hp)) fun r s' hq' => ?_))
  rcases r with er | fl
  · exact hx pins _ _ er s' I3 hq'
  · cases fl with
    | ret u =>
      obtain ⟨v, H', I4, rv, ev, q3⟩ := I3.after hq'
      subst ev
      exact ⟨rv, ⟨V.ref (s.heap.objs.size + 1), H', I4, rfl, q3⟩⟩
    | next => exact hq'.elim
    | brk => exact hq'.elim
    | cont => exact hq'.elim
/-- cls(e, .., *y, k = v, ..), the class in a local name -/
def zNewSK (i : Nat) (C : Addr) (n j : Nat) (sp : Sp) (gV : List V → List V) (E : St → XK) (t tk : TA) : TE := fun σ H Q => σ[i]? = some (some (.ref C)) ∧ t σ H fun vs H1 => tk σ H1 fun zs H2 => zs.length = j ∧ NewS C n sp gV (E σ) vs zs H2 Q
theorem pe_zNewSK (M : Mk X.K C f) (F : FnS gd X.prog X.w X.K X.mg X.base k f fd ps (n + 1) m sp) (hr : Room (k + 1) X.A) (hgu : gd = true → X.A.guards = some []) (B : SBn X.K fd ps (n + 1) m ks g gV) (hN : X.N[i]? = some x) (hv : Vis X.env.scope x)
    (hx : ∀ σ, PassesAt (L2.CX X.prog X.w) X σ (E σ)) (ha : PA X (e :: es) t) (hkw : PK X kws tk)
    (hdb : (x == ("__debug__" : Str)) = false := by decide) (hcd : (x == ("__classdict__" : Str)) = false := by decide)
    (hall : (backToKw pos (keywordEach kws X.env)).all (·.1.isSome) = true := by rfl) (hks : (backToKw pos (keywordEach kws X.env)).filterMap (·.1) = ks := by rfl)
    (he : starEach (e :: es) X.env = (false, eval e X.env) :: starEach es X.env := by rfl) (hst : (backTo pos (starEach (e :: es) X.env)).any (·.1) = true := by rfl) :
    PE X (.Call (.Name x p) (e :: es) kws pos) (zNewSK i C n ks.length sp gV E t tk) := by
  constructor
  intro pins s σ H Q I h
  obtain ⟨hs, ht⟩ := h
  refine wpAny_Call_Name_kw (thn ((pe_var (pos := p) hN hv hdb hcd).run pins s σ H (fun v H1 => v = .ref C ∧ H1 = H) I ⟨.ref C, hs, rfl, rfl⟩) ?_)
  rintro u s1 ⟨v, H1, I1, r1, rfl, rfl⟩
  cases r1
  refine call_starKw (P := fun h => X.K.In h) (PySem.W.keeps_K M.kp) hst (evalArgs_kw2 hall (thn (ha.run pos pins s1 σ _ _ I1 ht) fun us s2 ⟨vs, H2, I2, rv, q⟩ => thn (hkw.run pos pins s2 σ H2 _ I2 q) fun kv s3 ⟨zs, H3, I3, rz, l2, q3⟩ => ⟨I3.kIn, ?_⟩) he)
  rw [hks]
  exact run_newS M F hr hgu B (hx σ) I3 rv rz l2 q3
/-- cls(*y, k = v, ..) -/
def zNewLK (K : PySem.W.Frag) (i : Nat) (C : Addr) (j : Nat) (sp : Sp) (gV : List V → List V) (E : St → XK) (te : TE) (tk : TA) : TE := fun σ H Q => σ[i]? = some (some (.ref C)) ∧ te σ H fun y H1 => tk σ H1 fun zs H2 => zs.length = j ∧ ∃ a xs, y = .ref a ∧ (SqT K H2 a xs ∨ SqL K H2 a xs) ∧ NewS C 0 sp gV (E σ) xs zs H2 Q
theorem pe_zNewLK (M : Mk X.K C f) (F : FnS gd X.prog X.w X.K X.mg X.base k f fd ps 1 m sp) (hr : Room (k + 1) X.A) (hgu : gd = true → X.A.guards = some []) (B : SBn X.K fd ps 1 m ks g gV) (hN : X.N[i]? = some x) (hv : Vis X.env.scope x)
    (hx : ∀ σ, PassesAt (L2.CX X.prog X.w) X σ (E σ)) (hy : PE X e te) (hkw : PK X kws tk)
    (hdb : (x == ("__debug__" : Str)) = false := by decide) (hcd : (x == ("__classdict__" : Str)) = false := by decide)
    (hall : (backToKw pos (keywordEach kws X.env)).all (·.1.isSome) = true := by rfl) (hks : (backToKw pos (keywordEach kws X.env)).filterMap (·.1) = ks := by rfl)
    (he : starEach [.Starred e sp_] X.env = [(true, eval e X.env)] := by rfl) :
    PE X (.Call (.Name x p) [.Starred e sp_] kws pos) (zNewLK X.K i C ks.length sp gV E te tk) := by
  constructor
  intro pins s σ H Q I h
  obtain ⟨hs, ht⟩ := h
  refine wpAny_Call_Name_kw (thn ((pe_var (pos := p) hN hv hdb hcd).run pins s σ H (fun v H1 => v = .ref C ∧ H1 = H) I ⟨.ref C, hs, rfl, rfl⟩) ?_)
  rintro u s1 ⟨v, H1, I1, r1, rfl, rfl⟩
  cases r1
  rw [he]
  refine call_starKw (P := fun h => X.K.In h) (PySem.W.keeps_K M.kp) rfl (args_loneKw hall (thn (hy.run pins s1 σ _ _ I1 ht) fun u s2 ⟨y, H2, I2, ry, q⟩ => thn (hkw.run pos pins s2 σ H2 _ I2 q) fun kv s3 ⟨zs, H3, I3, rz, l2, a, xs, ey, hxs, q3⟩ => ?_))
  subst ey
  obtain rfl : u = Value.ref a := ry
  refine StX.star_any I3 hxs fun us s4 I4 rv => ⟨I4.kIn, ?_⟩
  rw [hks]
  exact run_newS M F hr hgu B (hx σ) I4 rv rz l2 q3
/-- C(), C of the module, all its keyword-only names left out -/
def zMake0S (C : Addr) (sp : Sp) (gV : List V → List V) (E : St → XK) : TE := fun σ H Q => NewS C 0 sp gV (E σ) [] [] H Q
theorem pe_make0S (M : Mk X.K C f) (F : FnS gd X.prog X.w X.K X.mg X.base k f fd ps 1 m sp) (hr : Room (k + 1) X.A) (hgu : gd = true → X.A.guards = some []) (B : SBn X.K fd ps 1 m [] g gV) (hg : Gl X x) (hm : X.mg x = some (.ref C))
    (hx : ∀ σ, PassesAt (L2.CX X.prog X.w) X σ (E σ)) (hdb : (x == ("__debug__" : Str)) = false := by decide) : PE X (.Call (.Name x p) [] [] pos) (zMake0S C sp gV E) := by
  constructor
  intro pins s σ H Q I h
  refine wpAny_Call_Name_kw (ld_glob I hg hm ?_ hdb)
  refine PySem.W.callWith_K0 I.kIn M.kp ?_
  exact run_newS (us := []) (kv := []) M F hr hgu B (hx σ) I .nil .nil rfl h
end
end Z
namespace Z
open PySem PySem.Spec PyProof.Rows L2
/-! ### {e for x in xs if t}: a set of keys (ints) -/
def scGoI (w : World) (J : It) (g : TG) (tt : TT) (te : TE) (vs : List Nat) (σ : St) (H1 : Hp) (Q : VK) : Prop := ∀ D, H1 D = none →
  ∃ W : Nat → Nat → Hp → Prop, (∃ m, W 0 m (upd H1 D (SetO w D (fun _ => false) 0))) ∧ ∀ i m H, W i m H →
    (J.stop i H ∧ Q (.ref D) H) ∨ (J.go i H ∧ ∃ Nx : Hp → Prop, (∀ H', Nx H' → ∃ m', m' < m ∧ W (i + 1) m' H') ∧
      ∀ x H', J.yld i H x H' → g x (wipe σ vs) H' fun σ2 H2 => wipe σ2 vs = wipe σ vs ∧ tt σ2 H2 fun b H3 =>
        if b = true then te σ2 H3 fun y H4 => rSAdd w (.ref D) [y] H4 fun _ H5 => Nx H5 else Nx H3)
def zScI (w : World) (wi : TI) (g : TG) (tt : TT) (te : TE) (vs : List Nat) : TE := fun σ H Q => wi σ H fun J H1 => scGoI w J g tt te vs σ H1 Q
section
variable {X : Cx} {elt tg iter : Expr} {ifs : List Expr} {scope : Scope} {own : List (Str × Nat)} {wi : TI} {g : TG} {tt : TT} {te : TE}
theorem sc_turnsI {s3 : Shared} {fp : List Addr} {it D : Addr} {ce : Env} {J : It} {tn : Nat → Heap → Prop} {vs : List Nat} {σ : St} {Q : VK} {pos : Pos} {s4 : Shared} {m0 : Nat} {H3 : Hp} {R : Result → Shared → Prop} {W : Nat → Nat → Hp → Prop}
    (hc : X.calm = true) (T : Turn X.prog X.w X.K tg J fp it tn) (hg : PG (X.blk s3 H3 scope ce fp) tg g) (ht : PTs (X.blk s3 H3 scope ce fp) ifs tt) (he : PE (X.blk s3 H3 scope ce fp) elt te)
    (turn : ∀ i m H, W i m H → (J.stop i H ∧ Q (.ref D) H) ∨ (J.go i H ∧ ∃ Nx : Hp → Prop, (∀ H', Nx H' → ∃ m', m' < m ∧ W (i + 1) m' H') ∧
      ∀ x H', J.yld i H x H' → g x (wipe σ vs) H' fun σ2 H2 => wipe σ2 vs = wipe σ vs ∧ tt σ2 H2 fun b H3 =>
        if b = true then te σ2 H3 fun y H4 => rSAdd X.w (.ref D) [y] H4 fun _ H5 => Nx H5 else Nx H3))
    (I4 : Inv (X.blk s3 H3 scope ce fp) [] (wipe σ vs) H3 s4) (st4 : tn 0 s4.heap) (nfp : ∀ b ∈ fp, H3 b = none) (w0 : W 0 m0 H3)
    (out : ∀ H5 s6, Inv (X.blk s3 H3 scope ce fp) [] (wipe σ vs) H5 s6 → Q (.ref D) H5 → R (.ok .next) s6) :
    codeAny (model X.prog X.w) X.A (.compLoop (.SetComp elt [⟨tg, iter, ifs, 0⟩] scope pos) 0 (.ref it) (.ref D) ce) R s4 := by
  refine PpSet.compLoopS_any (fun n s' => ∃ i H', Inv (X.blk s3 H3 scope ce fp) [] (wipe σ vs) H' s' ∧ tn i s'.heap ∧ (∀ b ∈ fp, H' b = none) ∧ W i n H') ?_ m0 ⟨0, H3, I4, st4, nfp, w0⟩
  have stat : ∀ {σ' : St} {H' : Hp} {s' : Shared}, Inv (X.blk s3 H3 scope ce fp) [] σ' H' s' → (∀ b ∈ fp, H' b = none) → ∀ b ∈ fp, FpOk (X.blk s3 H3 scope ce fp) [] H' b := by
    intro σ' H' s' I' hn b hb
    obtain ⟨x1, x2⟩ := I'.ok.exf b hb
    refine ⟨hn b hb, x1, I'.ok.exfs b hb, .inl hb, fun x c e => x2 x c e, fun p hp => ?_⟩
    simp at hp
  rintro n s5 ⟨i, H5, I5, st5, n5, w5⟩
  rcases turn i n H5 w5 with ⟨stop, qq⟩ | ⟨go, Nx, hNx, step⟩
  · refine thnF (T.done (X.blk s3 H3 scope ce fp) rfl rfl rfl hc i [] s5 _ H5 (fun _ _ => False) I5 (stat I5 n5) st5 stop) ?_
    rintro r s6 ⟨rfl, I6⟩
    exact out H5 s6 I6 qq
  · refine thnF (T.item (X.blk s3 H3 scope ce fp) rfl rfl rfl hc i [] s5 _ H5 (fun _ _ => False) I5 (stat I5 n5) st5 go) ?_
    rintro r s6 ⟨u, rfl, h6⟩
    refine thnF h6 ?_
    rintro _ s7 ⟨x, H7, I7, r7, y7, st7, n7⟩
    have I7' := I7.pinned (stat I7 n7) (T.obj _ _ st7)
    refine thnF (hg.run _ s7 _ H7 x u _ I7' r7 (step x H7 y7)) ?_
    rintro _ s8 ⟨σ8, H8, I8, hw8, q8⟩
    refine thnF (ht.run _ s8 σ8 H8 _ I8 q8) ?_
    rintro b s9 ⟨H9, I9, q9⟩
    have fin : ∀ {s' : Shared} {H' : Hp}, Inv (X.blk s3 H3 scope ce fp) ([] ++ pinsAt fp s7.heap) σ8 H' s' → Nx H' →
        ∃ m, m < n ∧ ∃ i H', Inv (X.blk s3 H3 scope ce fp) [] (wipe σ vs) H' s' ∧ tn i s'.heap ∧ (∀ b ∈ fp, H' b = none) ∧ W i m H' := by
      intro s' H' I' nx
      obtain ⟨m', hm, w'⟩ := hNx H' nx
      have pin' : ∀ b ∈ fp, ∀ o, s7.heap.get? b = some o → s'.heap.get? b = some o ∧ H' b = none := fun b hb o e => by
        obtain ⟨z1, z2, _⟩ := I'.pin (b, o) (List.mem_append_right _ (List.mem_append_right _ (mem_pinsAt hb e)))
        exact ⟨z1, z2⟩
      have hl : (wipe σ vs).length = σ8.length := by rw [← hw8, wipe_length]
      refine ⟨m', hm, i + 1, H', (I'.unpinned (pins := [])).weak hl ?_, T.keep _ _ _ st7 fun b hb o e => (pin' b hb o e).1, ?_, w'⟩
      · intro j v e
        rw [← hw8] at e
        exact (wipe_some e).1
      · intro b hb
        obtain ⟨o, e, _⟩ := T.obj _ _ st7 b hb
        exact (pin' b hb o e).2
    cases b
    · simp only [Bool.false_eq_true, if_false] at q9 ⊢
      exact fin I9 q9
    · simp only [if_true] at q9 ⊢
      refine thnF (he.run _ s9 σ8 H9 _ I9 q9) ?_
      rintro z s10 ⟨yv, H10, I10, r10, q10⟩
      refine thnF (mt_sadd _ s10 σ8 H10 (.ref D) [yv] (.ref D) [z] _ I10 rfl (.cons r10 .nil) q10) ?_
      rintro _ s11 ⟨_, H11, I11, _, nx⟩
      exact fin I11 nx
theorem sc_runI {pins : List (Addr × Obj)} {s : Shared} {σ : St} {H : Hp} {Q : VK} {pos pos' : Pos} {use : Option (Value → Sem Unit)} {Qf : Value → Shared → Prop} (hc : X.calm = true) (hN : X.N.Nodup) (I : Inv X pins σ H s) (hi : PI X tg iter wi) (ok : BlkOk X.N X.env.scope scope own)
    (hg : ∀ (s : Shared) (H : Hp) (C : Addr) (cl : List (Str × Addr)) (fp : List Addr), PG (X.blk s H scope (compEnvC scope cl C X.env) fp) tg g)
    (ht : ∀ (s : Shared) (H : Hp) (C : Addr) (cl : List (Str × Addr)) (fp : List Addr), PTs (X.blk s H scope (compEnvC scope cl C X.env) fp) ifs tt)
    (he : ∀ (s : Shared) (H : Hp) (C : Addr) (cl : List (Str × Addr)) (fp : List Addr), PE (X.blk s H scope (compEnvC scope cl C X.env) fp) elt te)
    (hs : ∀ x, foldedSetIterable iter X.env x = pure x) (h : zScI X.w wi g tt te (own.map (·.2)) σ H Q)
    (done : ∀ D C s' m H', Inv X pins σ H' s' → Q (.ref D) H' → s'.heap.Ns C m → FpOk X pins H' C → compPost (model X.prog X.w) X.A X.xe use Qf (.ref D) C (.ok .next) s') :
    wpAny (model X.prog X.w) X.A (comprehension (.SetComp elt [⟨tg, iter, ifs, 0⟩] scope pos) scope X.env pos' (newSet (.type "set")) false (eval iter X.env) use) Qf X.xe s := by
  have hfree : ∀ y ∈ scope.names, y.2 = .free → ∃ c, X.env.cells.lookup y.1 = some c := by
    intro y hy e
    rcases ok.free y hy e with k | k
    · exact I.ok.has _ (.inl k)
    · exact I.ok.has _ (.inr k)
  refine wpAny_comprehension_free (use := use) rfl hs (closure_ok hfree) ok.kind (fun y hy e => by rw [ok.uniq y hy, e]) (thn (hi.run pins s σ H _ I h) fun xv s1 hx => thn hx ?_)
  rintro itv s2 ⟨it, fp, tn, J, H2, rfl, I2, T, st2, f2, q⟩
  refine PpSet.newSet_ok (newEnv_comp ?_)
  have hDn : H2 s2.heap.objs.size = none := I2.hok.fresh (Nat.le_refl _)
  obtain ⟨W, ⟨m0, w0⟩, turn⟩ := q _ hDn
  -- the new set is known
  have I3 : Inv X pins σ (upd H2 s2.heap.objs.size (SetO X.w s2.heap.objs.size (fun _ => false) 0)) { s2 with heap := s2.heap.push (set0 X.w) } :=
    I2.laid (t' := s2.toks) (fun b o e => Heap.get?_push_of_some _ e) (Nat.le_refl _) (setO_new (setR_fresh X.w))
  have f3 : ∀ b ∈ fp, FpOk X pins (upd H2 s2.heap.objs.size (SetO X.w s2.heap.objs.size (fun _ => false) 0)) b ∧ b < (s2.heap.push (set0 X.w)).objs.size := by
    intro b hb
    obtain ⟨o, e, _⟩ := T.obj _ _ st2 b hb
    have lt := Heap.lt_size e
    refine ⟨⟨?_, (f2 b hb).2⟩, by rw [Heap.size_push]; exact Nat.lt_succ_of_lt lt⟩
    rw [upd_ne (Nat.ne_of_lt lt)]
    exact (f2 b hb).1
  have st3 : tn 0 (s2.heap.push (set0 X.w)) := T.keep _ _ _ st2 fun b _ o e => Heap.get?_push_of_some _ e
  generalize hs3 : ({ s2 with heap := s2.heap.push (set0 X.w) } : Shared) = s3 at I3
  have h3 : s3.heap = s2.heap.push (set0 X.w) := by rw [← hs3]
  rw [← h3] at f3 st3
  generalize hH3 : upd H2 s2.heap.objs.size (SetO X.w s2.heap.objs.size (fun _ => false) 0) = H3 at I3 f3 w0
  have I4 := block_start I3 ok hN f3
  show codeAny _ _ (.compStart (.SetComp elt [⟨tg, iter, ifs, 0⟩] scope pos) 0 (.ref it) (.ref s2.heap.objs.size) (compEnvC scope (cellsFrom (s3.heap.objs.size + 1) scope.names (cloFrom X.env.cells scope.names [])) s3.heap.objs.size X.env)) (compPost (model X.prog X.w) X.A X.xe use Qf (.ref s2.heap.objs.size) s3.heap.objs.size) { s3 with heap := pushCells (s3.heap.push { cls := .type "dict", data := .dict #[] }) scope.names }
  have st4 : tn 0 (pushCells (s3.heap.push { cls := .type "dict", data := .dict #[] }) scope.names) := T.keep _ _ _ st3 fun b _ o e => pushCells_keeps _ _ _ _ (Heap.get?_push_of_some _ e)
  have nfp : ∀ b ∈ fp, H3 b = none := fun b hb => (f3 b hb).1.1
  have pg := hg s3 H3 s3.heap.objs.size (cellsFrom (s3.heap.objs.size + 1) scope.names (cloFrom X.env.cells scope.names [])) fp
  have pt := ht s3 H3 s3.heap.objs.size (cellsFrom (s3.heap.objs.size + 1) scope.names (cloFrom X.env.cells scope.names [])) fp
  have pe := he s3 H3 s3.heap.objs.size (cellsFrom (s3.heap.objs.size + 1) scope.names (cloFrom X.env.cells scope.names [])) fp
  generalize hce : compEnvC scope (cellsFrom (s3.heap.objs.size + 1) scope.names (cloFrom X.env.cells scope.names [])) s3.heap.objs.size X.env = ce at I4 pg pt pe ⊢
  have cL : ce.locals = s3.heap.objs.size := by
    rw [← hce]
    rfl
  have out : ∀ H5 s6, Inv (X.blk s3 H3 scope ce fp) [] (wipe σ (own.map (·.2))) H5 s6 → Q (.ref s2.heap.objs.size) H5 →
      compPost (model X.prog X.w) X.A X.xe use Qf (.ref s2.heap.objs.size) s3.heap.objs.size (.ok .next) s6 := by
    intro H5 s6 I6 qq
    have I7 : Inv X pins σ H5 s6 := I3.call' (ch := fp) I6.os I6.base I6.hok I6.bare fun b hb => by
      obtain ⟨⟨_, g1, _, g3, g4, g5⟩, _⟩ := f3 b hb
      exact ⟨g3, g1, g4, g5⟩
    have nC : H5 s3.heap.objs.size = none := by
      have z : H5 ce.locals = none := I6.free
      rwa [cL] at z
    obtain ⟨m, hn, _⟩ := I6.loc
    have hn : s6.heap.Ns ce.locals m := hn
    rw [cL] at hn
    exact done _ _ s6 m H5 I7 qq hn (I3.fpOk (Nat.le_refl _) nC)
  have loop := sc_turnsI (elt := elt) (iter := iter) (pos := pos) hc T pg pt pe turn I4 st4 nfp w0 out
  exact PpSet.codeAny_compStart_set loop (T.self X.A 0 _ _ _ st4 loop)
theorem pez_scI {pos : Pos} (hc : X.calm = true) (hN : X.N.Nodup) (hi : PI X tg iter wi) (ok : BlkOk X.N X.env.scope scope own)
    (hg : ∀ (s : Shared) (H : Hp) (C : Addr) (cl : List (Str × Addr)) (fp : List Addr), PG (X.blk s H scope (compEnvC scope cl C X.env) fp) tg g)
    (ht : ∀ (s : Shared) (H : Hp) (C : Addr) (cl : List (Str × Addr)) (fp : List Addr), PTs (X.blk s H scope (compEnvC scope cl C X.env) fp) ifs tt)
    (he : ∀ (s : Shared) (H : Hp) (C : Addr) (cl : List (Str × Addr)) (fp : List Addr), PE (X.blk s H scope (compEnvC scope cl C X.env) fp) elt te)
    (hs : ∀ x, foldedSetIterable iter X.env x = pure x := by intro _; rfl) :
    PE X (.SetComp elt [⟨tg, iter, ifs, 0⟩] scope pos) (zScI X.w wi g tt te (own.map (·.2))) := by
  constructor
  intro pins s σ H Q I h
  rw [PpSet.eval_SetComp]
  refine sc_runI hc hN I hi ok hg ht he hs h fun D C s' m H' I' q hn f => ⟨m, hn, fun h2 sb => ?_⟩
  obtain ⟨g0, g1, g2, g3, g4, g5⟩ := f
  exact ⟨.ref D, H', I'.turned (t' := s'.toks) (fun b o hb e => (sb.2 b hb).trans e) g0 g1 g3 g4 g5, rfl, q⟩
end
/-- a set of ints over a walk -/
theorem sc_zI {w : World} {J : It} {n : Nat} {G : Hp → Prop} {Y : Nat → Hp → V → Hp → Prop} (wk : Walk J n G Y) {g : TG} {tt : TT} {te : TE} {vs : List Nat} {σ : St} {H1 : Hp} {Q : VK} (Pv : Addr → Nat → Hp → Prop)
    (h0 : ∀ D, H1 D = none → Pv D 0 (upd H1 D (SetO w D (fun _ => false) 0))) (hG : ∀ D i H, H1 D = none → i ≤ n → Pv D i H → G H)
    (hs : ∀ D i x H H', H1 D = none → i < n → Pv D i H → Y i H x H' → g x (wipe σ vs) H' fun σ2 H2 => wipe σ2 vs = wipe σ vs ∧ tt σ2 H2 fun b H3 =>
      if b = true then te σ2 H3 fun y H4 => rSAdd w (.ref D) [y] H4 fun _ H5 => Pv D (i + 1) H5 else Pv D (i + 1) H3)
    (hd : ∀ D H, H1 D = none → Pv D n H → Q (.ref D) H) : scGoI w J g tt te vs σ H1 Q := by
  intro D hD
  refine ⟨fun i m H => m = n - i ∧ i ≤ n ∧ Pv D i H, ⟨n, by simp, Nat.zero_le _, h0 D hD⟩, ?_⟩
  rintro i m H ⟨rfl, hi, p⟩
  have q := hG D i H hD hi p
  rcases Nat.lt_or_ge i n with lt | ge
  · exact .inr ⟨wk.goes i H lt q, Pv D (i + 1), fun H' p' => ⟨n - (i + 1), by omega, rfl, lt, p'⟩, fun x H' y => hs D i x H H' hD lt p (wk.yields i H x H' lt q y)⟩
  · obtain rfl : i = n := Nat.le_antisymm hi ge
    exact .inl ⟨wk.stops H q, hd D H hD p⟩

end Z
namespace Z
open PySem PySem.Spec PyProof.Rows L2
/-! ### what is never reached -/
def zDead : TE := fun _ _ _ => False
def tDead : TS := fun _ _ _ => False
def aDead : TA := fun _ _ _ => False
def ttDead : TT := fun _ _ _ => False
section
variable {X : Cx}
theorem pe_dead {e : Expr} : PE X e zDead := ⟨fun _ _ _ _ _ _ h => h.elim⟩
theorem ps_dead {s : Stmt} : PS X s tDead := ⟨fun _ _ _ _ _ _ h => h.elim⟩
theorem pss_dead {ss : List Stmt} : PSs X ss tDead := ⟨fun _ _ _ _ _ _ h => h.elim⟩
theorem pt_dead {e : Expr} : PT X e ttDead := ⟨fun _ _ _ _ _ _ h => h.elim⟩
theorem PE.or {e : Expr} {t1 t2 : TE} (h1 : PE X e t1) (h2 : PE X e t2) : PE X e (fun σ H Q => t1 σ H Q ∨ t2 σ H Q) := ⟨fun pins s σ H Q I h => h.elim (h1.run pins s σ H Q I) (h2.run pins s σ H Q I)⟩
end
/-! ### C() where there is no __init__ but object's -/
structure Mk0 (K : PySem.W.Frag) (C : Addr) : Prop where
  makes : PySem.W.makesIn K C = true
  init : PySem.W.findIn K (.ref C) "__init__" = some (some (.builtin "object.__init__"))
  kp : PySem.W.keepIn K (.ref C) = true
def zMake0 (C : Addr) : TE := fun σ H Q => ∀ x dx, H x = none → H dx = none → dx ≠ x → Q (.ref x) (upd (upd H dx (.own x)) x (.ins C dx []))
section
variable {X : Cx} {C : Addr} {x : Str} {p pos : Pos}
theorem pe_make00 (M : Mk0 X.K C) (hm0 : PySem.W.mroIn X.K C (.type "object") = some true) (hg : Gl X x) (hm : X.mg x = some (.ref C)) (hdb : (x == ("__debug__" : Str)) = false := by decide) : PE X (.Call (.Name x p) [] [] pos) (zMake0 C) := by
  constructor
  intro pins s σ H Q I h
  refine wpAny_Call_Name_kw (ld_glob I hg hm ?_ hdb)
  refine PySem.W.callWith_K0 I.kIn M.kp ?_
  have n0 := I.hok.fresh (Nat.le_refl s.heap.objs.size)
  have n1 := I.hok.fresh (Nat.le_succ s.heap.objs.size)
  have I3 := Inv.made (C := C) I
  have q := h _ _ n1 n0 (Nat.ne_of_lt (Nat.lt_succ_self _))
  refine wpAny_call (make_map0 I.kIn M.makes M.init (fun self => PySem.W.Looks.of_pure (PySem.W.oi_bind self)) ?_)
  have e1 : ((s.heap.push PySem.W.emptyDict).push (PySem.W.instObj C s.heap.objs.size)).get? (s.heap.objs.size + 1) = some (PySem.W.instObj C s.heap.objs.size) := by
    have := Heap.get?_push_size (s.heap.push PySem.W.emptyDict) (o := PySem.W.instObj C s.heap.objs.size) rfl
    rwa [Heap.size_push] at this
  have t1 : PySem.W.Looks (model X.prog X.w) ((s.heap.push PySem.W.emptyDict).push (PySem.W.instObj C s.heap.objs.size)) (typeOf (.ref (s.heap.objs.size + 1))) (.ref C) := (PySem.W.Looks.ld e1).andThen .now
  have t2 : PySem.W.Looks (model X.prog X.w) ((s.heap.push PySem.W.emptyDict).push (PySem.W.instObj C s.heap.objs.size)) (isInstance (.ref (s.heap.objs.size + 1)) (.type "object")) true := t1.andThen (PySem.W.looks_mroIn I3.kIn hm0)
  refine codeAny_call_builtin PySem.W.oi_plain PySem.W.entry_oi (@PySem.W.check_slot (model X.prog X.w) _ _ _ "object.__init__" "object" "__init__" (.ref (s.heap.objs.size + 1)) [] [] _ PySem.W.oi_kind PySem.W.oi_split t2 (PySem.W.oi_args (.ref (s.heap.objs.size + 1))) ?_)
  rw [PySem.W.oi_run]
  exact wpAny_pure ⟨rfl, ⟨V.ref (s.heap.objs.size + 1), _, I3, rfl, q⟩⟩
end
/-! ### isinstance that is false -/
theorem kit_subF {K : PySem.W.Frag} {D C : Addr} (h1 : PySem.W.subIn K (.ref D) (.ref D) = some true) (hc : (PySem.W.clsIn K C).isSome = true) (ht : PySem.W.typeIn K (.ref C) = some (.type "type")) (hs : PySem.W.subIn K (.ref D) (.ref C) = some false) : PySem.W.kitOne K (.ref D) (.ref C) = some false := kit_cls (kit_ne h1 hs) hc ht hs
/-! ### classmethods called with keywords, and with what they have by default -/
def zCMethD (C : Addr) (sp : Sp) (dvs : List V) (E : St → XK) (ta : TE) (t : TA) : TE := fun σ H Q => ta σ H fun x H1 => x = .ref C ∧ t σ H1 fun vs H2 => sp (.ref C :: (vs ++ dvs)) H2 Q (E σ)
def zCMethK (C : Addr) (n j : Nat) (sp : Sp) (gV : List V → List V → List V) (E : St → XK) (ta : TE) (t tk : TA) : TE := fun σ H Q => ta σ H fun x H1 => x = .ref C ∧ t σ H1 fun vs H2 => tk σ H2 fun zs H3 => vs.length = n ∧ zs.length = j ∧ sp (gV (.ref C :: vs) zs) H3 Q (E σ)
section
variable {X : Cx} {gd : Bool} {k n : Nat} {C g p : Addr} {fd : FuncData} {ps ks : List Str} {mc : Value} {sp : Sp} {E : St → XK} {o e : Expr} {es : List Expr} {kws : List Keyword} {m : Str} {pos apos : Pos} {ta : TE} {t tk : TA} {pl : Sem Bool} {dvs : List V} {ds : List Value}
  {gU : List Value → List Value → List Value} {gV : List V → List V → List V}
theorem pe_cmethD (he : PE X o ta) (r : ClX.CRead X.K C mc) (c : ClX.CMet X.K C mc m p g) (F : FnG gd X.prog X.w X.K X.mg X.base k g fd ps sp) (hr : Room k X.A) (hgu : gd = true → X.A.guards = some []) (hb : Binds X.K fd ps ds) (hd : Vals dvs ds) (hx : ∀ σ, PassesAt (L2.CX X.prog X.w) X σ (E σ)) (ha : PA X (e :: es) t)
    (hst : starEach (e :: es) X.env = (false, eval e X.env) :: starEach es X.env := by rfl) (hpl : (backTo pos (starEach es X.env)).any (·.1) = false := by rfl)
    (ht : eval (.Call (.Attribute o m apos) (e :: es) [] pos) X.env = (do
      let ov ← eval o X.env
      standAt apos.atName
      let (f, first) ← holding [ov] (getMethod ov m pl)
      callWith pos f first (backTo pos (starEach (e :: es) X.env)) (backToKw pos (keywordEach [] X.env))) := by rfl) :
    PE X (.Call (.Attribute o m apos) (e :: es) [] pos) (zCMethD C sp dvs E ta t) := by
  constructor
  intro pins s σ H Q I h
  refine PySem.W.methodCall_KW (pl := pl) (thn (he.run pins s σ H _ I h) ?_) ht
  rintro u s1 ⟨z, H1, I1, rz, rfl, q⟩
  obtain rfl : u = Value.ref C := rz
  refine ClX.getmethcm_ok I1 r c fun s2 I2 => ClX.callwith_cm I2 (ClX.base_none I1 (Nat.le_refl _)) c.fi (thn (ha.run pos _ s2 σ H1 _ I2 q) ?_) hst hpl
  rintro us s3 ⟨vs, H2, I3, rv, q2⟩
  have rc : Vals (V.ref C :: (vs ++ dvs)) (Value.ref C :: (us ++ ds)) := .cons rfl (rv.append hd)
  have hl : (Value.ref C :: (us ++ ds)).length = ps.length := rc.length.symm.trans (F.len _ _ _ _ q2)
  have z : wpAny (model X.prog X.w) X.A (call (.ref s1.heap.objs.size) us) (EP X ((s1.heap.objs.size, PySem.W.methodObj (.ref g) (.ref C)) :: pins) σ Q) X.xe s3 := by
    refine wpAny_call (PySem.W.method_call (ClX.pin_at I3) ?_)
    refine codeAny_mono (F.run X.A X.stack s3 H2 ⟨Value.ref C :: us, []⟩ (Value.ref C :: (us ++ ds)) (V.ref C :: (vs ++ dvs)) Q (E σ) hr hgu I3.env0 (hb s3 (Value.ref C :: us) I3.kIn hl) rc q2) fun w s4 hq => ?_
    cases w with
    | error er => exact hx σ _ H2 s3 er s4 I3 hq
    | ok fl =>
      cases fl with
      | ret u => exact I3.after hq
      | next => exact hq.elim
      | brk => exact hq.elim
      | cont => exact hq.elim
  exact ⟨⟨ClX.pin_at I3, I3.kIn⟩, thn z fun _ _ y => ClX.unpinE y⟩
theorem pe_cmethK (he : PE X o ta) (r : ClX.CRead X.K C mc) (c : ClX.CMet X.K C mc m p g) (F : FnG gd X.prog X.w X.K X.mg X.base k g fd ps sp) (hr : Room k X.A) (hgu : gd = true → X.A.guards = some []) (hb : KBn X.K fd ps (n + 1) ks gU gV) (hx : ∀ σ, PassesAt (L2.CX X.prog X.w) X σ (E σ)) (ha : PA X (e :: es) t) (hkw : PK X kws tk)
    (hall : (backToKw pos (keywordEach kws X.env)).all (·.1.isSome) = true := by rfl) (hks : (backToKw pos (keywordEach kws X.env)).filterMap (·.1) = ks := by rfl)
    (hst : starEach (e :: es) X.env = (false, eval e X.env) :: starEach es X.env := by rfl) (hpl : ((backTo pos (starEach (e :: es) X.env)).any (·.1) || (backToKw pos (keywordEach kws X.env)).any (·.1.isNone)) = false := by rfl)
    (ht : eval (.Call (.Attribute o m apos) (e :: es) kws pos) X.env = (do
      let ov ← eval o X.env
      standAt apos.atName
      let (f, first) ← holding [ov] (getMethod ov m pl)
      callWith pos f first (backTo pos (starEach (e :: es) X.env)) (backToKw pos (keywordEach kws X.env))) := by rfl) :
    PE X (.Call (.Attribute o m apos) (e :: es) kws pos) (zCMethK C n ks.length sp gV E ta t tk) := by
  constructor
  intro pins s σ H Q I h
  refine PySem.W.methodCall_KW (pl := pl) (thn (he.run pins s σ H _ I h) ?_) ht
  rintro u s1 ⟨z, H1, I1, rz, rfl, q⟩
  obtain rfl : u = Value.ref C := rz
  refine ClX.getmethcm_ok I1 r c fun s2 I2 => PySem.W.callWith_of (P := PySem.W.MethP X.K s1.heap.objs.size g (.ref C)) hpl (PySem.W.keeps_M c.fi) (evalArgs_kw2 hall (thn (ha.run pos _ s2 σ H1 _ I2 q) ?_) hst)
  rintro us s3 ⟨vs, H2, I3, rv, q2⟩
  refine thn (hkw.run pos _ s3 σ H2 _ I3 q2) ?_
  rintro ws s4 ⟨zs, H3, I4, rz, l1, l2, q3⟩
  rw [hks]
  have rc : Vals (V.ref C :: vs) (Value.ref C :: us) := .cons rfl rv
  have m1 : (Value.ref C :: us).length = n + 1 := by rw [List.length_cons, ← rv.length, l1]
  have z : wpAny (model X.prog X.w) X.A (call (.ref s1.heap.objs.size) us (ks.zip ws)) (EP X ((s1.heap.objs.size, PySem.W.methodObj (.ref g) (.ref C)) :: pins) σ Q) X.xe s4 := by
    refine wpAny_call (PySem.W.method_call (ClX.pin_at I4) ?_)
    refine codeAny_mono (F.run X.A X.stack s4 H3 ⟨Value.ref C :: us, ks.zip ws⟩ (gU (Value.ref C :: us) ws) (gV (V.ref C :: vs) zs) Q (E σ) hr hgu I4.env0 (hb.to _ (Value.ref C :: us) ws I4.kIn m1 (rz.length.symm.trans l2)) (hb.rel rc rz) q3) fun w s5 hq => ?_
    cases w with
    | error er => exact hx σ _ H3 s4 er s5 I4 hq
    | ok fl =>
      cases fl with
      | ret u => exact I4.after hq
      | next => exact hq.elim
      | brk => exact hq.elim
      | cont => exact hq.elim
  exact ⟨⟨ClX.pin_at I4, I4.kIn⟩, thn z fun _ _ y => ClX.unpinE y⟩
end
/-! ### a def with positional defaults -/
structure FunA (K : PySem.W.Frag) (x qual : Str) (st : Stmt) (f : Addr) (fd : FuncData) : Prop where
  ex : ∃ (oc : Value) (od : Option Addr) (dV kV doc pm : Value) (an : Option Addr) (cdv ct : Value) (osl : Array (Option Value)),
    fd = PySem.W.fnOf x qual (defArgs st) (defBody st) (defScope st) dV kV doc pm an cdv ct ∧ K.lookup f = some ⟨oc, od, .func fd, osl⟩ ∧ PySem.W.codeIn K cdv qual = true
section
variable {gd : Bool} {P : Program} {w : World} {K : PySem.W.Frag} {mg : Str → Option Value} {base : Heap}
theorem okA {x qual : Str} {st : Stmt} {f : Addr} {fd : FuncData} {N ps : List Str} {k : Nat} {sp : Sp} (F : FunA K x qual st f fd)
    (S : FnScope N ps (defScope st)) (len : ∀ vs H Q E, sp vs H Q E → vs.length = ps.length)
    (hbody : ∀ (cdv : Value) (A : Around) (outer : List Env) (s : Shared) (H : Hp) (vs : List V) (Q : VK) (E : XK),
      Room k (A.deeper (envOfC qual (defScope st) s.heap.objs.size f cdv)) →
      (gd = true → (A.deeper (envOfC qual (defScope st) s.heap.objs.size f cdv)).guards = some []) → sp vs H Q E →
      ∃ t, PSs (cxOf (L2.CX P w) P w K mg base N qual (defScope st) f cdv A outer s H E) (defBody st) t ∧
        t { nx := fun _ H' => Q .non H', rt := Q } (start N vs) H) :
    FnG gd P w K mg base (k + 1) f fd ps sp := by
  obtain ⟨oc, od, dV, kV, doc, pm, an, cdv, ct, osl, rfl, lk, hcd⟩ := F.ex
  refine ⟨len, fun A outer s H args us vs Q E hr hgu e0 hb r hsp => ?_⟩
  have hl := len _ _ _ _ hsp
  have KX : K.In s.heap := e0.mod.kin.keeps fun b o z => (e0.bs b o z).1
  have lim : s.heap.NoLimit := e0.mod.nolimit.keeps fun b o z => (e0.bs b o z).1
  have hkind : ∀ y ∈ ps.zip us, (defScope st).names.lookup y.1 = some .local ∨
      ((defScope st).names.lookup y.1 = some .cell ∧ ((cellsFrom (s.heap.objs.size + 1) (defScope st).names []).lookup y.1).isSome = true) := by
    intro y hy
    obtain ⟨n, v⟩ := y
    rcases S.par n (List.of_mem_zip hy).1 with q | q
    · exact .inl q
    · exact .inr ⟨q, PySem.W.cellsFrom_some _ _ _ (.inl q)⟩
  refine codeAny_call_function hr.depth (KX _ _ lk) rfl S.co S.gen rfl (PySem.W.codeRec_of KX hcd) (hb _ _ _ _ ?_)
  refine wpAny_newFunctionEnv_cells S.kind hkind fun env he s1 x => ?_
  subst he
  refine ⟨lim.keeps x.toInCall.keep, codeAny_func ?_⟩
  obtain ⟨t, ht, hq⟩ := hbody cdv A outer s H vs Q E (hr.deeper _) hgu hsp
  have I := inv_start (CX := L2.CX P w) (E := E) S hr.hd e0 hl r x
  refine wpAny_mono (ht.run [] s1 (start N vs) H _ I hq) (fun fl s' hs => ?_) fun e s' hs => hs
  cases fl with
  | ret u =>
    obtain ⟨v, σ', H', J, rv, q⟩ := hs
    exact ⟨v, H', J.os, J.bare, J.base, J.hok, rv, q⟩
  | next =>
    obtain ⟨σ', H', J, q⟩ := hs
    exact ⟨V.non, H', J.os, J.bare, J.base, J.hok, rfl, q⟩
  | brk => exact False.elim hs.choose_spec.choose_spec.2
  | cont => exact False.elim hs.choose_spec.choose_spec.2
/-- what a written def with a tuple of defaults is -/
theorem funA_mk {x qual : Str} {st : Stmt} {f : Addr} {oc : Value} {od an : Option Addr} {osl : Array (Option Value)} {dV kV doc pm cdv ct : Value} (l : K.lookup f = some ⟨oc, od, .func (PySem.W.fnOf x qual (defArgs st) (defBody st) (defScope st) dV kV doc pm an cdv ct), osl⟩)
    (c : PySem.W.codeIn K cdv qual = true) : FunA K x qual st f (PySem.W.fnOf x qual (defArgs st) (defBody st) (defScope st) dV kV doc pm an cdv ct) := ⟨⟨oc, od, dV, kV, doc, pm, an, cdv, ct, osl, rfl, l, c⟩⟩
end
end Z
namespace Z
open PySem PySem.Spec PyProof.Rows L2
/-! ### repr of lists of lists of things, dicts among them -/
mutual
inductive DpN (K : PySem.W.Frag) (H : Hp) : V → PyData → Prop
  | base {v : V} {d : PyData} (h : DpR K H v d) : DpN K H v d
  | lst {a : Addr} {vs : List V} {ds : List PyData} (hq : SqL K H a vs) (hs : DpNs K H vs ds) : DpN K H (.ref a) (.list ds)
inductive DpNs (K : PySem.W.Frag) (H : Hp) : List V → List PyData → Prop
  | nil : DpNs K H [] []
  | cons {v : V} {d : PyData} {vs : List V} {ds : List PyData} (h : DpN K H v d) (t : DpNs K H vs ds) : DpNs K H (v :: vs) (d :: ds)
end
def RpK (prog : Program) (w : World) (h : Heap) (u : Value) (d : PyData) : Prop := (∃ as, Reads h u d as) ∧ (d.showable = true → d.shown.length ≤ sizeLine → ∃ bs, ReadAtMost h d.depth bs ∧ ReprK prog w bs h d.depth u d.shown)
section
variable {prog : Program} {w : World} {h : Heap}
theorem rpk_of {u : Value} {d : PyData} (r : Rdd h u d) : RpK prog w h u d := by
  obtain ⟨as, r, hm⟩ := r
  exact ⟨⟨as, r⟩, fun hs hz => ReprK.of_reads r hs hm hz⟩
theorem rpk_each : ∀ {vs : List Value} {ds : List PyData}, Paired (RpK prog w h) vs ds → PyData.showableAll ds = true → (∀ t ∈ PyData.shownAll ds, t.length ≤ sizeLine) →
    (∃ as, ReadsAll h vs ds as) ∧ ∃ bs, ReadAtMost h (PyData.depthAll ds) bs ∧ ReprAllK prog w bs h (PyData.depthAll ds) vs (PyData.shownAll ds)
  | _, _, .nil, _, _ => ⟨⟨_, .nil⟩, [], (fun _ h => nomatch h), by simp only [PyData.shownAll]; exact .nil⟩
  | _, _, .cons ⟨⟨as, r⟩, k⟩ t, hs, hz => by
    simp only [PyData.showableAll, Bool.and_eq_true] at hs
    obtain ⟨b1, h1, k1⟩ := k hs.1 (hz _ (by simp only [PyData.shownAll]; exact List.mem_cons_self ..))
    obtain ⟨⟨as2, r2⟩, b2, h2, k2⟩ := rpk_each t hs.2 fun x hx => hz x (by simp only [PyData.shownAll]; exact List.mem_cons_of_mem _ hx)
    refine ⟨⟨_, .cons r r2⟩, b1 ++ b2, ?_, ?_⟩
    · simp only [PyData.depthAll]
      exact (h1.mono (Nat.le_max_left _ _)).append (h2.mono (Nat.le_max_right _ _))
    · simp only [PyData.depthAll, PyData.shownAll]
      exact .cons ((k1.more fun _ q => List.mem_append_left _ q).level_le (Nat.le_max_left _ _)) (k2.more_le (fun _ q => List.mem_append_right _ q) (Nat.le_max_right _ _))
theorem rpk_reads : ∀ {vs : List Value} {ds : List PyData}, Paired (RpK prog w h) vs ds → ∃ as, ReadsAll h vs ds as
  | _, _, .nil => ⟨_, .nil⟩
  | _, _, .cons ⟨⟨_, r⟩, _⟩ t => let ⟨_, r2⟩ := rpk_reads t; ⟨_, .cons r r2⟩
theorem rpk_list {a : Addr} {o : Obj} {vs : List Value} {n : Nat} {ds : List PyData} (h1 : h.get? a = some o) (h2 : o.cls = .type "list") (h3 : o.data = .seq vs.toArray n) (p : Paired (RpK prog w h) vs ds) : RpK prog w h (.ref a) (.list ds) := by
  obtain ⟨as, ra⟩ := rpk_reads p
  have r : Reads h (.ref a) (.list ds) _ := .list h1 h2 h3 ra
  refine ⟨⟨_, r⟩, fun hs hz => ?_⟩
  have hz' : (listText (PyData.shownAll ds)).length ≤ sizeLine := by simpa only [PyData.shown] using hz
  obtain ⟨_, bs, hb, hk⟩ := rpk_each p (by simpa [PyData.showable] using hs) fun t ht => Nat.le_trans (listText_mem_le ht) hz'
  have hna : a ∉ bs := not_mem_of_deeper r (by simp only [PyData.depth]; omega) hb
  refine ⟨a :: bs, ReadAtMost.cons r (by simp only [PyData.depth]; omega) hb, ?_⟩
  simp only [PyData.depth, PyData.shown]
  cases vs with
  | nil =>
    cases p
    simp only [PyData.shownAll, listText_nil]
    exact ReprK.listEmpty h1 h2 h3
  | cons x l => exact ReprK.list h1 h2 h3 hna (by simpa using hk.length_eq) (fun i y e => hk.item i y (by simpa using e))
end
section
variable {X : Cx} {pins : List (Addr × Obj)} {σ : St} {H : Hp} {s : Shared}
mutual
theorem DpN.rpk (I : Inv X pins σ H s) : ∀ {v : V} {d : PyData} {u : Value}, DpN X.K H v d → RelV v u → RpK X.prog X.w s.heap u d
  | _, _, _, .base h, r => rpk_of (h.reads I r)
  | _, _, u, .lst (a := a) hq hs, r => by
    obtain rfl : u = Value.ref a := r
    obtain ⟨its, rv, ⟨oa, n, e1, c1, _, d1⟩, _⟩ := I.list hq
    exact rpk_list e1 c1 d1 (DpNs.rpk I hs rv)
theorem DpNs.rpk (I : Inv X pins σ H s) : ∀ {vs : List V} {ds : List PyData} {us : List Value}, DpNs X.K H vs ds → Vals vs us → Paired (RpK X.prog X.w s.heap) us ds
  | _, _, _, .nil, .nil => .nil
  | _, _, _, .cons h t, .cons r q => .cons (h.rpk I r) (t.rpk I q)
end
end
def rReprN (K : PySem.W.Frag) : List V → Hp → VK → Prop := fun xs H Q => ∃ (a : Addr) (vs : List V) (ds : List PyData), xs = [.ref a] ∧ SqL K H a vs ∧ DpNs K H vs ds ∧ PyData.showableAll ds = true ∧ PyData.depthAll ds ≤ 32 ∧
  (PyData.list ds).shown.length ≤ sizeLine ∧ Q (.str (PyData.list ds).shown) H
theorem call_reprN {X : Cx} (hg : X.A.guards = some []) (hu : X.A.units + 64 < cLine) : CallR X (.builtin "repr") (rReprN X.K) := by
  intro pins s σ H xs us Q I r h
  obtain ⟨a, vs, ds, rfl, hq, hp, hs, hd, hz, q⟩ := h
  obtain ⟨u, rfl, ru⟩ := vals1 r
  obtain rfl : u = Value.ref a := ru
  obtain ⟨its, rv, ⟨oa, n, e1, c1, _, d1⟩, _⟩ := I.list hq
  have hz2 : (listText (PyData.shownAll ds)).length ≤ sizeLine := by simpa only [PyData.shown] using hz
  obtain ⟨⟨as, ra⟩, bs, h1, h2⟩ := rpk_each (hp.rpk I rv) hs fun t ht => Nat.le_trans (listText_mem_le ht) hz2
  have hna : a ∉ bs := not_mem_of_deeper (Reads.list e1 c1 d1 ra) (by simp only [PyData.depth]; omega) h1
  have keep : ∀ b o, s.heap.get? b = some o → s.heap.get? b = some o := fun _ _ z => z
  simp only [PyData.shown] at q
  refine call_repr_slot (by omega) ⟨oa, e1, c1⟩ F.slot_list_repr.toG ?_
  cases its with
  | nil =>
    cases ra
    simp only [PyData.shownAll, listText_nil] at q
    exact call_list_repr_empty ⟨oa, e1, c1⟩ e1 d1 ⟨_, _, rfl, ⟨.str _, H, I.tok _, ⟨_, rfl⟩, q⟩⟩
  | cons x l =>
    exact call_list_reprK e1 c1 d1 hna (by simpa using h2.length_eq) (fun i y e => h2.item i y (by simpa using e)) (show X.A.in1.guards = some [] from hg) (fun b _ => Clear.nil b) (show X.A.units + 1 + (PyData.depthAll ds + 1) < cLine by omega) keep
      (fun h' u tk hk => ⟨_, _, rfl, ⟨.str _, H, I.kept (t' := tk) hk, ⟨_, rfl⟩, q⟩⟩) hz2
theorem DpNs.of {K : PySem.W.Frag} {H : Hp} : ∀ {vs : List V} {ds : List PyData}, Paired (DpN K H) vs ds → DpNs K H vs ds
  | _, _, .nil => .nil
  | _, _, .cons h t => .cons h (.of t)
end Z
namespace Z
open PySem PySem.Spec PyProof.Rows L2
open PySem.SeqAt PySem.MeetsSeq PySem.MeetsSeq2 PySem.MeetsSeq3 PySem.SeqRoads2
open PySem.W (Looks)

/-- what nothing is asked of while no repr runs is a promise for the hand layer's own rules -/
theorem FnG.ok {P : Program} {w : World} {K : PySem.W.Frag} {mg : Str → Option Value} {base : Heap} {f : Addr} {fd : FuncData} {ps : List Str} {sp : Sp} {k : Nat} (F : FnG false P w K mg base k f fd ps sp) : FnOk P w K mg base (L2.CX P w) k f fd ps sp :=
  ⟨F.len, fun A outer s H args us vs Q E hr => F.run A outer s H args us vs Q E hr fun z => nomatch z⟩
/-- sep.join(texts) -/
def rJoin (K : PySem.W.Frag) : V → List V → Hp → VK → Prop := fun x xs H Q => ∃ a p, ∃ ys : List Str, x = .str a ∧ xs = [.ref p] ∧ (SqL K H p (ys.map V.str) ∨ SqT K H p (ys.map V.str)) ∧
  (ys.map (·.length)).sum + ys.length * a.length ≤ 16777216 ∧ Q (.str (Txt.join a ys)) H
section
variable {X : Cx}
/-! ### == of tuples whose items are alike one by one -/
def rEqTI (K : PySem.W.Frag) : R2 := fun x y H Q => ∃ (a b : Addr) (xs : List V), x = .ref a ∧ y = .ref b ∧ SqT K H a xs ∧ SqT K H b xs ∧ (∀ v ∈ xs, SmV v) ∧ Q (.bl true) H
theorem op_eqTI (hu : X.A.units + 64 < cLine) : OpR X (compareOp .Eq) (rEqTI X.K) := by
  intro pins s σ H x y v u Q I rx ry h
  obtain ⟨a, b, xs, rfl, rfl, ha, hb, hs, q⟩ := h
  obtain rfl : v = Value.ref a := rx
  obtain rfl : u = Value.ref b := ry
  obtain ⟨i1, r1, p1, _⟩ := I.tuple ha
  obtain ⟨i2, r2, p2, _⟩ := I.tuple hb
  have rc := RcAt.tuples (A := X.A) (e := fun _ => true) (isTup_tuple p1) (isTup_tuple p2) (show X.A.units < cLine by omega) fun j h1 h2 => by
    have h1' : j < i1.length := by simpa using h1
    have hj : j < xs.length := by rw [r1.length]; exact h1'
    obtain ⟨u1, e1, q1⟩ := r1.get (List.getElem?_eq_getElem hj)
    obtain ⟨u2, e2, q2⟩ := r2.get (List.getElem?_eq_getElem hj)
    have z1 : i1.toArray[j] = u1 := by
      have := (List.getElem?_eq_some_iff.mp e1).2
      simpa using this
    have z2 : i2.toArray[j] = u2 := by
      have := (List.getElem?_eq_some_iff.mp e2).2
      simpa using this
    rw [z1, z2]
    exact smV_eq (hs _ (List.getElem_mem hj)) q1 q2
  have e : (((List.range (min i1.toArray.size i2.toArray.size)).all fun _ => true) && i1.toArray.size == i2.toArray.size) = true := by
    have := r1.length
    have := r2.length
    simp
    omega
  rw [e] at rc
  exact rc X.prog X.w X.xe _ ⟨.bl true, H, I, rfl, q⟩

/-! ### == and != of dicts with plain values, either answer -/
def hitsB (ls : List (Key × V)) : List (Key × V) → Bool
  | [] => true
  | (k, v) :: r => match valV ls k with
    | none => false
    | some y => eqV v y && hitsB ls r
def dEq (ks ls : List (Key × V)) : Bool := ks.length == ls.length && hitsB ls ks
theorem hits_B {A : Around} {s : Shared} {kvs : List (Key × V)} {vb : List (Key × Value)} (rb : KV kvs vb) (fb : ∀ p ∈ kvs, flatV p.2 = true) {ks : List (Key × V)} {va : List (Key × Value)} (ra : KV ks va) (fa : ∀ p ∈ ks, flatV p.2 = true) : PySem.W.KeqHits A s vb va (hitsB kvs ks) := by
  unfold KV at ra
  induction ra with
  | nil => exact .nil
  | @cons p q ps qs h t ih =>
    obtain ⟨h1, h2⟩ := h
    obtain ⟨k, v⟩ := p
    obtain ⟨k', v'⟩ := q
    obtain rfl : k = k' := h1
    have rr := rb.val k
    unfold hitsB
    cases e : valV kvs k with
    | none =>
      rw [e] at rr
      cases ev : valueAt vb k with
      | none => exact .miss ev
      | some y =>
        rw [ev] at rr
        exact rr.elim
    | some y =>
      rw [e] at rr
      obtain ⟨u, hy, ry⟩ := rr.some_of
      have fy : flatV y = true := by
        have m : ∃ p ∈ kvs, p.2 = y := by
          clear rb rr hy ry fb ih
          induction kvs with
          | nil => cases e
          | cons a r ih2 =>
            by_cases z : a.1 = k
            · rw [valV_pos z] at e
              exact ⟨a, List.mem_cons_self, by simpa using e⟩
            · rw [valV_neg z] at e
              obtain ⟨p, hp, hq⟩ := ih2 e
              exact ⟨p, List.mem_cons_of_mem _ hp, hq⟩
        obtain ⟨p, hp, rfl⟩ := m
        exact fb p hp
      exact .hit hy (eqAt_V h2 ry (fa (k, v) List.mem_cons_self) fy) (ih fun p hp => fa p (List.mem_cons_of_mem _ hp))
def rEqDB (neg : Bool) : R2 := fun x y H Q => ∃ (a b : Addr) (ks ls : List (Key × V)), x = .ref a ∧ y = .ref b ∧ Rd H a (.dK ks) ∧ Rd H b (.dK ls) ∧ (∀ p ∈ ks, flatV p.2 = true) ∧ (∀ p ∈ ls, flatV p.2 = true) ∧ Q (.bl (if neg = true then !dEq ks ls else dEq ks ls)) H
theorem op_eqDB (hu : X.A.units + 64 < cLine) : OpR X (compareOp .Eq) (rEqDB false) := by
  intro pins s σ H x y v u Q I rx ry h
  obtain ⟨a, b, ks, ls, rfl, rfl, ea, eb, fa, fb, q⟩ := h
  obtain rfl : v = Value.ref a := rx
  obtain rfl : u = Value.ref b := ry
  obtain ⟨_, ya, va, ra, da⟩ := dk_rd I.hok ea
  obtain ⟨_, yb, vb, rb, db⟩ := dk_rd I.hok eb
  refine PySem.W.keq_eq (knd := mixKind X.prog X.w) (r := hitsB ls ks) ya yb da db (show X.A.units < cLine by omega) (fun _ => hits_B rb fb ra fa) ?_
  have e1 : va.length = ks.length := ra.length.symm
  have e2 : vb.length = ls.length := rb.length.symm
  rw [e1, e2]
  exact ⟨.bl _, H, I, rfl, q⟩
theorem op_neDB (hu : X.A.units + 64 < cLine) : OpR X (compareOp .NotEq) (rEqDB true) := by
  intro pins s σ H x y v u Q I rx ry h
  obtain ⟨a, b, ks, ls, rfl, rfl, ea, eb, fa, fb, q⟩ := h
  obtain rfl : v = Value.ref a := rx
  obtain rfl : u = Value.ref b := ry
  obtain ⟨_, ya, va, ra, da⟩ := dk_rd I.hok ea
  obtain ⟨_, yb, vb, rb, db⟩ := dk_rd I.hok eb
  refine PySem.W.keq_ne (knd := mixKind X.prog X.w) (r := hitsB ls ks) ya yb da db (show X.A.units < cLine by omega) (fun _ => hits_B rb fb ra fa) ?_
  have e1 : va.length = ks.length := ra.length.symm
  have e2 : vb.length = ls.length := rb.length.symm
  rw [e1, e2]
  exact ⟨.bl _, H, I, rfl, q⟩
def zEqJ (K : PySem.W.Frag) : R2 := fun x y H Q => rEqTI K x y H Q ∨ rEqDB false x y H Q ∨ zEq K x y H Q
def zNeJ (K : PySem.W.Frag) : R2 := fun x y H Q => rEqDB true x y H Q ∨ rEqI K true x y H Q ∨ zNe K x y H Q
theorem op_zEqJ (hu : X.A.units + 64 < cLine) : OpR X (compareOp .Eq) (zEqJ X.K) := (op_eqTI hu).or ((op_eqDB hu).or (op_zEq hu))
theorem op_zNeJ (hu : X.A.units + 64 < cLine) : OpR X (compareOp .NotEq) (zNeJ X.K) := (op_neDB hu).or ((op_neI hu).or (op_zNe hu))

/-! ### list(d), d perhaps locked -/
def rListR : List V → Hp → VK → Prop := fun xs H Q => ∃ p kvs, xs = [.ref p] ∧ Rd H p (.dK kvs) ∧ ∀ q, H q = none → Q (.ref q) (upd H q (.lst (kvs.map fun kv => kV kv.1)))
theorem call_list_rd {X : Cx} (hc : X.calm = true) : CallR X (.type "list") rListR := by
  intro pins s σ H xs us Q I r h
  obtain ⟨p, kvs, e, hk, q⟩ := h
  subst e
  obtain ⟨u, eu, rx⟩ := vals1 r
  subst eu
  obtain rfl : u = Value.ref p := rx
  obtain ⟨z, lo, vs, rk, hd⟩ := dk_rd I.hok hk
  obtain ⟨ep, hat⟩ := hd.dictAt
  have hl : kvs.length = vs.length := Paired.length rk
  refine PySem.W.kdl_call (PySem.W.kdl_dict (knd := mixKind X.prog X.w) (kvs := vs) (ep := ep) lo) (I.ok.hd hc) hat (by rw [← hl]; exact z) fun h' tk acc' c' hkeep hS hacc => ?_
  refine ⟨.ref s.heap.objs.size, upd H s.heap.objs.size (.lst (kvs.map fun kv => kV kv.1)), I.laid hkeep (Nat.le_refl _) (show ObjOk X.prog X.w _ _ _ (.lst (kvs.map fun kv => kV kv.1)) from ⟨?_, acc'.toList, c', ?_, ?_⟩), rfl, q _ (I.hok.fresh (Nat.le_refl _))⟩
  · rw [List.length_map]; exact z
  · have el : acc'.toList.length = acc'.size := by simp
    refine vals_of_at (by rw [List.length_map, el, hacc.1, hl]) fun j x w h1 h2 => ?_
    obtain ⟨k, y, hky, hi⟩ := hacc.2 j w (by rw [← Array.getElem?_toList]; exact h2)
    have e1 : (kvs.map (·.1))[j]? = some k := by
      rw [KV.keys rk, List.getElem?_map, hky] <;> rfl
    have e2 : (kvs.map fun kv => kV kv.1)[j]? = some (kV k) := by
      have e3 : (kvs.map fun kv => kV kv.1) = (kvs.map (·.1)).map kV := by rw [List.map_map] <;> rfl
      rw [e3, List.getElem?_map, e1] <;> rfl
    rw [e2] at h1
    cases h1
    exact keyIs_rel hi
  · rw [Array.toArray_toList]; exact hS

/-! ### == of an own instance and anything whose kind is told -/
variable {n : Nat} {C f : Addr} {sp : Sp}
def zEqA (K : PySem.W.Frag) (C : Addr) (sp : Sp) : R2 := fun x y H Q => ∃ a dx fs, x = .ref a ∧ H a = some (.ins C dx fs) ∧ ((y = .non ∧ PySem.W.subIn K (.type "NoneType") (.ref C) = some false) ∨ (∃ b kvs, y = .ref b ∧ Rd H b (.dK kvs) ∧ PySem.W.subIn K (.type "dict") (.ref C) = some false) ∨ ∃ b dy gs, y = .ref b ∧ H b = some (.ins C dy gs)) ∧
  sp [x, y] H (fun v H1 => ∃ c, v = .bl c ∧ Q v H1) fun _ _ _ => False
theorem op_zEqA (F : FnR X.prog X.w X.K X.mg X.base (L2.CX X.prog X.w) n f sp) (hs : PySem.W.findIn X.K (.ref C) "__eq__" = some (some (.ref f))) (hf : PySem.W.isFn X.K (.ref f) = true) (hr : Room n X.A) :
    OpR X (compareOp .Eq) (zEqA X.K C sp) := by
  intro pins s σ H x y v u Q I rx ry h
  obtain ⟨a, dx, fs, rfl, ha, hk, h⟩ := h
  obtain rfl : v = Value.ref a := rx
  obtain ⟨mA, J1, _⟩ := ins_get I.hok ha
  obtain ⟨od1, J1, _⟩ := J1.look
  obtain ⟨m, hF⟩ := I.fr
  have go : ∀ tb, Looks (model X.prog X.w) s.heap (typeOf u) tb → PySem.W.notFirst X.K C tb = true → wpAny (model X.prog X.w) X.A (richCompare .Eq (.ref a) u) (EP X pins σ Q) X.xe s := fun tb hL hn => by
    refine PySem.W.cmp_K (op := .Eq) (tb := tb) hr.units0 hF I.ok.mod.kin J1 hL hn hs hf ?_
    refine thn (wpAny_call (run_fnR (us := [.ref a, u]) (vs := [.ref a, y]) F hr passN I (.cons rfl (.cons ry .nil)) h)) ?_
    rintro w s2 ⟨z, H2, I2, rz, c, rfl, q⟩
    obtain rfl : w = Value.bool c := rz
    exact ⟨.bl c, H2, I2, rfl, q⟩
  rcases hk with ⟨rfl, hn⟩ | ⟨b, kvs, rfl, hb, hn⟩ | ⟨b, dy, gs, rfl, hb⟩
  · obtain rfl : u = Value.none := ry
    exact go (.type "NoneType") (PySem.W.Looks.of_pure rfl) (by simp [PySem.W.notFirst, hn])
  · obtain rfl : u = Value.ref b := ry
    obtain ⟨_, _, vs, _, dd⟩ := dk_rd I.hok hb
    obtain ⟨o, es, ep, h1, h2, _⟩ := dd
    exact go (.type "dict") (h2.1 ▸ (PySem.W.Looks.ld h1).andThen .now) (by simp [PySem.W.notFirst, hn])
  · obtain rfl : u = Value.ref b := ry
    obtain ⟨mB, J2, _⟩ := ins_get I.hok hb
    obtain ⟨od2, J2, _⟩ := J2.look
    exact go (.ref C) J2.type (by simp [PySem.W.notFirst])

/-! ### o[k] by an own __getitem__ -/
theorem in1_fn {k : Nat} {pins : List (Addr × Obj)} {σ : St} {H : Hp} {s : Shared} {Q : VK} {us : List Value} {vs : List V} {E : XK} (F : FnR X.prog X.w X.K X.mg X.base (L2.CX X.prog X.w) k f sp) (hr : Room (k + 1) X.A) (hx : Passes (L2.CX X.prog X.w) X E) (I : Inv X pins σ H s) (r : Vals vs us) (h : sp vs H Q E) :
    codeAny (model X.prog X.w) X.A.in1 (.call (.ref f) ⟨us, []⟩) (fun r s' => match r with | .ok (.ret v) => EP X pins σ Q v s' | .ok _ => False | .error e => X.xe e s') s := by
  have e := I.env0
  have e0 : Env0 X.prog X.w X.K X.mg X.base X.A.in1 X.stack s H := ⟨e.frames, e.mod, e.bs, e.bsz, e.funs, e.frf, e.hok, e.bare⟩
  refine codeAny_mono (F X.A.in1 X.stack s H us vs Q E hr.in1 e0 r h) fun r s' hq => ?_
  cases r with
  | error e => exact hx pins σ H s e s' I hq
  | ok fl =>
    cases fl with
    | ret u => exact I.after hq
    | next => exact False.elim hq
    | brk => exact False.elim hq
    | cont => exact False.elim hq
def zIxO (C : Addr) (sp : Sp) : R2 := fun x y H Q => ∃ a dx fs, x = .ref a ∧ H a = some (.ins C dx fs) ∧ sp [x, y] H Q fun _ _ _ => False
theorem pe_ixO {a b : Expr} {ta tb : TE} {pos : Pos} (F : FnR X.prog X.w X.K X.mg X.base (L2.CX X.prog X.w) n f sp) (hs : PySem.W.findIn X.K (.ref C) "__getitem__" = some (some (.ref f))) (hfn : PySem.W.fnIn X.K f = true) (hf : PySem.W.isFn X.K (.ref f) = true) (hr : Room (n + 1) X.A)
    (ha : PE X a ta) (hb : PE X b tb) (hsl : ∀ o i, subscripted b true o i = runValue (.builtin "lifetime.subscript" ⟨[o, i], []⟩)) : PE X (.Subscript a b pos) (tOp (zIxO C sp) ta tb) := by
  refine ⟨fun pins s σ H Q I h => ?_⟩
  refine Subscript_ (binT ha hb I h fun v u s2 x y H2 I2 rx ry q => ?_)
  obtain ⟨o, dx, fs, rfl, ho, q⟩ := q
  obtain rfl : v = Value.ref o := rx
  obtain ⟨mA, J1, _⟩ := ins_get I2.hok ho
  obtain ⟨od1, J1, _⟩ := J1.look
  obtain ⟨m, hF⟩ := I2.fr
  exact PySem.W.sub_K hF I2.ok.mod.kin J1 hs hfn hf (wpAny_call (in1_fn (us := [.ref o, u]) (vs := [.ref o, y]) F hr passN I2 (.cons rfl (.cons ry .nil)) q)) (hsl _ _)
end
end Z
namespace Z
open PySem PySem.Spec PyProof.Rows L2
open LamX (CodeO Tabs TabS TabB ExtN GivesTo tLam lamCx lamEnv LamS lamS_by)

/-- z.upper() -/
def rUpper : V → List V → Hp → VK → Prop := fun x xs H Q => ∃ a, x = .str a ∧ xs = [] ∧ a.length ≤ 5592405 ∧ Q (.str (Txt.upper a)) H
/-! ### a thing handed in that is called: action() -/
def zAct (W : WX) (f c' : Addr) (q : Str) (tl : XK → Hp → VK → Prop) : TE := fun σ H Q => ∃ Ech : XK, (∀ cls d σ' H', Ech cls d H' → W cls d σ' H') ∧ σ[0]? = some (some (.ref f)) ∧ H c' = some (CodeO c' q) ∧ tl Ech H Q
theorem pe_zAct {Y : Cx} {W : WX} {f c' : Addr} {q a : Str} {tl : XK → Hp → VK → Prop} {p1 p2 : Pos} (h : ∀ (Ech : XK), (∀ cls d σ' H', Ech cls d H' → W cls d σ' H') → PE Y (.Call (.Name a p1) [] [] p2) (fun σZ HZ Q => σZ[0]? = some (some (.ref f)) ∧ HZ c' = some (CodeO c' q) ∧ tl Ech HZ Q)) : PE Y (.Call (.Name a p1) [] [] p2) (zAct W f c' q tl) :=
  ⟨fun pins s σ H Q I ⟨Ech, hW, h1, h2, h3⟩ => (h Ech hW).run pins s σ H Q I ⟨h1, h2, h3⟩⟩

/-! ### a def that makes lambdas: its code object is known -/
structure FunL (K : PySem.W.Frag) (x qual : Str) (st : Stmt) (f : Addr) (fd : FuncData) (c : Addr) : Prop where
  ex : ∃ (oc : Value) (od : Option Addr) (kV doc pm : Value) (an : Option Addr) (ct : Value) (osl : Array (Option Value)),
    fd = PySem.W.fnOf x qual (defArgs st) (defBody st) (defScope st) .none kV doc pm an (.ref c) ct ∧ K.lookup f = some ⟨oc, od, .func fd, osl⟩ ∧ PySem.W.codeIn K (.ref c) qual = true
section
variable {gd : Bool} {P : Program} {w : World} {K : PySem.W.Frag} {mg : Str → Option Value} {base : Heap}
theorem okL {x qual : Str} {st : Stmt} {f c : Addr} {fd : FuncData} {N ps : List Str} {k : Nat} {sp : Sp} (F : FunL K x qual st f fd c)
    (S : FnScope N ps (defScope st)) (len : ∀ vs H Q E, sp vs H Q E → vs.length = ps.length)
    (hbody : ∀ (A : Around) (outer : List Env) (s : Shared) (H : Hp) (vs : List V) (Q : VK) (E : XK),
      Room k (A.deeper (envOfC qual (defScope st) s.heap.objs.size f (.ref c))) →
      (gd = true → (A.deeper (envOfC qual (defScope st) s.heap.objs.size f (.ref c))).guards = some []) → sp vs H Q E →
      ∃ t, PSs (cxOf (L2.CX P w) P w K mg base N qual (defScope st) f (.ref c) A outer s H E) (defBody st) t ∧
        t { nx := fun _ H' => Q .non H', rt := Q } (start N vs) H) :
    FnG gd P w K mg base (k + 1) f fd ps sp := by
  obtain ⟨oc, od, kV, doc, pm, an, ct, osl, rfl, lk, hcd⟩ := F.ex
  refine ⟨len, fun A outer s H args us vs Q E hr hgu e0 hb r hsp => ?_⟩
  have hl := len _ _ _ _ hsp
  have KX : K.In s.heap := e0.mod.kin.keeps fun b o z => (e0.bs b o z).1
  have lim : s.heap.NoLimit := e0.mod.nolimit.keeps fun b o z => (e0.bs b o z).1
  have hkind : ∀ y ∈ ps.zip us, (defScope st).names.lookup y.1 = some .local ∨
      ((defScope st).names.lookup y.1 = some .cell ∧ ((cellsFrom (s.heap.objs.size + 1) (defScope st).names []).lookup y.1).isSome = true) := by
    intro y hy
    obtain ⟨n, v⟩ := y
    rcases S.par n (List.of_mem_zip hy).1 with q | q
    · exact .inl q
    · exact .inr ⟨q, PySem.W.cellsFrom_some _ _ _ (.inl q)⟩
  refine codeAny_call_function hr.depth (KX _ _ lk) rfl S.co S.gen rfl (PySem.W.codeRec_of KX hcd) (hb _ _ _ _ ?_)
  refine wpAny_newFunctionEnv_cells S.kind hkind fun env he s1 x => ?_
  subst he
  refine ⟨lim.keeps x.toInCall.keep, codeAny_func ?_⟩
  obtain ⟨t, ht, hq⟩ := hbody A outer s H vs Q E (hr.deeper _) hgu hsp
  have I := inv_start (CX := L2.CX P w) (E := E) S hr.hd e0 hl r x
  refine wpAny_mono (ht.run [] s1 (start N vs) H _ I hq) (fun fl s' hs => ?_) fun e s' hs => hs
  cases fl with
  | ret u =>
    obtain ⟨v, σ', H', J, rv, q⟩ := hs
    exact ⟨v, H', J.os, J.bare, J.base, J.hok, rv, q⟩
  | next =>
    obtain ⟨σ', H', J, q⟩ := hs
    exact ⟨V.non, H', J.os, J.bare, J.base, J.hok, rfl, q⟩
  | brk => exact False.elim hs.choose_spec.choose_spec.2
  | cont => exact False.elim hs.choose_spec.choose_spec.2
end

/-! ### x(lambda: body) -/
section
variable {X : Cx}
theorem pe_lam {T : List (Addr × Str)} {TT : (XK → Hp → VK → Prop) → Hp → VK → Prop} {x a : Str} {st : Stmt} {g c P : Addr} {fd : FuncData} {k : Nat} {Ng : List Str}
    {params : Arguments} {body : Expr} {scope : Scope} {t : XK → TE} {p lpos pos : Pos} (F : L2.Fun X.K x x st g fd) (hg : Gl X x) (hm : X.mg x = some (.ref g)) (hk : PySem.W.keepIn X.K (.ref g) = true)
    (hb : Binds X.K fd [a] []) (Sg : FnScope Ng [a] (defScope st)) (hNg : Ng[0]? = some a) (hva : Vis (defScope st) a)
    (hG : ∀ cdv, GivesTo X Ng x (defScope st) g cdv (defBody st) a (X.env.qual ++ "<lambda>") TT)
    (TB : TabB X.base X.mg c P) (hcode : X.env.code = .ref c) (hmT : (P, X.env.qual ++ "<lambda>") ∈ T) (hu : ∀ p ∈ T, p.1 = P → p.2 = X.env.qual ++ "<lambda>") (hr : Room (k + 2) X.A) (L : LamS X.env.scope scope) (hdef : defaultsOf params X.env = ([], []))
    (hbind : ∀ (q : Str) (cl : List (Str × Addr)) (pm cv ctv : Value), bindArgs (PySem.W.kla_fn "<lambda>" q params body scope cl pm cv ctv) ⟨[], []⟩ = pure [])
    (hbody : ∀ (A : Around) (outer : List Env) (s : Shared) (H : Hp) (E : XK) (f c' : Addr), Room k (A.deeper (lamEnv X scope s.heap.objs.size f c')) → PE (lamCx X A outer s H E scope f c') body (t E))
    (hdb : (x == ("__debug__" : Str)) = false := by decide) (hd : (a == ("__debug__" : Str)) = false := by decide) (hcd : (a == ("__classdict__" : Str)) = false := by decide) :
    PE X (.Call (.Name x p) [.Lambda params body scope lpos] [] pos) (tLam T TT t) := by
  obtain ⟨oc, od, kV, doc, pm, an, cdv, ct, osl, rfl, lk, hcd2⟩ := F.ex
  exact LamX.pe_lamcall hg hm hk lk hcd2 hb Sg hNg hva (hG cdv) TB hcode hmT hu hr L hdef hbind hbody hdb hd hcd
end

/-! ### the end of a law whose def makes lambdas -/
def spLawT (P : Addr) (K : PySem.W.Frag) : Sp := fun vs H Q E => ∃ (a : Addr) (ns : List Int), vs = [.ref a] ∧ SqL K H a (ns.map V.int) ∧ ns.length ≤ 63 ∧ H P = some (.tbl #[]) ∧ ∀ H', Q (.bl true) H'
theorem law_walkT {l : PySem.W.OpenLaw} {k : Nat} {q : Program} {loose : List Str} {XP : (Str → Option Value) → Heap → Prop} {YP : World → Heap → Prop} {d : DefRec} {K : Params → PySem.W.Frag} (hn : l.most = some 63) (hdf : d.params.defaults = []) (hr : Room k callerA)
    (hY : ∀ (w : World) (h : Heap), YP w h → (K w.params).In h)
    (F : ∀ (w : World) (mg : Str → Option Value) (fa : Addr) (h : Heap), YP w h → (K w.params).In h → h.Ns mainGlobals mg → mg d.name = some (.ref fa) →
      ∃ (fd : FuncData) (c P : Addr), h.get? P = some { cls := .none, data := .fields #[] } ∧ (K w.params).lookup P = none ∧ PySem.W.CodeHd h c P ∧ (∀ (s : Shared) (u : Value), BindsTo s fd ⟨[u], []⟩ [("script", u)]) ∧
        ∀ base : Heap, (K w.params).In base → base.Ns mainGlobals mg → TabB base mg c P → FnG false l.prog w (K w.params) mg base k fa fd ["script"] (spLawT P (K w.params))) :
    PySem.W.WalkO q loose XP YP l.row.toRowW d [] (fun f vs => PySem.call f vs) := by
  refine LamX.walk_ofTs (n := 63) (k := k) (x := "script") (CX := fun w => L2.CX l.prog w) hn (by decide) hdf hr hY (fun w mg fa h Y KX N hm => ?_) ?_
  · obtain ⟨fd, c, P, h1, h2, h3, hb, hF⟩ := F w mg fa h Y KX N hm
    refine ⟨fd, [(c, P)], spLawT P (K w.params), ?_, ?_, ?_, hb, fun H a ns hl _ hT hS => ⟨a, ns, rfl, hS, hl, hT (c, P) (by simp), fun _ => rfl⟩, fun base KB NB hTB => (hF base KB NB (hTB (c, P) (by simp))).ok⟩
    · intro p hp
      obtain rfl : p = (c, P) := by simpa using hp
      exact h1
    · intro p hp
      obtain rfl : p = (c, P) := by simpa using hp
      exact h2
    · intro p hp
      obtain rfl : p = (c, P) := by simpa using hp
      exact h3
  · intro w H s e s' h
    obtain ⟨_, _, _, _, _, _, _, _, _, _, _, _, z⟩ := h
    exact z
end Z
namespace Z
open PySem PySem.Spec PyProof.Rows L2
/-- {k: v}, k a tuple of ints and texts -/
def tDispT (tk tv : TE) : TE := fun σ H Q => ∀ p, H p = none → tk σ (upd H p (.dT [])) fun x H1 => tv σ H1 fun y H2 => ∃ (b : Addr) (ks : List Key), x = .ref b ∧ H2 b = some (.tup (ks.map kV)) ∧ H2 p = some (.dT []) ∧ Q (.ref p) (upd H2 p (.dT [(ks, y)]))
theorem pe_dispT {X : Cx} {pos : Pos} {k v : Expr} {tk tv : TE} (hu : X.A.units + 1 < cLine) (hk : PE X k tk) (hv : PE X v tv) : PE X (.Dict [some k] [v] pos) (tDispT tk tv) := by
  refine ⟨fun pins s σ H Q I q => ?_⟩
  have hn := I.hok.fresh (Nat.le_refl s.heap.objs.size)
  have I1 := I.laid (a := s.heap.objs.size) (o := .dT []) (h' := s.heap.push { cls := .type "dict", data := .dict #[] }) (t' := s.toks) (fun _ _ q => Heap.get?_push_of_some _ q) (Nat.le_refl _) (dt_empty s.heap I.big)
  have hsh := zip_pairTrees [some k] [v] X.env pos (by rfl) (by rfl)
  rw [arm_eval_Dict, hsh, dictDisplay_pairs (pairTrees [some k] [v] X.env pos) (by intro z; cases z) (show 1 < 17 by decide)]
  refine wpAny_bind (wpAny_standAt (wpAny_bind (wpAny_subDictH (knd := tupleKind (mixKind X.prog X.w)) (Q := fun d s' => wpAny (model X.prog X.w) X.A (pure (Value.ref d)) (EP X pins σ Q) X.xe s') (show X.A.units < cLine by omega) (show 1 ≤ 15 by decide) ?_)))
  refine pairTrees_cons_walk (thn (hk.run pins _ σ _ _ I1 (q _ hn)) fun u s1 ⟨x, H1, J1, rx, q1⟩ => thn (hv.run pins s1 σ H1 _ J1 q1) fun w2 s2 ⟨y, H2, J2, ry, b, ks, ex, eb, e, q2⟩ => pairTrees_nil_walk ?_)
  subst ex
  obtain rfl : u = Value.ref b := rx
  obtain ⟨z, hd, xs, rel, dd⟩ := dt_of J2.hok e
  cases rel
  refine ⟨[(ks, b, w2)], ⟨rfl, rfl, key_of J2.hok eb, trivial⟩, dd, fun h' tk' dd' hs => ?_⟩
  refine wpAny_pure ⟨.ref s.heap.objs.size, _, ?_, rfl, q2⟩
  obtain ⟨o, es, ep, ho, h2, h3, h4, _, h5⟩ := dd'
  refine d_write J2 (by rw [e]; exact True.intro) hs ⟨o, ho⟩ ⟨by show 1 ≤ sizeLine; decide, hd, _, .cons ⟨rfl, ?_, ry⟩ .nil, o, es, ep, ho, h2, h3, h4, h5⟩
  rw [upd_ne (ne_of eb e (fun z => nomatch z))]
  exact eb
/-- the slots are as many as the names -/
def zGuard (n : Nat) (ts : TS) : TS := fun D σ H => σ.length = n → ts D σ H
theorem pss_guard {X : Cx} {ss : List Stmt} {ts : TS} {n : Nat} (hn : X.N.length = n) (h : PSs X ss ts) : PSs X ss (zGuard n ts) :=
  ⟨fun pins s σ H D I q => h.run pins s σ H D I (q (I.len.trans hn))⟩
end Z
namespace Z
open PySem PySem.Spec PyProof.Rows L2
/-! ### min(xs), a list of texts, one at least -/
theorem strs_at : ∀ {ns : List Str} {us : List Value}, Vals (ns.map V.str) us → ∀ {i : Nat} {v : Value}, us[i]? = some v → i < ns.length ∧ ∃ t, v = Value.str (ns.getD i "") t
  | [], us, h, i, v, e => by
    cases h
    simp at e
  | n :: ns, us, h, i, v, e => by
    rw [List.map_cons] at h
    cases h with
    | cons r t =>
      cases i with
      | zero =>
        cases e
        obtain ⟨t, rfl⟩ := r
        exact ⟨Nat.succ_pos _, t, rfl⟩
      | succ j =>
        obtain ⟨h1, t', h2⟩ := strs_at t (i := j) (by simpa using e)
        exact ⟨Nat.succ_lt_succ h1, t', by simpa using h2⟩
theorem cmpOf_strs {prog : Program} {w : World} {A : Around} {P : Nat → Value → Prop} (val : Nat → Str) (hval : ∀ i v, P i v → ∃ t, v = .str (val i) t) :
    CmpOf prog w A .Lt P (fun i j => decide ((val i).cps.toList < (val j).cps.toList)) := fun i j vi vj s Q E hi hj h => by
  obtain ⟨t, rfl⟩ := hval i vi hi
  obtain ⟨u, rfl⟩ := hval j vj hj
  exact richCompare_gives (op := .Lt) (typeIs_str s _ t) (typeIs_str s _ u) F.slot_str_lt F.entry_str_lt (F.args_str_lt_2 _ _) (gives_str_lt _ _ t u) (fun x => nomatch x) h
theorem argBest_str (f : Nat → List Nat) : ∀ k, argBest (fun i j => decide (f i < f j)) k ≤ k ∧ ∀ j, j ≤ k → ¬ f j < f (argBest (fun i j => decide (f i < f j)) k)
  | 0 => ⟨Nat.le_refl _, fun j hj => by
    obtain rfl : j = 0 := by omega
    exact List.lt_irrefl _⟩
  | k + 1 => by
    obtain ⟨h1, h2⟩ := argBest_str f k
    simp only [argBest]
    by_cases hc : f (k + 1) < f (argBest (fun i j => decide (f i < f j)) k)
    · rw [if_pos (by simpa using hc)]
      refine ⟨Nat.le_refl _, fun j hj => ?_⟩
      by_cases e : j = k + 1
      · rw [e]
        exact List.lt_irrefl _
      · exact fun z => h2 j (by omega) (List.lt_trans z hc)
    · rw [if_neg (by simpa using hc)]
      refine ⟨by omega, fun j hj => ?_⟩
      by_cases e : j = k + 1
      · rw [e]
        exact hc
      · exact h2 j (by omega)
def rMinS (K : PySem.W.Frag) : List V → Hp → VK → Prop := fun vs H Q => ∃ (p : Addr) (ns : List Str), vs = [.ref p] ∧ SqL K H p (ns.map V.str) ∧ ns ≠ [] ∧ ∀ z, z ∈ ns → (∀ y ∈ ns, ¬ y.cps.toList < z.cps.toList) → Q (.str z) H
theorem call_minS {X : Cx} (hc : X.calm = true) : CallR X (.builtin "min") (rMinS X.K) := by
  intro pins s σ H vs us Q I r h
  obtain ⟨p, ns, rfl, hs, hne, q⟩ := h
  obtain ⟨its, rv, hl, _⟩ := I.list hs
  rw [Vals.ref1 r]
  have hl0 : its.length = ns.length := by
    have := rv.length
    rw [List.length_map] at this
    exact this.symm
  have hpos : 0 < ns.length := List.length_pos_iff.mpr hne
  refine call_min_walk (iter_anyList hl.isList fun s₂ e st hfp hlI => ?_)
  subst e
  refine ⟨_, _, _, _, _, _, _, rfl, Walks.list (A := X.A.in1) (I.ok.hd hc) _ _ hlI its.toArray, st, hfp, ?_, cmpOf_strs (fun i => ns.getD i "") (fun i v hP => (strs_at rv (by simpa using hP)).2), fun v h' tk hP hk => ?_⟩
  · rw [List.size_toArray, hl0]
    exact hpos
  · obtain ⟨h1, t, rfl⟩ := strs_at rv (i := argBest (fun i j => decide ((ns.getD i "").cps.toList < (ns.getD j "").cps.toList)) (its.toArray.size - 1)) (by simpa using hP)
    obtain ⟨b1, b2⟩ := argBest_str (fun i => (ns.getD i "").cps.toList) (its.toArray.size - 1)
    refine ⟨.str _, H, I.kept (t' := tk) (PySem.old_kept hk), ⟨t, rfl⟩, q _ ?_ fun y hy => ?_⟩
    · rw [List.getD_eq_getElem?_getD, List.getElem?_eq_getElem h1]
      exact List.getElem_mem h1
    · obtain ⟨k, hk', e⟩ := List.mem_iff_getElem.mp hy
      have e2 : ns.getD k "" = y := by
        rw [List.getD_eq_getElem?_getD, List.getElem?_eq_getElem hk', ← e]
        rfl
      rw [← e2]
      exact b2 k (by rw [List.size_toArray, hl0]; omega)
end Z
namespace Z
open PySem PySem.Spec PyProof.Rows L2
open PySem.SeqAt PySem.MeetsSeq PySem.MeetsSeq2 PySem.MeetsSeq3 PySem.SeqRoads2
open PySem.W (Looks)
section
variable {X : Cx}
/-! ### != of tuples whose items are alike one by one -/
def rNeTI (K : PySem.W.Frag) : R2 := fun x y H Q => ∃ (a b : Addr) (xs : List V), x = .ref a ∧ y = .ref b ∧ SqT K H a xs ∧ SqT K H b xs ∧ (∀ v ∈ xs, SmV v) ∧ Q (.bl false) H
theorem op_neTI (hu : X.A.units + 64 < cLine) : OpR X (compareOp .NotEq) (rNeTI X.K) := by
  intro pins s σ H x y v u Q I rx ry h
  obtain ⟨a, b, xs, rfl, rfl, ha, hb, hs, q⟩ := h
  obtain rfl : v = Value.ref a := rx
  obtain rfl : u = Value.ref b := ry
  obtain ⟨i1, r1, p1, _⟩ := I.tuple ha
  obtain ⟨i2, r2, p2, _⟩ := I.tuple hb
  have rc := RcNeAt.tuples (A := X.A) (e := fun _ => true) (isTup_tuple p1) (isTup_tuple p2) (show X.A.units < cLine by omega) fun j h1 h2 => by
    have h1' : j < i1.length := by simpa using h1
    have hj : j < xs.length := by rw [r1.length]; exact h1'
    obtain ⟨u1, e1, q1⟩ := r1.get (List.getElem?_eq_getElem hj)
    obtain ⟨u2, e2, q2⟩ := r2.get (List.getElem?_eq_getElem hj)
    have z1 : i1.toArray[j] = u1 := by
      have := (List.getElem?_eq_some_iff.mp e1).2
      simpa using this
    have z2 : i2.toArray[j] = u2 := by
      have := (List.getElem?_eq_some_iff.mp e2).2
      simpa using this
    rw [z1, z2]
    exact smV_eq (hs _ (List.getElem_mem hj)) q1 q2
  have e : (((List.range (min i1.toArray.size i2.toArray.size)).all fun _ => true) && i1.toArray.size == i2.toArray.size) = true := by
    have := r1.length
    have := r2.length
    simp
    omega
  rw [e] at rc
  exact rc X.prog X.w X.xe _ ⟨.bl false, H, I, rfl, q⟩
def zNeT (K : PySem.W.Frag) : R2 := fun x y H Q => rNeTI K x y H Q ∨ zNe K x y H Q
theorem op_zNeT (hu : X.A.units + 64 < cLine) : OpR X (compareOp .NotEq) (zNeT X.K) := (op_neTI hu).or (op_zNe hu)
/-! ### o[i] of an own class that may raise -/
variable {n : Nat} {f C : Addr} {sp : Sp}
theorem in1_fnE {k : Nat} {pins : List (Addr × Obj)} {σ : St} {H : Hp} {s : Shared} {Q : VK} {us : List Value} {vs : List V} {E : XK} (F : FnR X.prog X.w X.K X.mg X.base (L2.CX X.prog X.w) k f sp) (hr : Room (k + 1) X.A) (hx : PassesAt (L2.CX X.prog X.w) X σ E) (I : Inv X pins σ H s) (r : Vals vs us) (h : sp vs H Q E) :
    codeAny (model X.prog X.w) X.A.in1 (.call (.ref f) ⟨us, []⟩) (fun r s' => match r with | .ok (.ret v) => EP X pins σ Q v s' | .ok _ => False | .error e => X.xe e s') s := by
  have e := I.env0
  have e0 : Env0 X.prog X.w X.K X.mg X.base X.A.in1 X.stack s H := ⟨e.frames, e.mod, e.bs, e.bsz, e.funs, e.frf, e.hok, e.bare⟩
  refine codeAny_mono (F X.A.in1 X.stack s H us vs Q E hr.in1 e0 r h) fun r s' hq => ?_
  cases r with
  | error e => exact hx pins H s e s' I hq
  | ok fl =>
    cases fl with
    | ret u => exact I.after hq
    | next => exact False.elim hq
    | brk => exact False.elim hq
    | cont => exact False.elim hq
def zIxE (C : Addr) (sp : Sp) (E : St → XK) (ta tb : TE) : TE := fun σ H Q => ta σ H fun x H1 => tb σ H1 fun y H2 => ∃ a dx fs, x = .ref a ∧ H2 a = some (.ins C dx fs) ∧ sp [x, y] H2 Q (E σ)
theorem pe_ixE {a b : Expr} {ta tb : TE} {pos : Pos} {E : St → XK} (F : FnR X.prog X.w X.K X.mg X.base (L2.CX X.prog X.w) n f sp) (hs : PySem.W.findIn X.K (.ref C) "__getitem__" = some (some (.ref f))) (hfn : PySem.W.fnIn X.K f = true) (hf : PySem.W.isFn X.K (.ref f) = true) (hr : Room (n + 1) X.A) (hx : ∀ σ, PassesAt (L2.CX X.prog X.w) X σ (E σ))
    (ha : PE X a ta) (hb : PE X b tb) (hsl : ∀ o i, subscripted b true o i = runValue (.builtin "lifetime.subscript" ⟨[o, i], []⟩)) : PE X (.Subscript a b pos) (zIxE C sp E ta tb) := by
  refine ⟨fun pins s σ H Q I h => ?_⟩
  refine Subscript_ (binT ha hb I h fun v u s2 x y H2 I2 rx ry q => ?_)
  obtain ⟨o, dx, fs, rfl, ho, q⟩ := q
  obtain rfl : v = Value.ref o := rx
  obtain ⟨mA, J1, _⟩ := ins_get I2.hok ho
  obtain ⟨od1, J1, _⟩ := J1.look
  obtain ⟨m, hF⟩ := I2.fr
  exact PySem.W.sub_K hF I2.ok.mod.kin J1 hs hfn hf (wpAny_call (in1_fnE (us := [.ref o, u]) (vs := [.ref o, y]) F hr (hx σ) I2 (.cons rfl (.cons ry .nil)) q)) (hsl _ _)
end
end Z
namespace Z
open PySem PySem.Spec PyProof.Rows L2
open PySem.SeqAt PySem.MeetsSeq PySem.MeetsSeq2 PySem.MeetsSeq3 PySem.SeqRoads2
open PySem.W (Looks)
section
variable {X : Cx}
/-! ### == [] and != [] of lists of anything -/
def rEqE (K : PySem.W.Frag) (neg : Bool) : R2 := fun x y H Q => ∃ (a b : Addr) (xs : List V), x = .ref a ∧ y = .ref b ∧ SqL K H a xs ∧ SqL K H b [] ∧ Q (.bl (xs.isEmpty != neg)) H
theorem op_eqE (hu : X.A.units + 64 < cLine) : OpR X (compareOp .Eq) (rEqE X.K false) := by
  intro pins s σ H x y v u Q I rx ry h
  obtain ⟨a, b, xs, rfl, rfl, ha, hb, q⟩ := h
  obtain rfl : v = Value.ref a := rx
  obtain rfl : u = Value.ref b := ry
  obtain ⟨i1, r1, p1, _⟩ := I.list ha
  obtain ⟨i2, r2, p2, _⟩ := I.list hb
  have l1 := r1.length
  have l2 := r2.length
  cases xs with
  | nil =>
    have rc := RcAt.lists (A := X.A) (e := fun _ => true) p1.isList p2.isList (by simp only [List.size_toArray]; omega) (show X.A.units < cLine by omega) fun j h1 h2 => absurd h1 (by simp at l1; simp [← l1])
    have e : ((List.range i1.toArray.size).all fun _ => true) = true := by simp
    rw [e] at rc
    exact rc X.prog X.w X.xe _ ⟨.bl true, H, I, rfl, q⟩
  | cons x r =>
    have rc := RcAt.lists_lengths (A := X.A) p1.isList p2.isList (by simp at l1 l2 ⊢; omega) (show X.A.units < cLine by omega)
    exact rc X.prog X.w X.xe _ ⟨.bl false, H, I, rfl, q⟩
theorem op_neE (hu : X.A.units + 64 < cLine) : OpR X (compareOp .NotEq) (rEqE X.K true) := by
  intro pins s σ H x y v u Q I rx ry h
  obtain ⟨a, b, xs, rfl, rfl, ha, hb, q⟩ := h
  obtain rfl : v = Value.ref a := rx
  obtain rfl : u = Value.ref b := ry
  obtain ⟨i1, r1, p1, _⟩ := I.list ha
  obtain ⟨i2, r2, p2, _⟩ := I.list hb
  have l1 := r1.length
  have l2 := r2.length
  cases xs with
  | nil =>
    have rc := RcNeAt.lists (A := X.A) (e := fun _ => true) p1.isList p2.isList (by simp only [List.size_toArray]; omega) (show X.A.units < cLine by omega) fun j h1 h2 => absurd h1 (by simp at l1; simp [← l1])
    have e : ((List.range i1.toArray.size).all fun _ => true) = true := by simp
    rw [e] at rc
    exact rc X.prog X.w X.xe _ ⟨.bl false, H, I, rfl, q⟩
  | cons x r =>
    have rc := RcNeAt.lists_lengths (A := X.A) p1.isList p2.isList (by simp at l1 l2 ⊢; omega) (show X.A.units < cLine by omega)
    exact rc X.prog X.w X.xe _ ⟨.bl true, H, I, rfl, q⟩
/-- all of them: == [] first, then tuples alike, dicts, lists alike, data -/
def zEqE (K : PySem.W.Frag) : R2 := fun x y H Q => rEqE K false x y H Q ∨ zEqJ K x y H Q
def zNeE (K : PySem.W.Frag) : R2 := fun x y H Q => rEqE K true x y H Q ∨ rNeTI K x y H Q ∨ zNeJ K x y H Q
theorem op_zEqE (hu : X.A.units + 64 < cLine) : OpR X (compareOp .Eq) (zEqE X.K) := (op_eqE hu).or (op_zEqJ hu)
theorem op_zNeE (hu : X.A.units + 64 < cLine) : OpR X (compareOp .NotEq) (zNeE X.K) := (op_neE hu).or ((op_neTI hu).or (op_zNeJ hu))
end
end Z
namespace Z
open PySem PySem.Spec PyProof.Rows L2
open LamX (CodeO Tabs TabS TabB ExtN GivesTo tLam lamCx lamEnv LamS lamS_by)
def top (i : Nat) : Stmt := PySem.Challenge.pw_falsedefaults_k34_twins_made.main.body.getD i (.Pass ⟨0, 0, 0, 0⟩)
abbrev s_BadName_init : Stmt := inClass (top 2) 0
abbrev s_BadFail_init : Stmt := inClass (top 6) 0
abbrev s_Twice_init : Stmt := inClass (top 7) 0
abbrev s_NoPlace_init : Stmt := inClass (top 11) 0
abbrev s_TooMany_init : Stmt := inClass (top 15) 0
abbrev s_is_name : Stmt := top 21
abbrev s_is_int : Stmt := top 22
abbrev s_check_name : Stmt := top 23
abbrev s_is_fail : Stmt := top 41
abbrev s_check_fails : Stmt := top 42
abbrev s_copied : Stmt := top 43
abbrev s_Stand_init : Stmt := inClass (top 45) 0
abbrev s_Stand_held : Stmt := inClass (top 45) 1
abbrev s_Stand_eq : Stmt := inClass (top 45) 5
abbrev s_Call_init : Stmt := inClass (top 46) 0
abbrev s_History_init : Stmt := inClass (top 55) 0
abbrev s_History_made : Stmt := inClass (top 55) 1
abbrev s_Twin_init : Stmt := inClass (top 57) 0
abbrev s_check_unlike : Stmt := top 62
abbrev s_Service_init : Stmt := inClass (top 65) 0
abbrev s_Service_made : Stmt := inClass (top 65) 1
abbrev s_Service_eq : Stmt := inClass (top 65) 2
abbrev s_Service_parts : Stmt := inClass (top 65) 3
abbrev s_Service_all_operands : Stmt := inClass (top 65) 4
abbrev s_law_digits : Stmt := top 67
abbrev s_law_draw : Stmt := top 68
abbrev s_law_choice : Stmt := top 69
abbrev s_law_drawn_name : Stmt := top 70
abbrev s_law_drawn_names : Stmt := top 71
abbrev s_law_value : Stmt := top 72
abbrev s_law_count : Stmt := top 73
abbrev s_law_drawn_places : Stmt := top 74
abbrev s_law_same : Stmt := top 75
abbrev s_law_error : Stmt := top 76
abbrev s_law_is_begun : Stmt := top 77
abbrev s_law_are_histories : Stmt := top 78
abbrev s_law : Stmt := top 79
structure Ads where
  f_BadName_init : Addr
  d_BadName_init : FuncData
  f_BadFail_init : Addr
  d_BadFail_init : FuncData
  f_Twice_init : Addr
  d_Twice_init : FuncData
  f_NoPlace_init : Addr
  d_NoPlace_init : FuncData
  f_TooMany_init : Addr
  d_TooMany_init : FuncData
  f_is_name : Addr
  d_is_name : FuncData
  f_is_int : Addr
  d_is_int : FuncData
  f_check_name : Addr
  d_check_name : FuncData
  f_is_fail : Addr
  d_is_fail : FuncData
  f_check_fails : Addr
  d_check_fails : FuncData
  f_copied : Addr
  d_copied : FuncData
  f_Stand_init : Addr
  d_Stand_init : FuncData
  f_Stand_held : Addr
  d_Stand_held : FuncData
  f_Stand_eq : Addr
  d_Stand_eq : FuncData
  f_Call_init : Addr
  d_Call_init : FuncData
  f_History_init : Addr
  d_History_init : FuncData
  f_History_made : Addr
  d_History_made : FuncData
  f_Twin_init : Addr
  d_Twin_init : FuncData
  f_check_unlike : Addr
  d_check_unlike : FuncData
  f_Service_init : Addr
  d_Service_init : FuncData
  f_Service_made : Addr
  d_Service_made : FuncData
  f_Service_eq : Addr
  d_Service_eq : FuncData
  f_Service_parts : Addr
  d_Service_parts : FuncData
  f_Service_all_operands : Addr
  d_Service_all_operands : FuncData
  f_law_digits : Addr
  d_law_digits : FuncData
  f_law_draw : Addr
  d_law_draw : FuncData
  f_law_choice : Addr
  d_law_choice : FuncData
  f_law_drawn_name : Addr
  d_law_drawn_name : FuncData
  f_law_drawn_names : Addr
  d_law_drawn_names : FuncData
  f_law_value : Addr
  d_law_value : FuncData
  f_law_count : Addr
  d_law_count : FuncData
  f_law_drawn_places : Addr
  d_law_drawn_places : FuncData
  f_law_same : Addr
  d_law_same : FuncData
  f_law_error : Addr
  d_law_error : FuncData
  f_law_is_begun : Addr
  d_law_is_begun : FuncData
  f_law_are_histories : Addr
  d_law_are_histories : FuncData
  f_law : Addr
  d_law : FuncData
  co_law : Addr
  tb_law : Addr
  c_BadName : Addr
  c_BadFail : Addr
  c_Twice : Addr
  c_NoPlace : Addr
  c_TooMany : Addr
  c_Stand : Addr
  p_Stand_held : Addr
  c_Call : Addr
  c_History : Addr
  p_History_made : Addr
  c_Twin : Addr
  c_Service : Addr
  p_Service_made : Addr
  t_Service_init_cells : Addr
  t_Service_init_sources : Addr
  t_Service_init_slots : Addr
  t_Service_init_fields : Addr
  t_Call_init_fails : Addr
structure Txt (K : PySem.W.Frag) (mg : Str → Option Value) (g : Ads) : Prop where
  f_BadName_init : Fun K "__init__" "BadName.__init__" s_BadName_init g.f_BadName_init g.d_BadName_init
  e_BadName_init : Binds K g.d_BadName_init ["self", "name"] []
  f_BadFail_init : Fun K "__init__" "BadFail.__init__" s_BadFail_init g.f_BadFail_init g.d_BadFail_init
  e_BadFail_init : Binds K g.d_BadFail_init ["self", "index"] []
  f_Twice_init : Fun K "__init__" "Twice.__init__" s_Twice_init g.f_Twice_init g.d_Twice_init
  e_Twice_init : Binds K g.d_Twice_init ["self", "name"] []
  f_NoPlace_init : Fun K "__init__" "NoPlace.__init__" s_NoPlace_init g.f_NoPlace_init g.d_NoPlace_init
  e_NoPlace_init : Binds K g.d_NoPlace_init ["self", "name"] []
  f_TooMany_init : Fun K "__init__" "TooMany.__init__" s_TooMany_init g.f_TooMany_init g.d_TooMany_init
  e_TooMany_init : Binds K g.d_TooMany_init ["self", "limit"] []
  f_is_name : Fun K "is_name" "is_name" s_is_name g.f_is_name g.d_is_name
  e_is_name : Binds K g.d_is_name ["thing"] []
  g_is_name : mg "is_name" = some (.ref g.f_is_name)
  k_is_name : PySem.W.keepIn K (.ref g.f_is_name) = true
  f_is_int : Fun K "is_int" "is_int" s_is_int g.f_is_int g.d_is_int
  e_is_int : Binds K g.d_is_int ["thing"] []
  g_is_int : mg "is_int" = some (.ref g.f_is_int)
  k_is_int : PySem.W.keepIn K (.ref g.f_is_int) = true
  f_check_name : Fun K "check_name" "check_name" s_check_name g.f_check_name g.d_check_name
  e_check_name : Binds K g.d_check_name ["thing"] []
  g_check_name : mg "check_name" = some (.ref g.f_check_name)
  k_check_name : PySem.W.keepIn K (.ref g.f_check_name) = true
  f_is_fail : Fun K "is_fail" "is_fail" s_is_fail g.f_is_fail g.d_is_fail
  e_is_fail : Binds K g.d_is_fail ["thing"] []
  g_is_fail : mg "is_fail" = some (.ref g.f_is_fail)
  k_is_fail : PySem.W.keepIn K (.ref g.f_is_fail) = true
  f_check_fails : Fun K "check_fails" "check_fails" s_check_fails g.f_check_fails g.d_check_fails
  e_check_fails : Binds K g.d_check_fails ["fails"] []
  g_check_fails : mg "check_fails" = some (.ref g.f_check_fails)
  k_check_fails : PySem.W.keepIn K (.ref g.f_check_fails) = true
  f_copied : Fun K "copied" "copied" s_copied g.f_copied g.d_copied
  e_copied : Binds K g.d_copied ["table"] []
  g_copied : mg "copied" = some (.ref g.f_copied)
  k_copied : PySem.W.keepIn K (.ref g.f_copied) = true
  f_Stand_init : FunA K "__init__" "Stand.__init__" s_Stand_init g.f_Stand_init g.d_Stand_init
  e_Stand_init : Binds K g.d_Stand_init ["self", "service", "held"] [.none]
  ef_Stand_init : Binds K g.d_Stand_init ["self", "service", "held"] []
  f_Stand_held : Fun K "held" "Stand.held" s_Stand_held g.f_Stand_held g.d_Stand_held
  e_Stand_held : Binds K g.d_Stand_held ["self"] []
  f_Stand_eq : Fun K "__eq__" "Stand.__eq__" s_Stand_eq g.f_Stand_eq g.d_Stand_eq
  e_Stand_eq : Binds K g.d_Stand_eq ["self", "other"] []
  f_Call_init : Fun K "__init__" "Call.__init__" s_Call_init g.f_Call_init g.d_Call_init
  kt_Call_init_fails : ∀ H, SqT K H g.t_Call_init_fails []
  kz_0 : KBn K g.d_Call_init ["self", "handler", "typed", "fails", "sources", "functions", "tests"] 2 [] (fun us _ => us ++ [.none, .ref g.t_Call_init_fails, .none, .none, .none]) (fun us _ => us ++ [.non, .ref g.t_Call_init_fails, .non, .non, .non])
  f_History_init : Fun K "__init__" "History.__init__" s_History_init g.f_History_init g.d_History_init
  f_History_made : Fun K "made" "History.made" s_History_made g.f_History_made g.d_History_made
  e_History_made : Binds K g.d_History_made ["cls", "start", "calls"] []
  f_Twin_init : FunA K "__init__" "Twin.__init__" s_Twin_init g.f_Twin_init g.d_Twin_init
  e_Twin_init : Binds K g.d_Twin_init ["self", "service", "start"] [.none]
  ef_Twin_init : Binds K g.d_Twin_init ["self", "service", "start"] []
  f_check_unlike : Fun K "check_unlike" "check_unlike" s_check_unlike g.f_check_unlike g.d_check_unlike
  e_check_unlike : Binds K g.d_check_unlike ["names"] []
  g_check_unlike : mg "check_unlike" = some (.ref g.f_check_unlike)
  k_check_unlike : PySem.W.keepIn K (.ref g.f_check_unlike) = true
  f_Service_init : Fun K "__init__" "Service.__init__" s_Service_init g.f_Service_init g.d_Service_init
  kt_Service_init_cells : ∀ H, SqT K H g.t_Service_init_cells []
  kt_Service_init_sources : ∀ H, SqT K H g.t_Service_init_sources []
  kt_Service_init_slots : ∀ H, SqT K H g.t_Service_init_slots []
  kt_Service_init_fields : ∀ H, SqT K H g.t_Service_init_fields []
  sb_Service_init : SBn K g.d_Service_init ["self", "cells", "sources", "slots", "fields", "handlers"] 1 4 ["cells", "sources", "slots", "fields"] (fun ws => ws) (fun zs => zs)
  sb0_Service_init : SBn K g.d_Service_init ["self", "cells", "sources", "slots", "fields", "handlers"] 1 4 [] (fun _ => [.ref g.t_Service_init_cells, .ref g.t_Service_init_sources, .ref g.t_Service_init_slots, .ref g.t_Service_init_fields]) (fun _ => [.ref g.t_Service_init_cells, .ref g.t_Service_init_sources, .ref g.t_Service_init_slots, .ref g.t_Service_init_fields])
  f_Service_made : Fun K "made" "Service.made" s_Service_made g.f_Service_made g.d_Service_made
  kc_0 : KBn K g.d_Service_made ["cls", "handlers", "cells", "sources", "slots", "fields"] 2 ["cells", "sources", "slots", "fields"] (fun us ws => us ++ ws) (fun us ws => us ++ ws)
  f_Service_eq : Fun K "__eq__" "Service.__eq__" s_Service_eq g.f_Service_eq g.d_Service_eq
  e_Service_eq : Binds K g.d_Service_eq ["self", "other"] []
  f_Service_parts : Fun K "parts" "Service.parts" s_Service_parts g.f_Service_parts g.d_Service_parts
  e_Service_parts : Binds K g.d_Service_parts ["self"] []
  f_Service_all_operands : Fun K "all_operands" "Service.all_operands" s_Service_all_operands g.f_Service_all_operands g.d_Service_all_operands
  e_Service_all_operands : Binds K g.d_Service_all_operands ["self"] []
  f_law_digits : Fun K "_law_digits" "_law_digits" s_law_digits g.f_law_digits g.d_law_digits
  e_law_digits : Binds K g.d_law_digits ["script", "at"] []
  g_law_digits : mg "_law_digits" = some (.ref g.f_law_digits)
  k_law_digits : PySem.W.keepIn K (.ref g.f_law_digits) = true
  f_law_draw : Fun K "_law_draw" "_law_draw" s_law_draw g.f_law_draw g.d_law_draw
  e_law_draw : Binds K g.d_law_draw ["draws", "many"] []
  g_law_draw : mg "_law_draw" = some (.ref g.f_law_draw)
  k_law_draw : PySem.W.keepIn K (.ref g.f_law_draw) = true
  f_law_choice : Fun K "_law_choice" "_law_choice" s_law_choice g.f_law_choice g.d_law_choice
  e_law_choice : Binds K g.d_law_choice ["draws", "things"] []
  g_law_choice : mg "_law_choice" = some (.ref g.f_law_choice)
  k_law_choice : PySem.W.keepIn K (.ref g.f_law_choice) = true
  f_law_drawn_name : Fun K "_law_drawn_name" "_law_drawn_name" s_law_drawn_name g.f_law_drawn_name g.d_law_drawn_name
  e_law_drawn_name : Binds K g.d_law_drawn_name ["draws"] []
  g_law_drawn_name : mg "_law_drawn_name" = some (.ref g.f_law_drawn_name)
  k_law_drawn_name : PySem.W.keepIn K (.ref g.f_law_drawn_name) = true
  f_law_drawn_names : Fun K "_law_drawn_names" "_law_drawn_names" s_law_drawn_names g.f_law_drawn_names g.d_law_drawn_names
  e_law_drawn_names : Binds K g.d_law_drawn_names ["draws", "many"] []
  g_law_drawn_names : mg "_law_drawn_names" = some (.ref g.f_law_drawn_names)
  k_law_drawn_names : PySem.W.keepIn K (.ref g.f_law_drawn_names) = true
  f_law_value : Fun K "_law_value" "_law_value" s_law_value g.f_law_value g.d_law_value
  e_law_value : Binds K g.d_law_value ["draws"] []
  g_law_value : mg "_law_value" = some (.ref g.f_law_value)
  k_law_value : PySem.W.keepIn K (.ref g.f_law_value) = true
  f_law_count : Fun K "_law_count" "_law_count" s_law_count g.f_law_count g.d_law_count
  e_law_count : Binds K g.d_law_count ["draws", "usual", "most"] []
  g_law_count : mg "_law_count" = some (.ref g.f_law_count)
  k_law_count : PySem.W.keepIn K (.ref g.f_law_count) = true
  f_law_drawn_places : Fun K "_law_drawn_places" "_law_drawn_places" s_law_drawn_places g.f_law_drawn_places g.d_law_drawn_places
  e_law_drawn_places : Binds K g.d_law_drawn_places ["draws"] []
  g_law_drawn_places : mg "_law_drawn_places" = some (.ref g.f_law_drawn_places)
  k_law_drawn_places : PySem.W.keepIn K (.ref g.f_law_drawn_places) = true
  f_law_same : Fun K "_law_same" "_law_same" s_law_same g.f_law_same g.d_law_same
  e_law_same : Binds K g.d_law_same ["one", "other"] []
  g_law_same : mg "_law_same" = some (.ref g.f_law_same)
  k_law_same : PySem.W.keepIn K (.ref g.f_law_same) = true
  f_law_error : Fun K "_law_error" "_law_error" s_law_error g.f_law_error g.d_law_error
  e_law_error : Binds K g.d_law_error ["action"] []
  g_law_error : mg "_law_error" = some (.ref g.f_law_error)
  k_law_error : PySem.W.keepIn K (.ref g.f_law_error) = true
  f_law_is_begun : Fun K "_law_is_begun" "_law_is_begun" s_law_is_begun g.f_law_is_begun g.d_law_is_begun
  e_law_is_begun : Binds K g.d_law_is_begun ["twin", "service", "due"] []
  g_law_is_begun : mg "_law_is_begun" = some (.ref g.f_law_is_begun)
  k_law_is_begun : PySem.W.keepIn K (.ref g.f_law_is_begun) = true
  f_law_are_histories : Fun K "_law_are_histories" "_law_are_histories" s_law_are_histories g.f_law_are_histories g.d_law_are_histories
  e_law_are_histories : Binds K g.d_law_are_histories ["begun", "calls"] []
  g_law_are_histories : mg "_law_are_histories" = some (.ref g.f_law_are_histories)
  k_law_are_histories : PySem.W.keepIn K (.ref g.f_law_are_histories) = true
  f_law : FunL K "law" "law" s_law g.f_law g.d_law g.co_law
  e_law : Binds K g.d_law ["script"] []
  g_law : mg "law" = some (.ref g.f_law)
  k_law : PySem.W.keepIn K (.ref g.f_law) = true
  g_BadName : mg "BadName" = some (.ref g.c_BadName)
  o_BadName : OexB K g.c_BadName
  x_BadName : XfC K g.c_BadName
  h_BadName : PySem.W.exmOne K (.ref g.c_BadName) (.ref g.c_BadName) = some true
  i_BadName : PySem.W.findIn K (.ref g.c_BadName) "__init__" = some (some (.ref g.f_BadName_init))
  t_BadName : PySem.W.typeIn K (.ref g.f_BadName_init) = some (.type "function")
  a_BadName_name : PySem.W.findIn K (.ref g.c_BadName) "name" = some none
  g_BadFail : mg "BadFail" = some (.ref g.c_BadFail)
  o_BadFail : OexB K g.c_BadFail
  x_BadFail : XfC K g.c_BadFail
  h_BadFail : PySem.W.exmOne K (.ref g.c_BadFail) (.ref g.c_BadFail) = some true
  i_BadFail : PySem.W.findIn K (.ref g.c_BadFail) "__init__" = some (some (.ref g.f_BadFail_init))
  t_BadFail : PySem.W.typeIn K (.ref g.f_BadFail_init) = some (.type "function")
  a_BadFail_index : PySem.W.findIn K (.ref g.c_BadFail) "index" = some none
  g_Twice : mg "Twice" = some (.ref g.c_Twice)
  o_Twice : OexB K g.c_Twice
  x_Twice : XfC K g.c_Twice
  h_Twice : PySem.W.exmOne K (.ref g.c_Twice) (.ref g.c_Twice) = some true
  i_Twice : PySem.W.findIn K (.ref g.c_Twice) "__init__" = some (some (.ref g.f_Twice_init))
  t_Twice : PySem.W.typeIn K (.ref g.f_Twice_init) = some (.type "function")
  a_Twice_name : PySem.W.findIn K (.ref g.c_Twice) "name" = some none
  g_NoPlace : mg "NoPlace" = some (.ref g.c_NoPlace)
  o_NoPlace : OexB K g.c_NoPlace
  x_NoPlace : XfC K g.c_NoPlace
  h_NoPlace : PySem.W.exmOne K (.ref g.c_NoPlace) (.ref g.c_NoPlace) = some true
  i_NoPlace : PySem.W.findIn K (.ref g.c_NoPlace) "__init__" = some (some (.ref g.f_NoPlace_init))
  t_NoPlace : PySem.W.typeIn K (.ref g.f_NoPlace_init) = some (.type "function")
  a_NoPlace_name : PySem.W.findIn K (.ref g.c_NoPlace) "name" = some none
  xv_NoPlace : ExT K g.c_NoPlace
  kx_NoPlace_LookupError : PySem.W.kitOne K (.ref g.c_NoPlace) (.type "LookupError") = some true
  g_TooMany : mg "TooMany" = some (.ref g.c_TooMany)
  o_TooMany : OexB K g.c_TooMany
  x_TooMany : XfC K g.c_TooMany
  h_TooMany : PySem.W.exmOne K (.ref g.c_TooMany) (.ref g.c_TooMany) = some true
  i_TooMany : PySem.W.findIn K (.ref g.c_TooMany) "__init__" = some (some (.ref g.f_TooMany_init))
  t_TooMany : PySem.W.typeIn K (.ref g.f_TooMany_init) = some (.type "function")
  a_TooMany_limit : PySem.W.findIn K (.ref g.c_TooMany) "limit" = some none
  g_Stand : mg "Stand" = some (.ref g.c_Stand)
  cl_Stand : Cls K g.c_Stand
  ci_Stand : CIns K g.c_Stand
  eq_Stand : PySem.W.findIn K (.ref g.c_Stand) "__eq__" = some (some (.ref g.f_Stand_eq))
  en_Stand : PySem.W.findIn K (.ref g.c_Stand) "__ne__" = some (some (.builtin "object.__ne__"))
  ka_Stand_NoneType : PySem.W.subIn K (.type "NoneType") (.ref g.c_Stand) = some false
  kb_Stand_NoneType : PySem.W.kitOne K (.type "NoneType") (.ref g.c_Stand) = some false
  ka_Stand_dict : PySem.W.subIn K (.type "dict") (.ref g.c_Stand) = some false
  kb_Stand_dict : PySem.W.kitOne K (.type "dict") (.ref g.c_Stand) = some false
  na_Stand_service : NoAttr K g.c_Stand "service"
  na_Stand_inside : NoAttr K g.c_Stand "inside"
  m_Stand : Mk K g.c_Stand g.f_Stand_init
  pp_Stand_held : PropOf K g.c_Stand "held" g.p_Stand_held g.f_Stand_held
  a_Stand_eq : PySem.W.findIn K (.ref g.c_Stand) "__eq__" = some (some (.ref g.f_Stand_eq))
  i_Stand_eq : PySem.W.isFn K (.ref g.f_Stand_eq) = true
  g_Call : mg "Call" = some (.ref g.c_Call)
  cl_Call : Cls K g.c_Call
  ci_Call : CIns K g.c_Call
  na_Call_handler : NoAttr K g.c_Call "handler"
  na_Call_fails : NoAttr K g.c_Call "fails"
  na_Call_typed : NoAttr K g.c_Call "typed"
  na_Call_sources : NoAttr K g.c_Call "sources"
  na_Call_functions : NoAttr K g.c_Call "functions"
  na_Call_tests : NoAttr K g.c_Call "tests"
  m_Call : Mk K g.c_Call g.f_Call_init
  g_History : mg "History" = some (.ref g.c_History)
  cl_History : Cls K g.c_History
  ci_History : CIns K g.c_History
  na_History_start : NoAttr K g.c_History "start"
  na_History_calls : NoAttr K g.c_History "calls"
  m_History : Mk K g.c_History g.f_History_init
  cm_History_made : ClX.CMet K g.c_History (.type "type") "made" g.p_History_made g.f_History_made
  cr_History : ClX.CRead K g.c_History (.type "type")
  g_Twin : mg "Twin" = some (.ref g.c_Twin)
  cl_Twin : Cls K g.c_Twin
  ci_Twin : CIns K g.c_Twin
  na_Twin_service : NoAttr K g.c_Twin "service"
  na_Twin_failing : NoAttr K g.c_Twin "failing"
  na_Twin_clean : NoAttr K g.c_Twin "clean"
  na_Twin_many : NoAttr K g.c_Twin "many"
  na_Twin_apart : NoAttr K g.c_Twin "apart"
  m_Twin : Mk K g.c_Twin g.f_Twin_init
  g_Service : mg "Service" = some (.ref g.c_Service)
  cl_Service : Cls K g.c_Service
  ci_Service : CIns K g.c_Service
  eq_Service : PySem.W.findIn K (.ref g.c_Service) "__eq__" = some (some (.ref g.f_Service_eq))
  en_Service : PySem.W.findIn K (.ref g.c_Service) "__ne__" = some (some (.builtin "object.__ne__"))
  na_Service_handlers : NoAttr K g.c_Service "handlers"
  na_Service_cells : NoAttr K g.c_Service "cells"
  na_Service_sources : NoAttr K g.c_Service "sources"
  na_Service_slots : NoAttr K g.c_Service "slots"
  na_Service_fields : NoAttr K g.c_Service "fields"
  na_Service_places : NoAttr K g.c_Service "places"
  na_Service_constants : NoAttr K g.c_Service "constants"
  m_Service : Mk K g.c_Service g.f_Service_init
  cm_Service_made : ClX.CMet K g.c_Service (.type "type") "made" g.p_Service_made g.f_Service_made
  a_Service_eq : PySem.W.findIn K (.ref g.c_Service) "__eq__" = some (some (.ref g.f_Service_eq))
  i_Service_eq : PySem.W.isFn K (.ref g.f_Service_eq) = true
  a_Service_parts : PySem.W.findIn K (.ref g.c_Service) "parts" = some (some (.ref g.f_Service_parts))
  i_Service_parts : PySem.W.isFn K (.ref g.f_Service_parts) = true
  a_Service_all_operands : PySem.W.findIn K (.ref g.c_Service) "all_operands" = some (some (.ref g.f_Service_all_operands))
  i_Service_all_operands : PySem.W.isFn K (.ref g.f_Service_all_operands) = true
  cr_Service : ClX.CRead K g.c_Service (.type "type")
  n_LETTERS : ∃ t, mg "LETTERS" = some (.str "abcdefghijklmnopqrstuvwxyz" t)
  n_MOST_SIGNS : ∃ t, mg "MOST_SIGNS" = some (.int 8 t)
  n_MOST_OPERANDS : ∃ t, mg "MOST_OPERANDS" = some (.int 3 t)
  n_BEYOND : ∃ t, mg "BEYOND" = some (.int 100000000000000000000 t)
  n_MOST_CELLS : ∃ t, mg "MOST_CELLS" = some (.int 6 t)
  n_MOST_OTHERS : ∃ t, mg "MOST_OTHERS" = some (.int 4 t)
  n_MOST_HANDLERS : ∃ t, mg "MOST_HANDLERS" = some (.int 6 t)
  b_LookupError : mg "LookupError" = none
  b_OverflowError : mg "OverflowError" = none
  b_RuntimeError : mg "RuntimeError" = none
  b_TypeError : mg "TypeError" = none
  b_ValueError : mg "ValueError" = none
  b_abs : mg "abs" = none
  b_all : mg "all" = none
  b_bool : mg "bool" = none
  b_dict : mg "dict" = none
  b_enumerate : mg "enumerate" = none
  b_int : mg "int" = none
  b_isinstance : mg "isinstance" = none
  b_len : mg "len" = none
  b_list : mg "list" = none
  b_max : mg "max" = none
  b_min : mg "min" = none
  b_range : mg "range" = none
  b_sorted : mg "sorted" = none
  b_str : mg "str" = none
  b_sum : mg "sum" = none
  b_tuple : mg "tuple" = none
theorem sc_is_int : FnScope ["thing"] ["thing"] (defScope s_is_int) := ⟨rfl, rfl, rfl, by decide +kernel, rfl, by decide +kernel, by decide +kernel⟩
def R_is_int (K : PySem.W.Frag) (g : Ads) (E : XK) : TS :=
  (tRet (zAndV (zIsiT K .int (zVar 0)) (zAndV (zNotV (zIsiT K .bool (zVar 0))) (zChain zLt zLt (zNeg (tC (.int 100000000000000000000))) (zVar 0) (tC (.int 100000000000000000000))))))
def rw_is_int (K : PySem.W.Frag) (g : Ads) : Sp := fun vs H Q E => vs.length = 1 ∧ R_is_int K g E { nx := fun _ H' => Q .non H', rt := Q } (start ["thing"] vs) H
theorem raw_is_int {P : Program} {w : World} {K : PySem.W.Frag} {mg : Str → Option Value} {base : Heap} {g : Ads} (T : Txt K mg g) : FnG false P w K mg base 1 g.f_is_int g.d_is_int ["thing"] (rw_is_int K g) := by
  refine okZ T.f_is_int sc_is_int (fun vs H Q E h => h.1) (fun cdv A outer s H vs Q E hr hgu h => ⟨R_is_int K g E, ?_, h.2⟩)
  exact (pss_one (ps_ret (pez_and (pe_isi (kd := .int) (zv 0) (by rfl) T.b_isinstance (by decide +kernel) (by rfl) T.b_int (by decide +kernel)) (pez_and (pez_not (pe_isi (kd := .bool) (zv 0) (by rfl) T.b_isinstance (by decide +kernel) (by rfl) T.b_bool (by decide +kernel))) (pe_one (pez_chain op_zLt op_zLt (pez_neg (pe_cint rfl T.n_BEYOND)) (zv 0) (pe_cint rfl T.n_BEYOND)))))))
theorem sc_is_name : FnScope ["thing", "sign"] ["thing"] (defScope s_is_name) := ⟨rfl, rfl, rfl, by decide +kernel, rfl, by decide +kernel, by decide +kernel⟩
def R_is_name_3 (K : PySem.W.Frag) (g : Ads) (E : XK) : TS :=
  (tRet (tCB (rAll K) (tCons (zLc (iStr (zVar 0)) (gName 1) tYes (tOp (zIn K) (zVar 1) (tC (.str "abcdefghijklmnopqrstuvwxyz"))) [1]) tNil)))
def R_is_name (K : PySem.W.Frag) (g : Ads) (E : XK) : TS :=
  (tSeq (tIfS (tOr (tNot (zTru K (zIsiT K .str (zVar 0)))) (tOr (tNot (zTest (zChain zLe zLe (tC (.int 1)) (tCB (zLen K) (tCons (zVar 0) tNil)) (tC (.int 8))))) (zTest (tOp (zEq K) (zVar 0) (tC (.str "none"))))))
  (tRet (tC (.bl false)))
  tNext)
  (R_is_name_3 K g E))
def rw_is_name (K : PySem.W.Frag) (g : Ads) : Sp := fun vs H Q E => vs.length = 1 ∧ R_is_name K g E { nx := fun _ H' => Q .non H', rt := Q } (start ["thing", "sign"] vs) H
theorem raw_is_name {P : Program} {w : World} {K : PySem.W.Frag} {mg : Str → Option Value} {base : Heap} {g : Ads} (T : Txt K mg g) : FnG false P w K mg base 1 g.f_is_name g.d_is_name ["thing"] (rw_is_name K g) := by
  refine okZ T.f_is_name sc_is_name (fun vs H Q E h => h.1) (fun cdv A outer s H vs Q E hr hgu h => ⟨R_is_name K g E, ?_, h.2⟩)
  exact (pss_cons (ps_if (PW.pt (pw_or (pt_not (ptz_truth (pe_isi (kd := .str) (zv 0) (by rfl) T.b_isinstance (by decide +kernel) (by rfl) T.b_str (by decide +kernel)) (by intro _; rfl))) (pw_or (pt_not (ptz_chain op_zLe op_zLe pe_int (pe_callB call_lenZ (by rfl) T.b_len (by decide +kernel) (pa_cons (zv 0) pa_nil)) (pe_cint rfl T.n_MOST_SIGNS))) (pw_or1 (ptz_cmp (op_zEq hr.units) (zv 0) pe_str (nomark _))))))
  (pss_one (ps_ret pe_bl))
  pss_nil)
  (pss_one (ps_ret (pe_callB (cr_all rfl) (by rfl) T.b_all (by decide +kernel) (pa_cons (pez_lc (own := [("sign", 1)]) rfl sc_is_name.nd (pi_str (zv 0)) (blkOk_by (own := [("sign", 1)]) (N := ["thing", "sign"]) (sc := defScope s_is_name) (by decide +kernel)) (fun _ _ _ _ _ => pg_name (i := 1) sc_is_name.nd rfl (Or.inl rfl)) (fun _ _ _ _ _ => pts_nil) (fun _ _ _ _ _ => (pe_cmpR op_zIn (zv 1) (pe_cstr rfl T.n_LETTERS) (by rfl)))) pa_nil)))))
end Z
namespace Z
open PySem PySem.Spec PyProof.Rows L2
/-- a value of which isinstance knows the kind -/
def Knd (K : PySem.W.Frag) (H : Hp) (v : V) : Prop := match v with
  | .non => True | .bl _ => True | .int _ => True | .str z => z.length ≤ 1000
  | .ref a => ∃ t, KndR K H a t
  | _ => False
def isIntV (v : V) : Bool := match v with
  | .int i => decide (-100000000000000000000 < i) && decide (i < 100000000000000000000)
  | _ => false
def sp_is_int (K : PySem.W.Frag) (g : Ads) : Sp := fun vs H Q E => ∃ v, vs = [v] ∧ Knd K H v ∧ Q (.bl (isIntV v)) H
theorem pf_is_int {K : PySem.W.Frag} {g : Ads} (vs : List V) (H : Hp) (Q : VK) (E : XK) (h : sp_is_int K g vs H Q E) : rw_is_int K g vs H Q E := by
  obtain ⟨v, rfl, hk, q⟩ := h
  refine ⟨rfl, ?_⟩
  cases v with
  | non => exact q
  | bl b => exact q
  | str b => exact q
  | int i =>
    show if decide (-100000000000000000000 < i) = true then Q (.bl (decide (i < 100000000000000000000))) H else Q (.bl false) H
    refine zite (fun h => ?_) (fun h => ?_)
    · simpa [isIntV, h] using q
    · simpa [isIntV, h] using q
  | ref a =>
    obtain ⟨t, ht⟩ := hk
    cases t <;> first | exact ht.elim | exact ⟨_, ht, q⟩
  | _ => exact hk.elim
/-- the signs of a name -/
def lettB (z : Str) : Bool := ((List.range z.cps.size).map fun i => decide (z.cps.getD i 0 ∈ ("abcdefghijklmnopqrstuvwxyz" : Str).cps.toList)).all id
def nameB (z : Str) : Bool := decide ((1 : Int) ≤ z.length) && decide ((z.length : Int) ≤ 8) && !decide (z = "none") && lettB z
def isNameV (v : V) : Bool := match v with
  | .str z => nameB z
  | _ => false
def sp_is_name (K : PySem.W.Frag) (g : Ads) : Sp := fun vs H Q E => ∃ v, vs = [v] ∧ Knd K H v ∧ ∀ H', Same H H' → Q (.bl (isNameV v)) H'
theorem pf_is_name {K : PySem.W.Frag} {g : Ads} (vs : List V) (H : Hp) (Q : VK) (E : XK) (h : sp_is_name K g vs H Q E) : rw_is_name K g vs H Q E := by
  obtain ⟨v, rfl, hk, q⟩ := h
  refine ⟨rfl, ?_⟩
  cases v with
  | non => exact q H (Same.refl H)
  | bl b => exact q H (Same.refl H)
  | int b => exact q H (Same.refl H)
  | ref a =>
    obtain ⟨t, ht⟩ := hk
    cases t <;> first | exact ht.elim | exact ⟨_, ht, q H (Same.refl H)⟩
  | str z =>
    have hz : z.length ≤ 1000 := hk
    refine ⟨Nat.le_trans hz (by decide), zite (fun h1 => ?_) (fun h1 => ?_)⟩
    · refine zite (fun h2 => ?_) (fun h2 => ?_)
      · have e : isNameV (.str z) = false := by simp [isNameV, nameB] at h2 ⊢; omega
        rw [e] at q
        exact q H (Same.refl H)
      · refine .inl ⟨rfl, zite (fun h3 => ?_) (fun h3 => ?_)⟩
        · have e : isNameV (.str z) = false := by simp [isNameV, nameB] at h3 ⊢; simp [h3]
          rw [e] at q
          exact q H (Same.refl H)
        · refine ⟨z, rfl, lc_map walk_str (fun i => .bl (decide (z.cps.getD i 0 ∈ ("abcdefghijklmnopqrstuvwxyz" : Str).cps.toList))) ?_ (fun _ _ => trivial) (fun i x H0 H' hi s y => ?_) (fun D hD => ?_)⟩
          · exact Nat.le_trans hz (by decide)
          · obtain ⟨rfl, c, hc, rfl⟩ := y
            refine ⟨rfl, _, fun R r => r, rfl, fun R r => r, fun R r => .inl ⟨c, _, rfl, rfl, ?_⟩⟩
            have e : z.cps.getD i 0 = c := by simp [Array.getD_eq_getD_getElem?, hc]
            rw [← e]
            exact r
          · refine ⟨D, (List.range z.cps.size).map fun i => decide (z.cps.getD i 0 ∈ ("abcdefghijklmnopqrstuvwxyz" : Str).cps.toList), rfl, SqL.of ?_, ?_⟩
            · rw [upd_same, List.map_map]
              rfl
            · have e : isNameV (.str z) = lettB z := by
                have a1 : ¬ z = "none" := by simpa using h3
                have a2 : (1 : Int) ≤ z.length := by simpa using h1
                have a3 : (z.length : Int) ≤ 8 := by simpa using h2
                simp [isNameV, nameB, a1, a2, a3]
              have q' := q _ (Same.put (o := .lst ((List.range z.cps.size).map fun i => V.bl (decide (z.cps.getD i 0 ∈ ("abcdefghijklmnopqrstuvwxyz" : Str).cps.toList)))) hD)
              rw [e] at q'
              exact q'
    · have e : isNameV (.str z) = false := by
        have a1 : ¬ (1 : Int) ≤ z.length := by simpa using h1
        simp [isNameV, nameB, a1]
      rw [e] at q
      exact q H (Same.refl H)
  | _ => exact hk.elim
end Z
namespace Z
open PySem PySem.Spec PyProof.Rows L2
theorem ok_is_int {P : Program} {w : World} {K : PySem.W.Frag} {mg : Str → Option Value} {base : Heap} {g : Ads} (T : Txt K mg g) : FnG false P w K mg base 1 g.f_is_int g.d_is_int ["thing"] (sp_is_int K g) := (raw_is_int T).imp pf_is_int
theorem ok_is_name {P : Program} {w : World} {K : PySem.W.Frag} {mg : Str → Option Value} {base : Heap} {g : Ads} (T : Txt K mg g) : FnG false P w K mg base 1 g.f_is_name g.d_is_name ["thing"] (sp_is_name K g) := (raw_is_name T).imp pf_is_name
/-! ### an error with one field -/
def sp_x1 (C : Addr) (f : Str) : Sp := fun vs H Q E => ∃ a v, vs = [.ref a, v] ∧ H a = some (exo a C none) ∧
  ∀ dx, H dx = none → dx ≠ a → Q .non (upd (upd H dx (exd dx [(f, v)])) a (exo a C (some dx)))
theorem raise_at {C : Addr} {f : Str} {v : V} {H : Hp} {R : XK} (k : ∀ d, H d = none → R (.ref C) (some d) (upd H d (.xd [(f, v)]))) :
    [v].length ≤ 1000 ∧ ∀ a, H a = none → sp_x1 C f (.ref a :: [v]) (upd H a (exo a C none))
      (fun v' H2 => v' = .non ∧ ∃ (d : Addr) (fs : List (Str × V)), H2 a = some (exo a C (some d)) ∧ H2 d = some (exd d fs) ∧ H d = none ∧ R (.ref C) (some d) (upd (del H2 a) d (.xd fs))) E0 := by
  refine ⟨by simp, fun a ha => ⟨a, v, rfl, upd_same, fun dx hdx ne => ⟨rfl, dx, [(f, v)], upd_same, by rw [upd_ne ne, upd_same], ?_, ?_⟩⟩⟩
  · rw [upd_ne ne] at hdx
    exact hdx
  · have hd : H dx = none := by
      rw [upd_ne ne] at hdx
      exact hdx
    have e : upd (del (upd (upd (upd H a (exo a C none)) dx (exd dx [(f, v)])) a (exo a C (some dx))) a) dx (.xd [(f, v)]) = upd H dx (.xd [(f, v)]) := by
      funext b
      by_cases h1 : b = dx
      · rw [h1, upd_same, upd_same]
      · rw [upd_ne h1, upd_ne h1]
        by_cases h2 : b = a
        · rw [h2, del_same, ha]
        · rw [del_ne h2, upd_ne h2, upd_ne h1, upd_ne h2]
    rw [e]
    exact k dx hd
def sp_BadName_init (K : PySem.W.Frag) (g : Ads) : Sp := sp_x1 g.c_BadName "name"
def sp_Twice_init (K : PySem.W.Frag) (g : Ads) : Sp := sp_x1 g.c_Twice "name"
def sp_NoPlace_init (K : PySem.W.Frag) (g : Ads) : Sp := sp_x1 g.c_NoPlace "name"
def sp_BadFail_init (K : PySem.W.Frag) (g : Ads) : Sp := sp_x1 g.c_BadFail "index"
def sp_TooMany_init (K : PySem.W.Frag) (g : Ads) : Sp := sp_x1 g.c_TooMany "limit"
theorem sc_BadName_init : FnScope ["self", "name"] ["self", "name"] (defScope s_BadName_init) := ⟨rfl, rfl, rfl, by decide +kernel, rfl, by decide +kernel, by decide +kernel⟩
def R_BadName_init (K : PySem.W.Frag) (g : Ads) (E : XK) : TS :=
  (tOstB K "name" (zVar 0) (zVar 1))
def rw_BadName_init (K : PySem.W.Frag) (g : Ads) : Sp := fun vs H Q E => vs.length = 2 ∧ R_BadName_init K g E { nx := fun _ H' => Q .non H', rt := Q } (start ["self", "name"] vs) H
theorem raw_BadName_init {P : Program} {w : World} {K : PySem.W.Frag} {mg : Str → Option Value} {base : Heap} {g : Ads} (T : Txt K mg g) : FnG false P w K mg base 1 g.f_BadName_init g.d_BadName_init ["self", "name"] (rw_BadName_init K g) := by
  refine okZ T.f_BadName_init sc_BadName_init (fun vs H Q E h => h.1) (fun cdv A outer s H vs Q E hr hgu h => ⟨R_BadName_init K g E, ?_, h.2⟩)
  exact (pss_one (ps_ostB (zv 0) (zv 1)))
theorem sc_Twice_init : FnScope ["self", "name"] ["self", "name"] (defScope s_Twice_init) := ⟨rfl, rfl, rfl, by decide +kernel, rfl, by decide +kernel, by decide +kernel⟩
def R_Twice_init (K : PySem.W.Frag) (g : Ads) (E : XK) : TS :=
  (tOstB K "name" (zVar 0) (zVar 1))
def rw_Twice_init (K : PySem.W.Frag) (g : Ads) : Sp := fun vs H Q E => vs.length = 2 ∧ R_Twice_init K g E { nx := fun _ H' => Q .non H', rt := Q } (start ["self", "name"] vs) H
theorem raw_Twice_init {P : Program} {w : World} {K : PySem.W.Frag} {mg : Str → Option Value} {base : Heap} {g : Ads} (T : Txt K mg g) : FnG false P w K mg base 1 g.f_Twice_init g.d_Twice_init ["self", "name"] (rw_Twice_init K g) := by
  refine okZ T.f_Twice_init sc_Twice_init (fun vs H Q E h => h.1) (fun cdv A outer s H vs Q E hr hgu h => ⟨R_Twice_init K g E, ?_, h.2⟩)
  exact (pss_one (ps_ostB (zv 0) (zv 1)))
theorem sc_TooMany_init : FnScope ["self", "limit"] ["self", "limit"] (defScope s_TooMany_init) := ⟨rfl, rfl, rfl, by decide +kernel, rfl, by decide +kernel, by decide +kernel⟩
def R_TooMany_init (K : PySem.W.Frag) (g : Ads) (E : XK) : TS :=
  (tOstB K "limit" (zVar 0) (zVar 1))
def rw_TooMany_init (K : PySem.W.Frag) (g : Ads) : Sp := fun vs H Q E => vs.length = 2 ∧ R_TooMany_init K g E { nx := fun _ H' => Q .non H', rt := Q } (start ["self", "limit"] vs) H
theorem raw_TooMany_init {P : Program} {w : World} {K : PySem.W.Frag} {mg : Str → Option Value} {base : Heap} {g : Ads} (T : Txt K mg g) : FnG false P w K mg base 1 g.f_TooMany_init g.d_TooMany_init ["self", "limit"] (rw_TooMany_init K g) := by
  refine okZ T.f_TooMany_init sc_TooMany_init (fun vs H Q E h => h.1) (fun cdv A outer s H vs Q E hr hgu h => ⟨R_TooMany_init K g E, ?_, h.2⟩)
  exact (pss_one (ps_ostB (zv 0) (zv 1)))
theorem sc_NoPlace_init : FnScope ["self", "name"] ["self", "name"] (defScope s_NoPlace_init) := ⟨rfl, rfl, rfl, by decide +kernel, rfl, by decide +kernel, by decide +kernel⟩
def R_NoPlace_init (K : PySem.W.Frag) (g : Ads) (E : XK) : TS :=
  (tOstB K "name" (zVar 0) (zVar 1))
def rw_NoPlace_init (K : PySem.W.Frag) (g : Ads) : Sp := fun vs H Q E => vs.length = 2 ∧ R_NoPlace_init K g E { nx := fun _ H' => Q .non H', rt := Q } (start ["self", "name"] vs) H
theorem raw_NoPlace_init {P : Program} {w : World} {K : PySem.W.Frag} {mg : Str → Option Value} {base : Heap} {g : Ads} (T : Txt K mg g) : FnG false P w K mg base 1 g.f_NoPlace_init g.d_NoPlace_init ["self", "name"] (rw_NoPlace_init K g) := by
  refine okZ T.f_NoPlace_init sc_NoPlace_init (fun vs H Q E h => h.1) (fun cdv A outer s H vs Q E hr hgu h => ⟨R_NoPlace_init K g E, ?_, h.2⟩)
  exact (pss_one (ps_ostB (zv 0) (zv 1)))
theorem sc_BadFail_init : FnScope ["self", "index"] ["self", "index"] (defScope s_BadFail_init) := ⟨rfl, rfl, rfl, by decide +kernel, rfl, by decide +kernel, by decide +kernel⟩
def R_BadFail_init (K : PySem.W.Frag) (g : Ads) (E : XK) : TS :=
  (tOstB K "index" (zVar 0) (zVar 1))
def rw_BadFail_init (K : PySem.W.Frag) (g : Ads) : Sp := fun vs H Q E => vs.length = 2 ∧ R_BadFail_init K g E { nx := fun _ H' => Q .non H', rt := Q } (start ["self", "index"] vs) H
theorem raw_BadFail_init {P : Program} {w : World} {K : PySem.W.Frag} {mg : Str → Option Value} {base : Heap} {g : Ads} (T : Txt K mg g) : FnG false P w K mg base 1 g.f_BadFail_init g.d_BadFail_init ["self", "index"] (rw_BadFail_init K g) := by
  refine okZ T.f_BadFail_init sc_BadFail_init (fun vs H Q E h => h.1) (fun cdv A outer s H vs Q E hr hgu h => ⟨R_BadFail_init K g E, ?_, h.2⟩)
  exact (pss_one (ps_ostB (zv 0) (zv 1)))
section
variable {P : Program} {w : World} {K : PySem.W.Frag} {mg : Str → Option Value} {base : Heap} {g : Ads}
theorem ok_BadName_init (T : Txt K mg g) : FnG false P w K mg base 1 g.f_BadName_init g.d_BadName_init ["self", "name"] (sp_BadName_init K g) :=
  (raw_BadName_init T).imp fun vs H Q E ⟨a, v, e, ha, k⟩ => by
    subst e
    exact ⟨rfl, a, g.c_BadName, rfl, T.o_BadName, T.a_BadName_name, .inl ⟨ha, k⟩⟩
theorem ok_Twice_init (T : Txt K mg g) : FnG false P w K mg base 1 g.f_Twice_init g.d_Twice_init ["self", "name"] (sp_Twice_init K g) :=
  (raw_Twice_init T).imp fun vs H Q E ⟨a, v, e, ha, k⟩ => by
    subst e
    exact ⟨rfl, a, g.c_Twice, rfl, T.o_Twice, T.a_Twice_name, .inl ⟨ha, k⟩⟩
theorem ok_NoPlace_init (T : Txt K mg g) : FnG false P w K mg base 1 g.f_NoPlace_init g.d_NoPlace_init ["self", "name"] (sp_NoPlace_init K g) :=
  (raw_NoPlace_init T).imp fun vs H Q E ⟨a, v, e, ha, k⟩ => by
    subst e
    exact ⟨rfl, a, g.c_NoPlace, rfl, T.o_NoPlace, T.a_NoPlace_name, .inl ⟨ha, k⟩⟩
theorem ok_BadFail_init (T : Txt K mg g) : FnG false P w K mg base 1 g.f_BadFail_init g.d_BadFail_init ["self", "index"] (sp_BadFail_init K g) :=
  (raw_BadFail_init T).imp fun vs H Q E ⟨a, v, e, ha, k⟩ => by
    subst e
    exact ⟨rfl, a, g.c_BadFail, rfl, T.o_BadFail, T.a_BadFail_index, .inl ⟨ha, k⟩⟩
theorem ok_TooMany_init (T : Txt K mg g) : FnG false P w K mg base 1 g.f_TooMany_init g.d_TooMany_init ["self", "limit"] (sp_TooMany_init K g) :=
  (raw_TooMany_init T).imp fun vs H Q E ⟨a, v, e, ha, k⟩ => by
    subst e
    exact ⟨rfl, a, g.c_TooMany, rfl, T.o_TooMany, T.a_TooMany_limit, .inl ⟨ha, k⟩⟩
end
theorem sc_check_name : FnScope ["thing"] ["thing"] (defScope s_check_name) := ⟨rfl, rfl, rfl, by decide +kernel, rfl, by decide +kernel, by decide +kernel⟩
def R_check_name_2 (K : PySem.W.Frag) (g : Ads) (E : XK) : TS :=
  (zRaise (fun cls d _ H => E cls d H) g.c_BadName (sp_BadName_init K g) (tCons (zVar 0) tNil))
def R_check_name (K : PySem.W.Frag) (g : Ads) (E : XK) : TS :=
  (tSeq (tIfS (tNot (zTru K (zCall (sp_is_name K g) [] (WE (fun cls d _ H => E cls d H)) (tCons (zVar 0) tNil))))
  (R_check_name_2 K g E)
  tNext)
  (tRet (zVar 0)))
def rw_check_name (K : PySem.W.Frag) (g : Ads) : Sp := fun vs H Q E => vs.length = 1 ∧ R_check_name K g E { nx := fun _ H' => Q .non H', rt := Q } (start ["thing"] vs) H
theorem raw_check_name {P : Program} {w : World} {K : PySem.W.Frag} {mg : Str → Option Value} {base : Heap} {g : Ads} (T : Txt K mg g) : FnG false P w K mg base 3 g.f_check_name g.d_check_name ["thing"] (rw_check_name K g) := by
  refine okZ T.f_check_name sc_check_name (fun vs H Q E h => h.1) (fun cdv A outer s H vs Q E hr hgu h => ⟨R_check_name K g E, ?_, h.2⟩)
  exact (pss_cons (ps_if (pt_not (ptz_truth (pe_callZ (ok_is_name T) (hr.mono (by decide)) (fun z => nomatch z) rfl T.g_is_name T.k_is_name T.e_is_name .nil (fun σ => passAt (takes_of rfl rfl rfl rfl) σ) (pa_cons (zv 0) pa_nil)) (by intro _; rfl)))
  (pss_one (ps_raise rfl (takes_of rfl rfl rfl rfl) (pmk_ZB T.o_BadName T.i_BadName T.t_BadName (ok_BadName_init T) (hr.mono (by decide)) (fun z => nomatch z) T.e_BadName_init rfl T.g_BadName (by exact (pa_cons (zv 0) pa_nil)))))
  pss_nil)
  (pss_one (ps_ret (zv 0))))
theorem Knd.same {K : PySem.W.Frag} {H H' : Hp} {v : V} (k : Knd K H v) (s : Same H H') : Knd K H' v := by
  cases v with
  | ref a =>
    obtain ⟨t, ht⟩ := k
    refine ⟨t, ?_⟩
    cases t with
    | list => exact ht.imp fun xs q => s.seq q
    | tuple =>
      obtain ⟨xs, q⟩ := ht
      refine ⟨xs, ?_⟩
      rcases q with (h | ⟨o, h⟩) | h
      · exact .inl (.inl (s _ _ h))
      · exact .inl (.inr ⟨o, s _ _ h⟩)
      · exact .inr h
    | dict =>
      rcases ht with ⟨x, h⟩ | ⟨x, h⟩
      · exact .inl ⟨x, s _ _ h⟩
      · exact .inr ⟨x, s _ _ h⟩
    | _ => exact ht.elim
  | non => trivial
  | bl _ => trivial
  | int _ => trivial
  | str _ => exact k
  | _ => exact k.elim
def sp_check_name (K : PySem.W.Frag) (g : Ads) : Sp := fun vs H Q E => ∃ v, vs = [v] ∧ Knd K H v ∧ (isNameV v = true → ∀ H', Same H H' → Q v H') ∧
  (isNameV v = false → ∀ H' d, Same H H' → H d = none → H' d = some (.xd [("name", v)]) → E (.ref g.c_BadName) (some d) H')
theorem pf_check_name {K : PySem.W.Frag} {g : Ads} (vs : List V) (H : Hp) (Q : VK) (E : XK) (h : sp_check_name K g vs H Q E) : rw_check_name K g vs H Q E := by
  obtain ⟨v, rfl, hk, q1, q2⟩ := h
  refine ⟨rfl, ⟨v, rfl, hk, fun H' s => ?_⟩⟩
  cases e : isNameV v with
  | true => exact q1 e H' s
  | false => exact raise_at fun d hd => q2 e _ d (s.trans (Same.put hd)) (s.free hd) upd_same
theorem ok_check_name {P : Program} {w : World} {K : PySem.W.Frag} {mg : Str → Option Value} {base : Heap} {g : Ads} (T : Txt K mg g) : FnG false P w K mg base 3 g.f_check_name g.d_check_name ["thing"] (sp_check_name K g) := (raw_check_name T).imp pf_check_name
end Z
namespace Z
open PySem PySem.Spec PyProof.Rows L2

theorem Same.tup {K : PySem.W.Frag} {H H' : Hp} {a : Addr} {xs : List V} (s : Same H H') (h : SqT K H a xs) : SqT K H' a xs := by
  rcases h with (h | ⟨o, h⟩) | h
  · exact .inl (.inl (s _ _ h))
  · exact .inl (.inr ⟨o, s _ _ h⟩)
  · exact .inr h
theorem same_new {H H' : Hp} {D : Addr} {u : HO} (hD : H D = none) (s : Same H H') : Same H (upd H' D u) := fun b o e => by
  rw [upd_ne (ne_of_none e hD)]
  exact s _ _ e
/-! ### names that stand twice -/
def isDup (ns : List Str) (i : Nat) : Bool := decide (ns.getD i "" ∈ ns.take i)
def dupUp (ns : List Str) (i : Nat) : List Str := ((List.range i).filter (isDup ns)).map fun k => ns.getD k ""
def dupOf (ns : List Str) : Option Str := (dupUp ns ns.length).head?
theorem dupUp_succ (ns : List Str) (i : Nat) : dupUp ns (i + 1) = dupUp ns i ++ (if isDup ns i = true then [ns.getD i ""] else []) := by
  unfold dupUp
  rw [List.range_succ, List.filter_append, List.map_append]
  congr 1
  by_cases h : isDup ns i = true
  · rw [if_pos h]
    simp [h]
  · rw [if_neg h]
    simp [h]
theorem dupUp_pre (ns : List Str) (i : Nat) : ∀ k, ∃ r, dupUp ns (i + k) = dupUp ns i ++ r
  | 0 => ⟨[], by simp⟩
  | k + 1 => by
    obtain ⟨r, e⟩ := dupUp_pre ns i k
    rw [show i + (k + 1) = i + k + 1 from rfl, dupUp_succ, e]
    exact ⟨_, List.append_assoc ..⟩
theorem dupOf_at {ns : List Str} {i : Nat} (hi : i < ns.length) (h0 : dupUp ns i = []) (h1 : isDup ns i = true) : dupOf ns = some (ns.getD i "") := by
  obtain ⟨r, e⟩ := dupUp_pre ns (i + 1) (ns.length - (i + 1))
  rw [show i + 1 + (ns.length - (i + 1)) = ns.length by omega, dupUp_succ, h0, if_pos h1] at e
  unfold dupOf
  rw [e]
  rfl
theorem inV_strs (z : Str) (ns : List Str) : inV (.str z) (ns.map V.str) = decide (z ∈ ns) := by
  induction ns with
  | nil => rfl
  | cons a r ih =>
    have e : inV (.str z) ((a :: r).map V.str) = (eqV (.str a) (.str z) || inV (.str z) (r.map V.str)) := rfl
    rw [e, ih]
    have e2 : eqV (.str a) (.str z) = decide (a = z) := by
      show (a == z) = _
      by_cases h : a = z
      · simp [h]
      · simp [h]
    rw [e2]
    by_cases h1 : a = z
    · simp [h1]
    · have : ¬ z = a := fun h => h1 h.symm
      simp [h1, this]
theorem all_flat (ns : List Str) : (ns.map V.str).all flatV = true := by
  rw [List.all_eq_true]
  intro v hv
  obtain ⟨z, _, rfl⟩ := List.mem_map.mp hv
  rfl
theorem cut_take (xs : List V) (i : Nat) : cutV xs none (some (i : Int)) = xs.take i := by
  unfold cutV
  rw [HT.sIx_nat, HT.sIx_none, List.drop_zero, Nat.sub_zero]
  by_cases h : i ≤ xs.length
  · rw [Nat.min_eq_left h]
  · rw [Nat.min_eq_right (by omega), List.take_of_length_le (Nat.le_refl _), List.take_of_length_le (by omega)]
theorem get_strs {ns : List Str} {i : Nat} {x : V} (h : (ns.map V.str)[i]? = some x) : x = .str (ns.getD i "") ∧ i < ns.length ∧ ns.getD i "" ∈ ns := by
  rw [List.getElem?_map] at h
  cases e : ns[i]? with
  | none =>
    rw [e] at h
    cases h
  | some z =>
    rw [e] at h
    cases h
    have e2 : ns.getD i "" = z := by simp [List.getD_eq_getElem?_getD, e]
    rw [e2]
    exact ⟨rfl, (List.getElem?_eq_some_iff.mp e).1, List.mem_of_getElem? e⟩
def sp_check_unlike (K : PySem.W.Frag) (g : Ads) : Sp := fun vs H Q E => ∃ (l : Addr) (ns : List Str), vs = [.ref l] ∧ SqL K H l (ns.map V.str) ∧ (dupOf ns = none → ∀ H', Same H H' → Q .non H') ∧
  ∀ z, dupOf ns = some z → ∀ H' d, Same H H' → H d = none → H' d = some (.xd [("name", .str z)]) → E (.ref g.c_Twice) (some d) H'
theorem sc_check_unlike : FnScope ["names", "index", "name"] ["names"] (defScope s_check_unlike) := ⟨rfl, rfl, rfl, by decide +kernel, rfl, by decide +kernel, by decide +kernel⟩
def R_check_unlike_3 (K : PySem.W.Frag) (g : Ads) (E : XK) : TS :=
  (zRaise (fun cls d _ H => E cls d H) g.c_Twice (sp_Twice_init K g) (tCons (zVar 2) tNil))
def R_check_unlike_2 (K : PySem.W.Frag) (g : Ads) (E : XK) : TS :=
  (tIfS (zTest (tOp (zIn K) (zVar 2) (tSl (rSlL K) (zVar 0) tNoPart (tPart (zVar 1)))))
  (R_check_unlike_3 K g E)
  tNext)
def R_check_unlike (K : PySem.W.Frag) (g : Ads) (E : XK) : TS :=
  (zFor (zEnum K (tCons (zVar 0) tNil)) (gTup K 2 (gCons (gName 1) (gCons (gName 2) gNil)))
  (R_check_unlike_2 K g E))
def rw_check_unlike (K : PySem.W.Frag) (g : Ads) : Sp := fun vs H Q E => vs.length = 1 ∧ R_check_unlike K g E { nx := fun _ H' => Q .non H', rt := Q } (start ["names", "index", "name"] vs) H
theorem raw_check_unlike {P : Program} {w : World} {K : PySem.W.Frag} {mg : Str → Option Value} {base : Heap} {g : Ads} (T : Txt K mg g) : FnG false P w K mg base 3 g.f_check_unlike g.d_check_unlike ["names"] (rw_check_unlike K g) := by
  refine okZ T.f_check_unlike sc_check_unlike (fun vs H Q E h => h.1) (fun cdv A outer s H vs Q E hr hgu h => ⟨R_check_unlike K g E, ?_, h.2⟩)
  exact (pss_one (psz_for PassesOwn.leaving rfl (pi_zEnum (by rfl) T.b_enumerate (pa_cons (zv 0) pa_nil)) (pg_tup rfl (pgs_cons (pg_name (i := 1) sc_check_unlike.nd rfl (Or.inl rfl)) (pgs_cons (pg_name (i := 2) sc_check_unlike.nd rfl (Or.inl rfl)) pgs_nil)))
  (pss_one (ps_if (ptz_cmp op_zIn (zv 2) (pe_slice sl_list (zv 0) po_none (po_some (zv 1))) (by rfl))
  (pss_one (ps_raise rfl (takes_of rfl rfl rfl rfl) (pmk_ZB T.o_Twice T.i_Twice T.t_Twice (ok_Twice_init T) (hr.mono (by decide)) (fun z => nomatch z) T.e_Twice_init rfl T.g_Twice (by exact (pa_cons (zv 2) pa_nil)))))
  pss_nil))))
theorem pf_check_unlike {K : PySem.W.Frag} {g : Ads} (vs : List V) (H : Hp) (Q : VK) (E : XK) (h : sp_check_unlike K g vs H Q E) : rw_check_unlike K g vs H Q E := by
  obtain ⟨l, ns, rfl, hl, q1, q2⟩ := h
  refine ⟨rfl, l, _, rfl, .inl ⟨hl, for_z (walk_enum (xs := ns.map V.str)) (fun i σ H' => Same H H' ∧ dupUp ns i = [] ∧ ∃ v1 v2, σ = [some (.ref l), v1, v2]) ⟨Same.refl H, rfl, _, _, rfl⟩ (fun i σ H' _ hh => hh.1.seq hl) ?_ ?_⟩⟩
  · rintro i x σ H1 H2 hi ⟨s1, hb, v1, v2, rfl⟩ ⟨T1, x1, x2, rfl, hT, rfl, f1, f2⟩
    cases f1
    obtain ⟨rfl, li, hm⟩ := get_strs f2
    have s2 := s1.trans (Same.put (o := .tup [V.int (i : Nat), .str (ns.getD i "")]) hT)
    refine ⟨T1, _, rfl, SqT.of upd_same, rfl, _, _, rfl, _, _, rfl, rfl, (i : Int), rfl, l, _, rfl, s2.seq hl, fun p hp => ?_⟩
    have s3 := s2.trans (Same.put (o := .lst (cutV (ns.map V.str) none (some ((i : Nat) : Int)))) hp)
    have ec : cutV (ns.map V.str) none (some ((i : Nat) : Int)) = (ns.take i).map V.str := by rw [cut_take, List.map_take]
    refine .inr ⟨p, _, rfl, .inl (SqL.of upd_same), rfl, by rw [ec]; exact all_flat _, ?_⟩
    show if inV (.str (ns.getD i "")) (cutV (ns.map V.str) none (some ((i : Nat) : Int))) = true then _ else _
    rw [ec] at s3
    rw [ec, inV_strs]
    refine zite (fun hd => ?_) (fun hd => ?_)
    · exact raise_at fun d hd2 => q2 (ns.getD i "") (dupOf_at li hb hd) _ d (s3.trans (Same.put hd2)) (s3.free hd2) upd_same
    · refine ⟨s3, ?_, _, _, rfl⟩
      · rw [dupUp_succ, hb, if_neg (by rw [show isDup ns i = false from hd]; decide)]
        rfl
  · rintro σ H1 ⟨s1, hb, v1, v2, rfl⟩
    rw [List.length_map] at hb
    exact q1 (by unfold dupOf; rw [hb]; rfl) H1 s1
theorem ok_check_unlike {P : Program} {w : World} {K : PySem.W.Frag} {mg : Str → Option Value} {base : Heap} {g : Ads} (T : Txt K mg g) : FnG false P w K mg base 3 g.f_check_unlike g.d_check_unlike ["names"] (sp_check_unlike K g) := (raw_check_unlike T).imp pf_check_unlike
/-! ### instances that are being made -/
def hid (S : List Addr) (H : Hp) : Hp := fun b => if b ∈ S then none else H b
theorem hid_of {S : List Addr} {H : Hp} {b : Addr} {o : HO} (e : hid S H b = some o) : b ∉ S ∧ H b = some o := by
  unfold hid at e
  by_cases h : b ∈ S
  · rw [if_pos h] at e
    cases e
  · rw [if_neg h] at e
    exact ⟨h, e⟩
theorem hid_at {S : List Addr} {H : Hp} {b : Addr} {o : HO} (h : b ∉ S) (e : H b = some o) : hid S H b = some o := by
  unfold hid
  rw [if_neg h]
  exact e
theorem hid_same {S : List Addr} {H H' : Hp} (k : ∀ b o, H b = some o → b ∉ S → H' b = some o) : Same (hid S H) (hid S H') := fun b o e => hid_at (hid_of e).1 (k _ _ (hid_of e).2 (hid_of e).1)
theorem hid_sub {S : List Addr} {H : Hp} : Same (hid S H) H := fun b o e => (hid_of e).2
theorem hid_but {p : Addr} {H H' : Hp} (b : But p H H') : Same (hid [p] H) (hid [p] H') := hid_same fun c o e n => b c o e fun z => n (by rw [z]; simp)
theorem but_free {o d : Addr} {u : HO} {H H' : Hp} (b : But o H H') (e : H' o = some u) (hd : H' d = none) : H d = none := by
  cases z : H d with
  | none => rfl
  | some w =>
    have nd : d ≠ o := fun y => by
      rw [y, e] at hd
      cases hd
    rw [b _ _ z nd] at hd
    cases hd
theorem mk_same {H : Hp} {o dx C : Addr} (ho : H o = none) (hd : H dx = none) (ne : dx ≠ o) : Same H (upd (upd H dx (.own o)) o (.ins C dx [])) ∧ (upd H dx (.own o)) o = none := by
  have h1 : (upd H dx (.own o)) o = none := by
    rw [upd_ne ne.symm]
    exact ho
  exact ⟨(Same.put hd).trans (Same.put h1), h1⟩
theorem mk_hid {H H1 : Hp} {o : Addr} (ho : H o = none) (s : Same H H1) : Same H (hid [o] H1) := fun b u e => hid_at (by simpa using ne_of_none e ho) (s _ _ e)
theorem mk_out {H H1 H2 : Hp} {o : Addr} (ho : H o = none) (s : Same H H1) (b : But o H1 H2) : Same H H2 := fun c u e => b _ _ (s _ _ e) (ne_of_none e ho)
end Z
namespace Z
open PySem PySem.Spec PyProof.Rows L2

/-! ### what comes of a service's parts -/
inductive EK where
  | nm | tw | mn
def EK.c (g : Ads) : EK → Addr
  | .nm => g.c_BadName
  | .tw => g.c_Twice
  | .mn => g.c_TooMany
def EK.f : EK → Str
  | .nm => "name"
  | .tw => "name"
  | .mn => "limit"
def EK.n : EK → Str
  | .nm => "BadName"
  | .tw => "Twice"
  | .mn => "TooMany"
inductive Out where
  | ok : Out
  | err (k : EK) (v : V) : Out
def ErrsB (g : Ads) (a : Addr) (o : Out) (H : Hp) (E : XK) : Prop := ∀ k v, o = .err k v → ∀ H' dd, But a H H' → H dd = none → H' dd = some (.xd [(k.f, v)]) → E (.ref (k.c g)) (some dd) H'
def Errs (g : Ads) (o : Out) (H : Hp) (E : XK) : Prop := ∀ k v, o = .err k v → ∀ H' dd, Same H H' → H dd = none → H' dd = some (.xd [(k.f, v)]) → E (.ref (k.c g)) (some dd) H'
def strOf : V → Str
  | .str z => z
  | _ => ""
def svOut3 (hn : List Str) : Out := match dupOf hn with
  | some z => .err .tw (.str z)
  | none => if 6 < hn.length then .err .mn (.int 6) else .ok
def svOut2 (vc vs vl vf : List V) (hn : List Str) : Out := if 6 < vc.length then .err .mn (.int 6) else if 4 < vs.length ∨ 4 < vl.length ∨ 4 < vf.length then .err .mn (.int 4) else svOut3 hn
def svOut1 (vc vs vl vf : List V) (hn : List Str) : Out := match dupOf ((vc ++ (vs ++ (vl ++ vf))).map strOf) with
  | some z => .err .tw (.str z)
  | none => svOut2 vc vs vl vf hn
def svOut (vc vs vl vf : List V) (hn : List Str) : Out := match (vc ++ (vs ++ (vl ++ vf))).find? (fun v => !isNameV v) with
  | some v => .err .nm v
  | none => svOut1 vc vs vl vf hn
theorem name_str {v : V} (h : isNameV v = true) : v = .str (strOf v) := by
  cases v <;> first | rfl | cases h
theorem names_strs : ∀ {vs : List V}, (∀ v ∈ vs, isNameV v = true) → vs = (vs.map strOf).map V.str
  | [], _ => rfl
  | v :: r, h => by
    have ih := names_strs (vs := r) fun w hw => h w (List.mem_cons_of_mem _ hw)
    rw [List.map_cons, List.map_cons, ← ih, ← name_str (h v List.mem_cons_self)]
theorem find_at {p : V → Bool} : ∀ {vs : List V} {i : Nat} {v : V}, vs[i]? = some v → p v = true → (∀ w ∈ vs.take i, p w = false) → vs.find? p = some v
  | [], i, v, h, _, _ => by simp at h
  | w :: r, 0, v, h, hp, _ => by
    cases h
    simp [List.find?, hp]
  | w :: r, i + 1, v, h, hp, h0 => by
    have e : p w = false := h0 w (by simp)
    rw [List.find?_cons, e]
    exact find_at (i := i) (by simpa using h) hp fun x hx => h0 x (by simp [hx])
theorem max3_int (a b c : Int) : ∃ m : Int, nuMax3 (.int a) (.int b) (.int c) = some (.int m) ∧ (4 < m ↔ 4 < a ∨ 4 < b ∨ 4 < c) := by
  have e : ∀ x y : Int, nuMax2 (.int x) (.int y) = some (.int (if x < y then y else x)) := fun x y => by
    show some (if decide (x < y) = true then V.int y else .int x) = _
    by_cases h : x < y <;> simp [h]
  refine ⟨if (if a < b then b else a) < c then c else (if a < b then b else a), ?_, ?_⟩
  · unfold nuMax3
    rw [e]
    exact e _ _
  · split <;> split <;> omega
/-! ### handlers of a service -/
def HndsAt (_K : PySem.W.Frag) (_g : Ads) (_H : Hp) (hs : List (Addr × Str)) : Prop := hs = []
theorem HndsAt.same {K : PySem.W.Frag} {g : Ads} {H H' : Hp} {hs : List (Addr × Str)} (h : HndsAt K g H hs) (_s : Same H H') : HndsAt K g H' hs := h
theorem get_hnds {hs : List (Addr × Str)} {i : Nat} {x : V} (h : (hs.map fun h => V.ref h.1)[i]? = some x) : ∃ a, x = .ref a.1 ∧ hs[i]? = some a ∧ a ∈ hs := by
  rw [List.getElem?_map] at h
  cases e : hs[i]? with
  | none =>
    rw [e] at h
    cases h
  | some z =>
    rw [e] at h
    cases h
    exact ⟨z, rfl, rfl, List.mem_of_getElem? e⟩
def svF (ht c s l f pl cn : Addr) : List (Str × V) := [("handlers", .ref ht), ("cells", .ref c), ("sources", .ref s), ("slots", .ref l), ("fields", .ref f), ("places", .ref pl), ("constants", .ref cn)]
def sp_Service_all_operands (K : PySem.W.Frag) (g : Ads) : Sp := fun vs H Q E => ∃ (o dx ht : Addr) (fs : List (Str × V)) (hs : List (Addr × Str)), vs = [.ref o] ∧ H o = some (.ins g.c_Service dx fs) ∧ fs.lookup ("handlers" : Str) = some (V.ref ht) ∧ SqT K H ht (hs.map fun h => V.ref h.1) ∧ HndsAt K g H hs ∧
  ∀ p H', Same H H' → H p = none → H' p = some (.lst []) → Q (.ref p) H'
theorem sc_Service_all_operands : FnScope ["self", "found", "handler", "step", "role", "thing"] ["self"] (defScope s_Service_all_operands) := ⟨rfl, rfl, rfl, by decide +kernel, rfl, by decide +kernel, by decide +kernel⟩
def R_Service_all_operands_2 (K : PySem.W.Frag) (g : Ads) (E : XK) : TS :=
  (tSeq (zFor (iTup K (tFld K (zVar 0) "handlers")) (gName 2)
  tDead)
  (tRet (zVar 1)))
def R_Service_all_operands (K : PySem.W.Frag) (g : Ads) (E : XK) : TS :=
  (tSeq (tAsg (tLst tNil) (gName 1))
  (R_Service_all_operands_2 K g E))
def rw_Service_all_operands (K : PySem.W.Frag) (g : Ads) : Sp := fun vs H Q E => vs.length = 1 ∧ R_Service_all_operands K g E { nx := fun _ H' => Q .non H', rt := Q } (start ["self", "found", "handler", "step", "role", "thing"] vs) H
theorem raw_Service_all_operands {P : Program} {w : World} {K : PySem.W.Frag} {mg : Str → Option Value} {base : Heap} {g : Ads} (T : Txt K mg g) : FnG false P w K mg base 1 g.f_Service_all_operands g.d_Service_all_operands ["self"] (rw_Service_all_operands K g) := by
  refine okZ T.f_Service_all_operands sc_Service_all_operands (fun vs H Q E h => h.1) (fun cdv A outer s H vs Q E hr hgu h => ⟨R_Service_all_operands K g E, ?_, h.2⟩)
  exact (pss_cons (ps_set (i := 1) sc_Service_all_operands.nd rfl (Or.inl rfl) (pe_lst pa_nil))
  (pss_cons (psz_for PassesOwn.leaving rfl (pi_tup (pe_fld (zv 0) rfl)) (pg_name (i := 2) sc_Service_all_operands.nd rfl (Or.inl rfl))
  (pss_one ps_dead))
  (pss_one (ps_ret (zv 1)))))
theorem pf_all_operands {K : PySem.W.Frag} {mg : Str → Option Value} {g : Ads} (T : Txt K mg g) (vs : List V) (H : Hp) (Q : VK) (E : XK) (h : sp_Service_all_operands K g vs H Q E) : rw_Service_all_operands K g vs H Q E := by
  obtain ⟨o, dx, ht, fs, hs, rfl, ho, hf, hh, hA, q⟩ := h
  refine ⟨rfl, show 0 ≤ sizeLine by decide, fun F hF => ?_⟩
  have s0 := Same.put (o := .lst []) hF
  refine ⟨o, _, dx, _, _, rfl, s0 _ _ ho, T.cl_Service, T.na_Service_handlers, hf, ht, rfl, ⟨_, Z.Same.tup s0 hh⟩, for_z (walk_tup (xs := hs.map fun h => V.ref h.1)) (fun i σ H' => Same H H' ∧ H' F = some (.lst []) ∧ ∃ v2 v3, σ = [some (.ref o), some (.ref F), v2, v3, none, none]) ⟨s0, upd_same, _, _, rfl⟩
    (fun i σ H' _ h => Z.Same.tup h.1 hh) ?_ ?_⟩
  · rintro i x σ H1 H1' hi ⟨s1, eF, v2, v3, rfl⟩ ⟨rfl, hx⟩
    obtain ⟨a, rfl, _, ha⟩ := get_hnds hx
    cases hA ▸ ha
  · rintro σ H1 ⟨s1, eF, v2, v3, rfl⟩
    exact q F H1 s1 hF eF
theorem ok_Service_all_operands {P : Program} {w : World} {K : PySem.W.Frag} {mg : Str → Option Value} {base : Heap} {g : Ads} (T : Txt K mg g) : FnG false P w K mg base 1 g.f_Service_all_operands g.d_Service_all_operands ["self"] (sp_Service_all_operands K g) := (raw_Service_all_operands T).imp (pf_all_operands T)
end Z
namespace Z
open PySem PySem.Spec PyProof.Rows L2

def Sq (K : PySem.W.Frag) (H : Hp) (a : Addr) (xs : List V) : Prop := SqT K H a xs ∨ SqL K H a xs
theorem Sq.same {K : PySem.W.Frag} {H H' : Hp} {a : Addr} {xs : List V} (h : Sq K H a xs) (s : Same H H') : Sq K H' a xs := h.imp (fun h => Z.Same.tup s h) fun h => s.seq h
theorem Sq.sw {K : PySem.W.Frag} {H : Hp} {a : Addr} {xs : List V} (h : Sq K H a xs) : SqL K H a xs ∨ SqT K H a xs := Or.symm h
theorem sfld_tup {K : PySem.W.Frag} {o a C dx : Addr} {fs : List (Str × V)} {f : Str} {i : Nat} {D : Ends} {σ : St} {H : Hp} {xs : List V} (hi : σ[i]? = some (some (.ref a))) (h0 : σ[0]? = some (some (.ref o))) (hs : Sq K H a xs) (ho : H o = some (.ins C dx fs)) (hc : Cls K C) (hn : NoAttr K C f) (hl : fs.length < 1000)
    (k : ∀ p H', Same H H' → SqT K H' p xs → D.nx σ (upd H' o (.ins C dx (putF f (.ref p) fs)))) : sFld K (zVar 0) (tCB (zTupOf K) (tCons (zVar i) tNil)) f D σ H := by
  have v0 : ∀ (H' : Hp) (Q : VK), Q (.ref o) H' → zVar 0 σ H' Q := fun H' Q q => by
    unfold zVar
    rw [h0]
    exact q
  have fin : ∀ p H', Same H H' → SqT K H' p xs → (zVar 0 σ H' fun x H2 => ∃ a C dx fs, x = .ref a ∧ H2 a = some (.ins C dx fs) ∧ Cls K C ∧ NoAttr K C f ∧ fs.length < 1000 ∧ D.nx σ (upd H2 a (.ins C dx (putF f (.ref p) fs)))) := fun p H' s e => v0 H' _ ⟨o, C, dx, fs, rfl, s _ _ ho, hc, hn, hl, k p H' s e⟩
  show zVar i σ H (fun x H1 => zTupOf K [x] H1 fun y H1 => zVar 0 σ H1 fun x H2 => ∃ a C dx fs, x = .ref a ∧ H2 a = some (.ins C dx fs) ∧ Cls K C ∧ NoAttr K C f ∧ fs.length < 1000 ∧ D.nx σ (upd H2 a (.ins C dx (putF f y fs))))
  unfold zVar
  rw [hi]
  rcases hs with hs | hs
  · exact ⟨xs, .inr ⟨hs, fin a H (Same.refl H) hs⟩⟩
  · exact ⟨xs, .inl ⟨hs, fun p hp => fin p _ (Same.put hp) (SqT.of upd_same)⟩⟩
theorem range_strs (ns : List Str) : (List.range ns.length).map (fun i => V.str (ns.getD i "")) = ns.map V.str := by
  apply List.ext_getElem?
  intro i
  rw [List.getElem?_map, List.getElem?_map]
  by_cases h : i < ns.length
  · rw [List.getElem?_range h, List.getElem?_eq_getElem h]
    simp [List.getD_eq_getElem?_getD, List.getElem?_eq_getElem h]
  · rw [List.getElem?_eq_none (by simpa using h), List.getElem?_eq_none (by omega)]
    rfl
theorem But.tup2 {K : PySem.W.Frag} {o a C dx : Addr} {fs : List (Str × V)} {H H' : Hp} {xs : List V} (b : But o H H') (e : H o = some (.ins C dx fs)) (h : SqT K H a xs) : SqT K H' a xs := by
  rcases h with (h | ⟨q, h⟩) | h
  · exact .inl (.inl (b _ _ h fun z => by rw [z, e] at h; cases h))
  · exact .inl (.inr ⟨q, b _ _ h fun z => by rw [z, e] at h; cases h⟩)
  · exact .inr h
def SvAt (K : PySem.W.Frag) (g : Ads) (H : Hp) (o : Addr) (vc vs vl vf : List V) (hs : List (Addr × Str)) : Prop := ∃ dx ht c s l f pl cn, H o = some (.ins g.c_Service dx (svF ht c s l f pl cn)) ∧ SqT K H c vc ∧ SqT K H s vs ∧ SqT K H l vl ∧ SqT K H f vf ∧ SqT K H ht (hs.map fun h => V.ref h.1) ∧ SqT K H pl (vc ++ (vl ++ vf)) ∧ SqT K H cn []
def sp_Service_init (K : PySem.W.Frag) (g : Ads) : Sp := fun us H Q E => ∃ (o dx ca so sl fi ht : Addr) (vc vs vl vf : List V) (hs : List (Addr × Str)), us = [.ref o, .ref ca, .ref so, .ref sl, .ref fi, .ref ht] ∧ H o = some (.ins g.c_Service dx []) ∧
  Sq K (hid [o] H) ca vc ∧ Sq K (hid [o] H) so vs ∧ Sq K (hid [o] H) sl vl ∧ Sq K (hid [o] H) fi vf ∧ SqT K (hid [o] H) ht (hs.map fun h => V.ref h.1) ∧ HndsAt K g (hid [o] H) hs ∧ (∀ v ∈ vc ++ (vs ++ (vl ++ vf)), Knd K (hid [o] H) v) ∧
  vc.length ≤ 100 ∧ vs.length ≤ 100 ∧ vl.length ≤ 100 ∧ vf.length ≤ 100 ∧ hs.length ≤ 100 ∧ (svOut vc vs vl vf (hs.map (·.2)) = .ok → ∀ H', But o H H' → SvAt K g H' o vc vs vl vf hs → Q .non H') ∧ ErrsB g o (svOut vc vs vl vf (hs.map (·.2))) H E
theorem sc_Service_init : FnScope ["self", "cells", "sources", "slots", "fields", "handlers", "names", "name", "handler", "thing"] ["self", "cells", "sources", "slots", "fields", "handlers"] (defScope s_Service_init) := ⟨rfl, rfl, rfl, by decide +kernel, rfl, by decide +kernel, by decide +kernel⟩
def R_Service_init_3 (P : Program) (w : World) (K : PySem.W.Frag) (g : Ads) (E : XK) : TS :=
  (tDrop (zCall (sp_check_name K g) [] (WE (fun cls d _ H => E cls d H)) (tCons (zVar 7) tNil)))
def R_Service_init_6 (P : Program) (w : World) (K : PySem.W.Frag) (g : Ads) (E : XK) : TS :=
  (zRaise (fun cls d _ H => E cls d H) g.c_TooMany (sp_TooMany_init K g) (tCons (tC (.int 6)) tNil))
def R_Service_init_8 (P : Program) (w : World) (K : PySem.W.Frag) (g : Ads) (E : XK) : TS :=
  (zRaise (fun cls d _ H => E cls d H) g.c_TooMany (sp_TooMany_init K g) (tCons (tC (.int 4)) tNil))
def R_Service_init_11 (P : Program) (w : World) (K : PySem.W.Frag) (g : Ads) (E : XK) : TS :=
  (zRaise (fun cls d _ H => E cls d H) g.c_TooMany (sp_TooMany_init K g) (tCons (tC (.int 6)) tNil))
def R_Service_init_20 (P : Program) (w : World) (K : PySem.W.Frag) (g : Ads) (E : XK) : TS :=
  (sFld K (zVar 0) (tCB (zTupOf K) (tCons (tCB (rSortedSet w) (tCons (zScI w (iList K (zMeth g.c_Service "all_operands" (sp_Service_all_operands K g) [] (WE (fun cls d _ H => E cls d H)) (zVar 0) tNil)) (gName 9) (zTru K (zCall (sp_is_int K g) [] (fun _ => E0) (tCons (zVar 9) tNil))) (zVar 9) [9]) tNil)) tNil)) "constants")
def R_Service_init_18 (P : Program) (w : World) (K : PySem.W.Frag) (g : Ads) (E : XK) : TS :=
  (tSeq (zFor (iTup K (zVar 5)) (gName 8)
  tDead)
  (R_Service_init_20 P w K g E))
def R_Service_init_17 (P : Program) (w : World) (K : PySem.W.Frag) (g : Ads) (E : XK) : TS :=
  (tSeq (sFld K (zVar 0) (tTup (StX.tStar K (zVar 1) (StX.tStar K (zVar 3) (StX.tStar K (zVar 4) tNil)))) "places")
  (R_Service_init_18 P w K g E))
def R_Service_init_16 (P : Program) (w : World) (K : PySem.W.Frag) (g : Ads) (E : XK) : TS :=
  (tSeq (sFld K (zVar 0) (tCB (zTupOf K) (tCons (zVar 4) tNil)) "fields")
  (R_Service_init_17 P w K g E))
def R_Service_init_15 (P : Program) (w : World) (K : PySem.W.Frag) (g : Ads) (E : XK) : TS :=
  (tSeq (sFld K (zVar 0) (tCB (zTupOf K) (tCons (zVar 3) tNil)) "slots")
  (R_Service_init_16 P w K g E))
def R_Service_init_14 (P : Program) (w : World) (K : PySem.W.Frag) (g : Ads) (E : XK) : TS :=
  (tSeq (sFld K (zVar 0) (tCB (zTupOf K) (tCons (zVar 2) tNil)) "sources")
  (R_Service_init_15 P w K g E))
def R_Service_init_13 (P : Program) (w : World) (K : PySem.W.Frag) (g : Ads) (E : XK) : TS :=
  (tSeq (sFld K (zVar 0) (tCB (zTupOf K) (tCons (zVar 1) tNil)) "cells")
  (R_Service_init_14 P w K g E))
def R_Service_init_12 (P : Program) (w : World) (K : PySem.W.Frag) (g : Ads) (E : XK) : TS :=
  (tSeq (sFld K (zVar 0) (zVar 5) "handlers")
  (R_Service_init_13 P w K g E))
def R_Service_init_10 (P : Program) (w : World) (K : PySem.W.Frag) (g : Ads) (E : XK) : TS :=
  (tSeq (tIfS (zTest (tOp zGt (tCB (zLen K) (tCons (zVar 5) tNil)) (tC (.int 6))))
  (R_Service_init_11 P w K g E)
  tNext)
  (R_Service_init_12 P w K g E))
def R_Service_init_9 (P : Program) (w : World) (K : PySem.W.Frag) (g : Ads) (E : XK) : TS :=
  (tSeq (tDrop (zCall (sp_check_unlike K g) [] (WE (fun cls d _ H => E cls d H)) (tCons (zLc (iTup K (zVar 5)) (gName 8) tYes (tFld K (zVar 8) "name") [8]) tNil)))
  (R_Service_init_10 P w K g E))
def R_Service_init_7 (P : Program) (w : World) (K : PySem.W.Frag) (g : Ads) (E : XK) : TS :=
  (tSeq (tIfS (zTest (tOp zGt (tCB (rNuC3 nuMax3) (tCons (tCB (zLen K) (tCons (zVar 2) tNil)) (tCons (tCB (zLen K) (tCons (zVar 3) tNil)) (tCons (tCB (zLen K) (tCons (zVar 4) tNil)) tNil)))) (tC (.int 4))))
  (R_Service_init_8 P w K g E)
  tNext)
  (R_Service_init_9 P w K g E))
def R_Service_init_5 (P : Program) (w : World) (K : PySem.W.Frag) (g : Ads) (E : XK) : TS :=
  (tSeq (tIfS (zTest (tOp zGt (tCB (zLen K) (tCons (zVar 1) tNil)) (tC (.int 6))))
  (R_Service_init_6 P w K g E)
  tNext)
  (R_Service_init_7 P w K g E))
def R_Service_init_4 (P : Program) (w : World) (K : PySem.W.Frag) (g : Ads) (E : XK) : TS :=
  (tSeq (tDrop (zCall (sp_check_unlike K g) [] (WE (fun cls d _ H => E cls d H)) (tCons (zVar 6) tNil)))
  (R_Service_init_5 P w K g E))
def R_Service_init_2 (P : Program) (w : World) (K : PySem.W.Frag) (g : Ads) (E : XK) : TS :=
  (tSeq (zFor (iList K (zVar 6)) (gName 7)
  (R_Service_init_3 P w K g E))
  (R_Service_init_4 P w K g E))
def R_Service_init (P : Program) (w : World) (K : PySem.W.Frag) (g : Ads) (E : XK) : TS :=
  (tSeq (tAsg (tLst (StX.tStar K (zVar 1) (StX.tStar K (zVar 2) (StX.tStar K (zVar 3) (StX.tStar K (zVar 4) tNil))))) (gName 6))
  (R_Service_init_2 P w K g E))
def rw_Service_init (P : Program) (w : World) (K : PySem.W.Frag) (g : Ads) : Sp := fun vs H Q E => vs.length = 6 ∧ R_Service_init P w K g E { nx := fun _ H' => Q .non H', rt := Q } (start ["self", "cells", "sources", "slots", "fields", "handlers", "names", "name", "handler", "thing"] vs) H
theorem raw_Service_init {P : Program} {w : World} {K : PySem.W.Frag} {mg : Str → Option Value} {base : Heap} {g : Ads} (T : Txt K mg g) : FnS false P w K mg base 4 g.f_Service_init g.d_Service_init ["self", "cells", "sources", "slots", "fields", "handlers"] 1 4 (rw_Service_init P w K g) := by
  refine okS T.f_Service_init sc_Service_init rfl (fun cdv A outer s H vs Q E hr hgu h => ⟨R_Service_init P w K g E, ?_, h.2⟩)
  exact (pss_cons (ps_set (i := 6) sc_Service_init.nd rfl (Or.inl rfl) (pe_lst (StX.pa_star (zv 1) (StX.pa_star (zv 2) (StX.pa_star (zv 3) (StX.pa_star (zv 4) pa_nil))))))
  (pss_cons (psz_for PassesOwn.leaving rfl (pi_list (zv 6)) (pg_name (i := 7) sc_Service_init.nd rfl (Or.inl rfl))
  (pss_one (ps_expr (pe_callZ (ok_check_name T) (hr.mono (by decide)) (fun z => nomatch z) rfl T.g_check_name T.k_check_name T.e_check_name .nil (fun σ => passAt (takes_of rfl rfl rfl rfl) σ) (pa_cons (zv 7) pa_nil)))))
  (pss_cons (ps_expr (pe_callZ (ok_check_unlike T) (hr.mono (by decide)) (fun z => nomatch z) rfl T.g_check_unlike T.k_check_unlike T.e_check_unlike .nil (fun σ => passAt (takes_of rfl rfl rfl rfl) σ) (pa_cons (zv 6) pa_nil)))
  (pss_cons (ps_if (ptz_cmp op_zGt (pe_callB call_lenZ (by rfl) T.b_len (by decide +kernel) (pa_cons (zv 1) pa_nil)) (pe_cint rfl T.n_MOST_CELLS) (nomark _))
  (pss_one (ps_raise rfl (takes_of rfl rfl rfl rfl) (pmk_ZB T.o_TooMany T.i_TooMany T.t_TooMany (ok_TooMany_init T) (hr.mono (by decide)) (fun z => nomatch z) T.e_TooMany_init rfl T.g_TooMany (by exact (pa_cons (pe_cint rfl T.n_MOST_CELLS) pa_nil)))))
  pss_nil)
  (pss_cons (ps_if (ptz_cmp op_zGt (pe_callB (call_max3Nu rfl) (by rfl) T.b_max (by decide +kernel) (pa_cons (pe_callB call_lenZ (by rfl) T.b_len (by decide +kernel) (pa_cons (zv 2) pa_nil)) (pa_cons (pe_callB call_lenZ (by rfl) T.b_len (by decide +kernel) (pa_cons (zv 3) pa_nil)) (pa_cons (pe_callB call_lenZ (by rfl) T.b_len (by decide +kernel) (pa_cons (zv 4) pa_nil)) pa_nil)))) (pe_cint rfl T.n_MOST_OTHERS) (nomark _))
  (pss_one (ps_raise rfl (takes_of rfl rfl rfl rfl) (pmk_ZB T.o_TooMany T.i_TooMany T.t_TooMany (ok_TooMany_init T) (hr.mono (by decide)) (fun z => nomatch z) T.e_TooMany_init rfl T.g_TooMany (by exact (pa_cons (pe_cint rfl T.n_MOST_OTHERS) pa_nil)))))
  pss_nil)
  (pss_cons (ps_expr (pe_callZ (ok_check_unlike T) (hr.mono (by decide)) (fun z => nomatch z) rfl T.g_check_unlike T.k_check_unlike T.e_check_unlike .nil (fun σ => passAt (takes_of rfl rfl rfl rfl) σ) (pa_cons (pez_lc (own := [("handler", 8)]) rfl sc_Service_init.nd (pi_tup (zv 5)) (blkOk_by (own := [("handler", 8)]) (N := ["self", "cells", "sources", "slots", "fields", "handlers", "names", "name", "handler", "thing"]) (sc := defScope s_Service_init) (by decide +kernel)) (fun _ _ _ _ _ => pg_name (i := 8) sc_Service_init.nd rfl (Or.inl rfl)) (fun _ _ _ _ _ => pts_nil) (fun _ _ _ _ _ => (pe_fld (zv 8) rfl))) pa_nil)))
  (pss_cons (ps_if (ptz_cmp op_zGt (pe_callB call_lenZ (by rfl) T.b_len (by decide +kernel) (pa_cons (zv 5) pa_nil)) (pe_cint rfl T.n_MOST_HANDLERS) (nomark _))
  (pss_one (ps_raise rfl (takes_of rfl rfl rfl rfl) (pmk_ZB T.o_TooMany T.i_TooMany T.t_TooMany (ok_TooMany_init T) (hr.mono (by decide)) (fun z => nomatch z) T.e_TooMany_init rfl T.g_TooMany (by exact (pa_cons (pe_cint rfl T.n_MOST_HANDLERS) pa_nil)))))
  pss_nil)
  (pss_cons (ps_fld (zv 0) (zv 5) rfl)
  (pss_cons (ps_fld (zv 0) (pe_callTy call_tupZ (by rfl) T.b_tuple (by decide +kernel) (pa_cons (zv 1) pa_nil)) rfl)
  (pss_cons (ps_fld (zv 0) (pe_callTy call_tupZ (by rfl) T.b_tuple (by decide +kernel) (pa_cons (zv 2) pa_nil)) rfl)
  (pss_cons (ps_fld (zv 0) (pe_callTy call_tupZ (by rfl) T.b_tuple (by decide +kernel) (pa_cons (zv 3) pa_nil)) rfl)
  (pss_cons (ps_fld (zv 0) (pe_callTy call_tupZ (by rfl) T.b_tuple (by decide +kernel) (pa_cons (zv 4) pa_nil)) rfl)
  (pss_cons (ps_fld (zv 0) (pe_tup (StX.pa_star (zv 1) (StX.pa_star (zv 3) (StX.pa_star (zv 4) pa_nil)))) rfl)
  (pss_cons (psz_for PassesOwn.leaving rfl (pi_tup (zv 5)) (pg_name (i := 8) sc_Service_init.nd rfl (Or.inl rfl))
  (pss_one ps_dead))
  (pss_one (ps_fld (zv 0) (pe_callTy call_tupZ (by rfl) T.b_tuple (by decide +kernel) (pa_cons (pe_callB (cr_sortedSet rfl) (by rfl) T.b_sorted (by decide +kernel) (pa_cons (pez_scI (own := [("thing", 9)]) rfl sc_Service_init.nd (pi_list (pe_methZ0 (zv 0) T.cl_Service ⟨T.a_Service_all_operands, T.i_Service_all_operands, T.f_Service_all_operands.kp⟩ (ok_Service_all_operands T) (hr.mono (by decide)) (fun z => nomatch z) T.e_Service_all_operands .nil (fun σ => passAt (takes_of rfl rfl rfl rfl) σ))) (blkOk_by (own := [("thing", 9)]) (N := ["self", "cells", "sources", "slots", "fields", "handlers", "names", "name", "handler", "thing"]) (sc := defScope s_Service_init) (by decide +kernel)) (fun _ _ _ _ _ => pg_name (i := 9) sc_Service_init.nd rfl (Or.inl rfl)) (fun _ _ _ _ _ => pts_one (ptz_truth (pe_callZ (ok_is_int T) (hr.mono (by decide)) (fun z => nomatch z) rfl T.g_is_int T.k_is_int T.e_is_int .nil passE0 (pa_cons (zv 9) pa_nil)) (by intro _; rfl))) (fun _ _ _ _ _ => (zv 9))) pa_nil)) pa_nil)) rfl))))))))))))))))
theorem pf_Service_init {P : Program} {w : World} {K : PySem.W.Frag} {mg : Str → Option Value} {g : Ads} (T : Txt K mg g) (us : List V) (H : Hp) (Q : VK) (E : XK) (h : sp_Service_init K g us H Q E) : rw_Service_init P w K g us H Q E := by
  obtain ⟨o, dx, ca, so, sl, fi, ht, vc, vs, vl, vf, hs, rfl, ho, hc, hso, hsl, hf, hht, hA, hk, lc, ls, ll, lf, lh, q1, q2⟩ := h
  refine ⟨rfl, ?_⟩
  have keep : ∀ {H'}, But o H H' → Same (hid [o] H) H' := fun b => (hid_but b).trans hid_sub
  have k0 := keep (But.refl o H)
  obtain ⟨nm, enm⟩ : ∃ nm, nm = vc ++ (vs ++ (vl ++ vf)) := ⟨_, rfl⟩
  have e4 : vc ++ (vs ++ (vl ++ (vf ++ []))) = nm := by rw [List.append_nil, enm]
  refine ⟨ca, vc, rfl, hc.same k0, so, vs, rfl, hso.same k0, sl, vl, rfl, hsl.same k0, fi, vf, rfl, hf.same k0, ?_, fun N hN => ?_⟩
  · simp only [List.length_append, List.length_nil]
    exact Nat.le_trans (show vc.length + (vs.length + (vl.length + (vf.length + 0))) ≤ 400 by omega) (by decide)
  show R_Service_init_2 P w K g E { nx := fun _ H' => Q .non H', rt := Q } [some (.ref o), some (.ref ca), some (.ref so), some (.ref sl), some (.ref fi), some (.ref ht), some (.ref N), none, none, none] (upd H N (.lst (vc ++ (vs ++ (vl ++ (vf ++ []))))))
  rw [e4]
  have s1 : Same H (upd H N (.lst nm)) := Same.put hN
  have eN := upd_same (H := H) (a := N) (o := .lst nm)
  generalize upd H N (.lst nm) = H1 at s1 eN ⊢
  refine ⟨N, rfl, ⟨_, SqL.of eN⟩, for_z (walk_list (xs := nm)) (fun i σ H' => Same H1 H' ∧ (∀ v ∈ nm.take i, isNameV v = true) ∧ ∃ v7, σ = [some (.ref o), some (.ref ca), some (.ref so), some (.ref sl), some (.ref fi), some (.ref ht), some (.ref N), v7, none, none]) ⟨Same.refl _, (fun v hv => absurd hv (by simp)), _, rfl⟩ (fun i σ H' _ h => SqL.of (h.1 _ _ eN)) ?_ ?_⟩
  · rintro i x σ H2 H2' hi ⟨s2, hn, v7, rfl⟩ ⟨rfl, hx⟩
    have mx := List.mem_of_getElem? hx
    have kx : Knd K H2' x := (hk x (by rw [← enm]; exact mx)).same (keep (But.same (s1.trans s2)))
    refine ⟨x, rfl, kx, fun n H3 s3 => ⟨s2.trans s3, fun v hv => ?_, _, rfl⟩, fun n H3 dd s3 hd ex => ?_⟩
    · rw [List.take_add_one, hx] at hv
      rcases List.mem_append.mp hv with h | h
      · exact hn v h
      · obtain rfl : v = x := by simpa using h
        exact n
    · refine q2 .nm x ?_ H3 dd (But.same ((s1.trans s2).trans s3)) ((s1.trans s2).free hd) ex
      have e := find_at (p := fun v => !isNameV v) hx (by simp [n]) (fun w hw => by simp [hn w hw])
      unfold svOut
      rw [← enm]
      simp only [e]
  rintro σ H2 ⟨s2, hn, v7, rfl⟩
  rw [List.take_length] at hn
  have en := names_strs hn
  have o1 : svOut vc vs vl vf (hs.map (·.2)) = svOut1 vc vs vl vf (hs.map (·.2)) := by
    have e : nm.find? (fun v => !isNameV v) = none := List.find?_eq_none.mpr fun v hv => by simp [hn v hv]
    unfold svOut
    rw [← enm]
    simp only [e]
  rw [o1] at q1 q2
  have s12 := s1.trans s2
  refine ⟨N, nm.map strOf, rfl, by rw [← en]; exact SqL.of (s2 _ _ eN), fun d0 H3 s3 => ?_, fun z ez H3 dd s3 hd ex => ?_⟩
  rotate_left
  · refine q2 .tw (.str z) ?_ H3 dd (But.same (s12.trans s3)) (s12.free hd) ex
    unfold svOut1
    rw [← enm]
    simp only [ez]
  have o2 : svOut1 vc vs vl vf (hs.map (·.2)) = svOut2 vc vs vl vf (hs.map (·.2)) := by
    unfold svOut1
    rw [← enm]
    simp only [d0]
  rw [o2] at q1 q2
  have s13 := s12.trans s3
  have k3 := keep (But.same s13)
  have er : ∀ n : Int, svOut2 vc vs vl vf (hs.map (·.2)) = .err .mn (.int n) → ∀ H4, Same H H4 → ∀ d, H4 d = none → E (.ref g.c_TooMany) (some d) (upd H4 d (.xd [("limit", .int n)])) := fun n e H4 s4 d hd => q2 .mn (.int n) e _ d (But.same (s4.trans (Same.put hd))) (s4.free hd) upd_same
  refine ⟨vc, (hc.same k3).sw, zite (fun h6 => ?_) (fun h6 => ?_)⟩
  · have h6' := of_decide_eq_true h6
    exact raise_at fun d hd => er 6 (by unfold svOut2; rw [if_pos (by omega)]) H3 s13 d hd
  have h6' := of_decide_eq_false h6
  obtain ⟨m, em, hm⟩ := max3_int vs.length vl.length vf.length
  refine ⟨vs, (hso.same k3).sw, vl, (hsl.same k3).sw, vf, (hf.same k3).sw, _, _, _, _, rfl, em, zite (fun h4 => ?_) (fun h4 => ?_)⟩
  · have h4' := hm.mp (of_decide_eq_true h4)
    exact raise_at fun d hd => er 4 (by unfold svOut2; rw [if_neg (by omega), if_pos (by omega)]) H3 s13 d hd
  have h4' : ¬ (4 < m) := of_decide_eq_false h4
  rw [hm] at h4'
  have o3 : svOut2 vc vs vl vf (hs.map (·.2)) = svOut3 (hs.map (·.2)) := by
    unfold svOut2
    rw [if_neg (by omega), if_neg (by omega)]
  rw [o3] at q1 q2 er
  refine ⟨ht, rfl, ⟨_, Z.Same.tup k3 hht⟩, lc_map (walk_tup (xs := hs.map fun h => V.ref h.1)) (fun i => .str ((hs.map (·.2)).getD i "")) ?_ (fun H' s => Z.Same.tup (k3.trans s) hht) (fun i x H0 H' hi s y => ?_) (fun D hD => ?_)⟩
  · rw [List.length_map]
    exact Nat.le_trans lh (by decide)
  · obtain ⟨rfl, hx⟩ := y
    obtain ⟨a, rfl, ea, ha⟩ := get_hnds hx
    cases hA ▸ ha
  have sD := Same.put (o := .lst ((List.range (hs.map fun h => V.ref h.1).length).map fun i => V.str ((hs.map (·.2)).getD i ""))) hD
  have eD : (upd H3 D (.lst ((List.range (hs.map fun h => V.ref h.1).length).map fun i => V.str ((hs.map (·.2)).getD i "")))) D = some (.lst ((hs.map (·.2)).map V.str)) := by
    rw [upd_same]
    have := range_strs (hs.map (·.2))
    rw [List.length_map] at this ⊢
    rw [this]
  refine ⟨D, hs.map (·.2), rfl, SqL.of eD, fun d1 H4 s4 => ?_, fun z ez H4 dd s4 hd ex => ?_⟩
  rotate_left
  · refine q2 .tw (.str z) ?_ H4 dd (But.same ((s13.trans sD).trans s4)) ((s13.trans sD).free hd) ex
    unfold svOut3
    simp only [ez]
  have s14 := (s13.trans sD).trans s4
  have k4 := keep (But.same s14)
  have o4 : svOut3 (hs.map (·.2)) = if 6 < (hs.map (·.2)).length then .err .mn (.int 6) else .ok := by
    unfold svOut3
    simp only [d1]
  rw [o4, List.length_map] at q1 q2 er
  refine ⟨hs.map (fun h => V.ref h.1), .inr (Z.Same.tup k4 hht), zite (fun h7 => ?_) (fun h7 => ?_)⟩
  · have h7' := of_decide_eq_true h7
    rw [List.length_map] at h7'
    exact raise_at fun d hd => er 6 (by rw [if_pos (by omega)]) H4 s14 d hd
  have h7' := of_decide_eq_false h7
  rw [List.length_map] at h7'
  rw [if_neg (by omega)] at q1
  have q1 := q1 rfl
  have b4 := But.same (p := o) s14
  have e4 := s14 _ _ ho
  refine ⟨o, _, dx, _, rfl, e4, T.cl_Service, T.na_Service_handlers, show 0 < 1000 by decide, ?_⟩
  have b5 : But o H (upd H4 o (.ins g.c_Service dx [("handlers", .ref ht)])) := b4.trans But.put
  have e5 := upd_same (H := H4) (a := o) (o := .ins g.c_Service dx [("handlers", .ref ht)])
  show R_Service_init_13 P w K g E { nx := fun _ H' => Q .non H', rt := Q } [some (.ref o), some (.ref ca), some (.ref so), some (.ref sl), some (.ref fi), some (.ref ht), some (.ref N), v7, none, none] (upd H4 o (.ins g.c_Service dx [("handlers", .ref ht)]))
  generalize upd H4 o (.ins g.c_Service dx [("handlers", .ref ht)]) = H5 at b5 e5 ⊢
  refine seq_of (sfld_tup (a := ca) (o := o) rfl rfl (hc.same (keep b5)) e5 T.cl_Service T.na_Service_cells (show 1 < 1000 by decide) fun c_ H6 s6 hc6 => ?_)
  have t6 : But o H6 (upd H6 o (.ins g.c_Service dx [("handlers", .ref ht), ("cells", .ref c_)])) := But.put
  have i6 := s6 _ _ e5
  have b6 := (b5.trans (But.same s6)).trans t6
  have hc7 := t6.tup2 i6 hc6
  have e6 := upd_same (H := H6) (a := o) (o := .ins g.c_Service dx [("handlers", .ref ht), ("cells", .ref c_)])
  show R_Service_init_14 P w K g E { nx := fun _ H' => Q .non H', rt := Q } [some (.ref o), some (.ref ca), some (.ref so), some (.ref sl), some (.ref fi), some (.ref ht), some (.ref N), v7, none, none] (upd H6 o (.ins g.c_Service dx [("handlers", .ref ht), ("cells", .ref c_)]))
  clear i6
  generalize upd H6 o (.ins g.c_Service dx [("handlers", .ref ht), ("cells", .ref c_)]) = G6 at b6 e6 t6 hc7 ⊢
  clear t6
  refine seq_of (sfld_tup (a := so) (o := o) rfl rfl (hso.same (keep b6)) e6 T.cl_Service T.na_Service_sources (show 2 < 1000 by decide) fun s_ H7 s7 hs7 => ?_)
  have t7 : But o H7 (upd H7 o (.ins g.c_Service dx [("handlers", .ref ht), ("cells", .ref c_), ("sources", .ref s_)])) := But.put
  have i7 := s7 _ _ e6
  have b7 := (b6.trans (But.same s7)).trans t7
  have hc8 := t7.tup2 i7 (Z.Same.tup s7 hc7)
  have hs8 := t7.tup2 i7 hs7
  have e7 := upd_same (H := H7) (a := o) (o := .ins g.c_Service dx [("handlers", .ref ht), ("cells", .ref c_), ("sources", .ref s_)])
  show R_Service_init_15 P w K g E { nx := fun _ H' => Q .non H', rt := Q } [some (.ref o), some (.ref ca), some (.ref so), some (.ref sl), some (.ref fi), some (.ref ht), some (.ref N), v7, none, none] (upd H7 o (.ins g.c_Service dx [("handlers", .ref ht), ("cells", .ref c_), ("sources", .ref s_)]))
  clear i7
  generalize upd H7 o (.ins g.c_Service dx [("handlers", .ref ht), ("cells", .ref c_), ("sources", .ref s_)]) = G7 at b7 e7 t7 hc8 hs8 ⊢
  clear t7
  refine seq_of (sfld_tup (a := sl) (o := o) rfl rfl (hsl.same (keep b7)) e7 T.cl_Service T.na_Service_slots (show 3 < 1000 by decide) fun l_ H8 s8 hl8 => ?_)
  have t8 : But o H8 (upd H8 o (.ins g.c_Service dx [("handlers", .ref ht), ("cells", .ref c_), ("sources", .ref s_), ("slots", .ref l_)])) := But.put
  have i8 := s8 _ _ e7
  have b8 := (b7.trans (But.same s8)).trans t8
  have hc9 := t8.tup2 i8 (Z.Same.tup s8 hc8)
  have hs9 := t8.tup2 i8 (Z.Same.tup s8 hs8)
  have hl9 := t8.tup2 i8 hl8
  have e8 := upd_same (H := H8) (a := o) (o := .ins g.c_Service dx [("handlers", .ref ht), ("cells", .ref c_), ("sources", .ref s_), ("slots", .ref l_)])
  show R_Service_init_16 P w K g E { nx := fun _ H' => Q .non H', rt := Q } [some (.ref o), some (.ref ca), some (.ref so), some (.ref sl), some (.ref fi), some (.ref ht), some (.ref N), v7, none, none] (upd H8 o (.ins g.c_Service dx [("handlers", .ref ht), ("cells", .ref c_), ("sources", .ref s_), ("slots", .ref l_)]))
  clear i8
  generalize upd H8 o (.ins g.c_Service dx [("handlers", .ref ht), ("cells", .ref c_), ("sources", .ref s_), ("slots", .ref l_)]) = G8 at b8 e8 t8 hc9 hs9 hl9 ⊢
  clear t8
  refine seq_of (sfld_tup (a := fi) (o := o) rfl rfl (hf.same (keep b8)) e8 T.cl_Service T.na_Service_fields (show 4 < 1000 by decide) fun f_ H9 s9 hf9 => ?_)
  have t9 : But o H9 (upd H9 o (.ins g.c_Service dx [("handlers", .ref ht), ("cells", .ref c_), ("sources", .ref s_), ("slots", .ref l_), ("fields", .ref f_)])) := But.put
  have i9 := s9 _ _ e8
  have b9 := (b8.trans (But.same s9)).trans t9
  have hc10 := t9.tup2 i9 (Z.Same.tup s9 hc9)
  have hs10 := t9.tup2 i9 (Z.Same.tup s9 hs9)
  have hl10 := t9.tup2 i9 (Z.Same.tup s9 hl9)
  have hf10 := t9.tup2 i9 hf9
  have e9 := upd_same (H := H9) (a := o) (o := .ins g.c_Service dx [("handlers", .ref ht), ("cells", .ref c_), ("sources", .ref s_), ("slots", .ref l_), ("fields", .ref f_)])
  show R_Service_init_17 P w K g E { nx := fun _ H' => Q .non H', rt := Q } [some (.ref o), some (.ref ca), some (.ref so), some (.ref sl), some (.ref fi), some (.ref ht), some (.ref N), v7, none, none] (upd H9 o (.ins g.c_Service dx [("handlers", .ref ht), ("cells", .ref c_), ("sources", .ref s_), ("slots", .ref l_), ("fields", .ref f_)]))
  clear i9
  generalize upd H9 o (.ins g.c_Service dx [("handlers", .ref ht), ("cells", .ref c_), ("sources", .ref s_), ("slots", .ref l_), ("fields", .ref f_)]) = G9 at b9 e9 t9 hc10 hs10 hl10 hf10 ⊢
  clear t9
  have kp := keep b9
  refine ⟨ca, vc, rfl, hc.same kp, sl, vl, rfl, hsl.same kp, fi, vf, rfl, hf.same kp, ?_, fun pl hpl => ⟨o, _, dx, _, rfl, Same.put hpl _ _ e9, T.cl_Service, T.na_Service_places, show 5 < 1000 by decide, ?_⟩⟩
  · simp only [List.length_append, List.length_nil]
    exact Nat.le_trans (show vc.length + (vl.length + (vf.length + 0)) ≤ 300 by omega) (by decide)
  rw [List.append_nil]
  have sp := Same.put (o := .tup (vc ++ (vl ++ vf))) hpl
  have ip := sp _ _ e9
  have tp : But o (upd G9 pl (.tup (vc ++ (vl ++ vf)))) (upd (upd G9 pl (.tup (vc ++ (vl ++ vf)))) o (.ins g.c_Service dx [("handlers", .ref ht), ("cells", .ref c_), ("sources", .ref s_), ("slots", .ref l_), ("fields", .ref f_), ("places", .ref pl)])) := But.put
  have bp := (b9.trans (But.same sp)).trans tp
  have hcp := tp.tup2 ip (Z.Same.tup sp hc10)
  have hsp := tp.tup2 ip (Z.Same.tup sp hs10)
  have hlp := tp.tup2 ip (Z.Same.tup sp hl10)
  have hfp := tp.tup2 ip (Z.Same.tup sp hf10)
  have hpp := tp.tup2 ip (xs := vc ++ (vl ++ vf)) (a := pl) (K := K) (SqT.of upd_same)
  have ep := upd_same (H := (upd G9 pl (.tup (vc ++ (vl ++ vf))))) (a := o) (o := .ins g.c_Service dx [("handlers", .ref ht), ("cells", .ref c_), ("sources", .ref s_), ("slots", .ref l_), ("fields", .ref f_), ("places", .ref pl)])
  show R_Service_init_18 P w K g E { nx := fun _ H' => Q .non H', rt := Q } [some (.ref o), some (.ref ca), some (.ref so), some (.ref sl), some (.ref fi), some (.ref ht), some (.ref N), v7, none, none] (upd (upd G9 pl (.tup (vc ++ (vl ++ vf)))) o (.ins g.c_Service dx [("handlers", .ref ht), ("cells", .ref c_), ("sources", .ref s_), ("slots", .ref l_), ("fields", .ref f_), ("places", .ref pl)]))
  clear ip
  generalize upd (upd G9 pl (.tup (vc ++ (vl ++ vf)))) o (.ins g.c_Service dx [("handlers", .ref ht), ("cells", .ref c_), ("sources", .ref s_), ("slots", .ref l_), ("fields", .ref f_), ("places", .ref pl)]) = J0 at bp ep tp hcp hsp hlp hfp hpp ⊢
  clear tp
  have kj := keep bp
  refine ⟨ht, rfl, ⟨_, Z.Same.tup kj hht⟩, for_z (walk_tup (xs := hs.map fun h => V.ref h.1)) (fun i σ H' => Same J0 H' ∧ ∃ v8, σ = [some (.ref o), some (.ref ca), some (.ref so), some (.ref sl), some (.ref fi), some (.ref ht), some (.ref N), v7, v8, none]) ⟨Same.refl _, _, rfl⟩ (fun i σ H' _ h => Z.Same.tup (kj.trans h.1) hht) ?_ ?_⟩
  · rintro i x σ J1 J1' hi ⟨sj, v8, rfl⟩ ⟨rfl, hx⟩
    obtain ⟨a, rfl, ea, ha⟩ := get_hnds hx
    cases hA ▸ ha
  rintro σ J1 ⟨sj, v8, rfl⟩
  have ej := sj _ _ ep
  refine ⟨o, dx, _, rfl, ej, rfl, o, dx, ht, _, hs, rfl, ej, rfl, Z.Same.tup (kj.trans sj) hht, hA.same (kj.trans sj), fun p J2 s2 hp er => ⟨p, rfl, ⟨_, SqL.of er⟩, sc_zI (walk_list (xs := [])) (fun D i H' => Same J2 H' ∧ H' D = some (SetO w D (fun _ => false) 0)) (fun D hD => ⟨Same.put hD, upd_same⟩) (fun D i H' hD hi h => SqL.of (h.1 _ _ er)) (fun D i x H1 H1' hD hi => absurd hi (Nat.not_lt_zero _)) fun D J3 hD ⟨s3, eD⟩ => ⟨D, _, 0, rfl, eD, by decide, fun ns q hp hk hl hq => ?_⟩⟩⟩
  obtain rfl : ns = [] := List.length_eq_zero_iff.mp hl
  have sq := Same.put (o := .lst (([] : List Int).map V.int)) hq
  refine ⟨[], .inl ⟨SqL.of upd_same, fun cn hcn => ?_⟩⟩
  have sn := Same.put (o := .tup []) hcn
  have sa := (((sj.trans s2).trans s3).trans sq).trans sn
  have ia := sa _ _ ep
  refine ⟨o, _, dx, _, rfl, ia, T.cl_Service, T.na_Service_constants, show 6 < 1000 by decide, ?_⟩
  have tz : ∀ u, But o (upd (upd J3 q (.lst (([] : List Int).map V.int))) cn (.tup [])) (upd (upd (upd J3 q (.lst (([] : List Int).map V.int))) cn (.tup [])) o u) := fun u => But.put
  refine q1 _ ((bp.trans (But.same sa)).trans (tz _)) ⟨dx, ht, c_, s_, l_, f_, pl, cn, upd_same, (tz _).tup2 ia (Z.Same.tup sa hcp), (tz _).tup2 ia (Z.Same.tup sa hsp), (tz _).tup2 ia (Z.Same.tup sa hlp), (tz _).tup2 ia (Z.Same.tup sa hfp), (tz _).tup2 ia (Z.Same.tup (kj.trans sa) hht), (tz _).tup2 ia (Z.Same.tup sa hpp), (tz _).tup2 ia (SqT.of upd_same)⟩
theorem ok_Service_init {P : Program} {w : World} {K : PySem.W.Frag} {mg : Str → Option Value} {base : Heap} {g : Ads} (T : Txt K mg g) : FnS false P w K mg base 4 g.f_Service_init g.d_Service_init ["self", "cells", "sources", "slots", "fields", "handlers"] 1 4 (sp_Service_init K g) := (raw_Service_init T).imp (pf_Service_init T)
end Z
namespace Z
open PySem PySem.Spec PyProof.Rows L2
theorem svat_same {K : PySem.W.Frag} {g : Ads} {H H' : Hp} {o : Addr} {vc vs vl vf : List V} {hs : List (Addr × Str)} (h : SvAt K g H o vc vs vl vf hs) (s : Same H H') : SvAt K g H' o vc vs vl vf hs := by
  obtain ⟨dx, ht, c, s_, l, f, pl, cn, h1, h2, h3, h4, h5, h6, h7, h8⟩ := h
  exact ⟨dx, ht, c, s_, l, f, pl, cn, s _ _ h1, Z.Same.tup s h2, Z.Same.tup s h3, Z.Same.tup s h4, Z.Same.tup s h5, Z.Same.tup s h6, Z.Same.tup s h7, Z.Same.tup s h8⟩
theorem service_new {K : PySem.W.Frag} {g : Ads} {H : Hp} {Q : VK} {E : XK} {ca so sl fi : Addr} {vc vs vl vf : List V} {hs : List (Addr × Str)} (hc : Sq K H ca vc) (hso : Sq K H so vs) (hsl : Sq K H sl vl) (hf : Sq K H fi vf) (hA : HndsAt K g H hs) (hk : ∀ v ∈ vc ++ (vs ++ (vl ++ vf)), Knd K H v)
    (lc : vc.length ≤ 100) (ls : vs.length ≤ 100) (ll : vl.length ≤ 100) (lf : vf.length ≤ 100) (lh : hs.length ≤ 100) (q1 : svOut vc vs vl vf (hs.map (·.2)) = .ok → ∀ H' o, Same H H' → H o = none → SvAt K g H' o vc vs vl vf hs → Q (.ref o) H') (q2 : Errs g (svOut vc vs vl vf (hs.map (·.2))) H E) :
    ∀ o dx p, H o = none → H dx = none → dx ≠ o → (upd (upd H dx (.own o)) o (.ins g.c_Service dx [])) p = none →
      sp_Service_init K g [.ref o, .ref ca, .ref so, .ref sl, .ref fi, .ref p] (upd (upd (upd H dx (.own o)) o (.ins g.c_Service dx [])) p (.tup (hs.map fun h => V.ref h.1))) (fun v H2 => v = .non ∧ Q (.ref o) H2) E := by
  intro o dx p ho hd ne hp
  obtain ⟨s1, _⟩ := mk_same (C := g.c_Service) ho hd ne
  have s2 := s1.trans (Same.put (o := .tup (hs.map fun h => V.ref h.1)) hp)
  have np : o ≠ p := ne_of_none upd_same hp
  have m := mk_hid ho s2
  refine ⟨o, dx, ca, so, sl, fi, p, vc, vs, vl, vf, hs, rfl, by rw [upd_ne np, upd_same], hc.same m, hso.same m, hsl.same m, hf.same m, .inl (.inl (hid_at (by simpa using np.symm) upd_same)), hA.same m, fun v hv => (hk v hv).same m, lc, ls, ll, lf, lh, fun e H' b sv => ⟨rfl, q1 e H' o (mk_out ho s2 b) ho sv⟩, fun k v e H' dd b hdd ex => q2 k v e H' dd (mk_out ho s2 b) (s2.free hdd) ex⟩
def sp_Service_made (K : PySem.W.Frag) (g : Ads) : Sp := fun us H Q E => ∃ (hl ca so sl fi : Addr) (vc vs vl vf : List V) (hs : List (Addr × Str)), us = [.ref g.c_Service, .ref hl, .ref ca, .ref so, .ref sl, .ref fi] ∧ Sq K H hl (hs.map fun h => V.ref h.1) ∧
  Sq K H ca vc ∧ Sq K H so vs ∧ Sq K H sl vl ∧ Sq K H fi vf ∧ HndsAt K g H hs ∧ (∀ v ∈ vc ++ (vs ++ (vl ++ vf)), Knd K H v) ∧
  vc.length ≤ 100 ∧ vs.length ≤ 100 ∧ vl.length ≤ 100 ∧ vf.length ≤ 100 ∧ hs.length ≤ 100 ∧ (svOut vc vs vl vf (hs.map (·.2)) = .ok → ∀ H' o, Same H H' → H o = none → SvAt K g H' o vc vs vl vf hs → Q (.ref o) H') ∧ Errs g (svOut vc vs vl vf (hs.map (·.2))) H E
theorem sc_Service_made : FnScope ["cls", "handlers", "cells", "sources", "slots", "fields"] ["cls", "handlers", "cells", "sources", "slots", "fields"] (defScope s_Service_made) := ⟨rfl, rfl, rfl, by decide +kernel, rfl, by decide +kernel, by decide +kernel⟩
def R_Service_made (K : PySem.W.Frag) (g : Ads) (E : XK) : TS :=
  (tRet (zNewLK K 0 g.c_Service 4 (sp_Service_init K g) (fun zs => zs) (WE (fun cls d _ H => E cls d H)) (zVar 1) (tCons (zVar 2) (tCons (zVar 3) (tCons (zVar 4) (tCons (zVar 5) tNil))))))
def rw_Service_made (K : PySem.W.Frag) (g : Ads) : Sp := fun vs H Q E => vs.length = 6 ∧ R_Service_made K g E { nx := fun _ H' => Q .non H', rt := Q } (start ["cls", "handlers", "cells", "sources", "slots", "fields"] vs) H
theorem raw_Service_made {P : Program} {w : World} {K : PySem.W.Frag} {mg : Str → Option Value} {base : Heap} {g : Ads} (T : Txt K mg g) : FnG false P w K mg base 6 g.f_Service_made g.d_Service_made ["cls", "handlers", "cells", "sources", "slots", "fields"] (rw_Service_made K g) := by
  refine okZ T.f_Service_made sc_Service_made (fun vs H Q E h => h.1) (fun cdv A outer s H vs Q E hr hgu h => ⟨R_Service_made K g E, ?_, h.2⟩)
  exact (pss_one (ps_ret (pe_zNewLK (i := 0) (ks := ["cells", "sources", "slots", "fields"]) T.m_Service (ok_Service_init T) (hr.mono (by decide)) (fun z => nomatch z) T.sb_Service_init rfl (Or.inl rfl) (fun σ => passAt (takes_of rfl rfl rfl rfl) σ) (zv 1) (pk_cons (zv 2) (pk_cons (zv 3) (pk_cons (zv 4) (pk_cons (zv 5) pk_nil)))))))
theorem ok_Service_made {P : Program} {w : World} {K : PySem.W.Frag} {mg : Str → Option Value} {base : Heap} {g : Ads} (T : Txt K mg g) : FnG false P w K mg base 6 g.f_Service_made g.d_Service_made ["cls", "handlers", "cells", "sources", "slots", "fields"] (sp_Service_made K g) :=
  (raw_Service_made T).imp fun us H Q E ⟨hl, ca, so, sl, fi, vc, vs, vl, vf, hs, e, hh, hc, hso, hsl, hf, hA, hk, lc, ls, ll, lf, lh, q1, q2⟩ => by
    subst e
    refine ⟨rfl, rfl, rfl, hl, hs.map (fun h : Addr × Str => V.ref h.1), rfl, hh, [], hs.map (fun h : Addr × Str => V.ref h.1), rfl, rfl, ?_, fun o dx p a b c d => service_new hc hso hsl hf hA hk lc ls ll lf lh q1 q2 o dx p a b c d⟩
    rw [List.length_map]
    exact Nat.le_trans lh (by decide)
end Z
namespace Z
open PySem PySem.Spec PyProof.Rows L2
/-! ### sorted texts are told by what they hold -/
def leS (a b : Str) : Prop := a.cps.toList ≤ b.cps.toList
theorem leS_of {a b : Str} (h : (!ltCps b.cps.toList a.cps.toList) = true) : leS a b := by
  rw [ltCps_eq] at h
  unfold leS
  rw [← List.not_lt]
  simpa using h
theorem leS_trans {a b c : Str} (h1 : leS a b) (h2 : leS b c) : leS a c := List.le_trans h1 h2
theorem leS_anti {a b : Str} (h1 : leS a b) (h2 : leS b a) : a = b := by
  have e : a.cps.toList = b.cps.toList := List.le_antisymm h1 h2
  cases a
  cases b
  congr 1
  exact Array.toList_inj.mp e
theorem rising_pw : ∀ {l : List Str} {p : Str}, risingS p l = true → (p :: l).Pairwise leS
  | [], p, _ => List.pairwise_singleton _ _
  | x :: r, p, h => by
    have h' : (!ltCps x.cps.toList p.cps.toList && risingS x r) = true := h
    rw [Bool.and_eq_true] at h'
    have ih := rising_pw h'.2
    have h1 := leS_of h'.1
    refine List.pairwise_cons.mpr ⟨fun y hy => ?_, ih⟩
    rcases List.mem_cons.mp hy with rfl | m
    · exact h1
    · exact leS_trans h1 ((List.pairwise_cons.mp ih).1 y m)
theorem sorted_pw {l : List Str} (h : sortedS l = true) : l.Pairwise leS := by
  cases l with
  | nil => exact List.Pairwise.nil
  | cons x r => exact rising_pw h
theorem sorted_one {xs ys zs : List Str} (hy : ys.Perm xs) (hz : zs.Perm xs) (sy : sortedS ys = true) (sz : sortedS zs = true) : ys = zs :=
  List.Perm.eq_of_pairwise (fun a b _ _ h1 h2 => leS_anti h1 h2) (sorted_pw sy) (sorted_pw sz) (hy.trans hz.symm)
/-! ### texts of plain signs -/
def Asc (z : Str) : Prop := ∀ c ∈ z.cps.toList, c < 128
theorem Asc.app {x y : Str} (a : Asc x) (b : Asc y) : Asc (x ++ y) := fun c hc => by
  have e : (x ++ y).cps.toList = x.cps.toList ++ y.cps.toList := by
    show (x.cps ++ y.cps).toList = _
    simp
  rw [e] at hc
  exact (List.mem_append.mp hc).elim (a c) (b c)
theorem asc_ok {z : Str} (a : Asc z) : SeqAt.shaped (.str z) = true := by
  have e : PyData.strOk z = true := by
    unfold PyData.strOk
    rw [Array.all_eq_true]
    intro i hi
    refine decide_eq_true (Nat.lt_trans (a z.cps[i] ?_) (by decide))
    simp
  simp [SeqAt.shaped, PyData.canLay0, PyData.depth, e]
theorem shaped_strs (ns : List Str) (h : ∀ z ∈ ns, Asc z) : SeqAt.shaped (.list (ns.map PyData.str)) = true := by
  have go : ∀ ns : List Str, (∀ z ∈ ns, Asc z) → PyData.canLayAll0 (ns.map PyData.str) = true ∧ PyData.depthAll (ns.map PyData.str) = 0 := by
    intro ns
    induction ns with
    | nil => exact fun _ => ⟨by simp only [List.map_nil, PyData.canLayAll0], by simp only [List.map_nil, PyData.depthAll]⟩
    | cons z r ih =>
      intro h
      obtain ⟨h1, h2⟩ := ih fun w hw => h w (List.mem_cons_of_mem _ hw)
      have hz := asc_ok (h z List.mem_cons_self)
      have hz2 : PyData.canLay0 (.str z) = true := by
        simp only [SeqAt.shaped, Bool.and_eq_true] at hz
        exact hz.1
      constructor
      · simp only [List.map_cons, PyData.canLayAll0, hz2, h1, Bool.and_self]
      · simp only [List.map_cons, PyData.depthAll, PyData.depth, h2, Nat.max_self]
  obtain ⟨h1, h2⟩ := go ns h
  simp only [SeqAt.shaped, PyData.canLay0, PyData.depth, h1, h2]
  decide
theorem dp_strs {K : PySem.W.Frag} {H : Hp} : ∀ ns : List Str, DpAll K H (ns.map V.str) (ns.map PyData.str)
  | [] => .nil
  | z :: r => .cons (.str z) (dp_strs r)
theorem eqv_nil (ns : List Str) : PyData.eqv (.list (ns.map PyData.str)) (.list []) = ns.isEmpty := by
  cases ns <;> simp [PyData.eqv, PyData.eqvAll]
/-- xs != [] -/
theorem ne_nil {K : PySem.W.Frag} {H : Hp} {a b : Addr} {ns : List Str} {Q : VK} (ha : SqL K H a (ns.map V.str)) (hb : H b = some (.lst [])) (h : ∀ z ∈ ns, Asc z) (q : Q (.bl (!ns.isEmpty)) H) : zNe K (.ref a) (.ref b) H Q := by
  refine .inr ⟨_, _, .lst ha (dp_strs ns), .lst (SqL.of hb) .nil, shaped_strs ns h, by decide +kernel, ?_⟩
  rw [eqv_nil]
  exact q
end Z
namespace Z
open PySem PySem.Spec PyProof.Rows L2
theorem ins_ty {K : PySem.W.Frag} {H : Hp} {C a dx : Addr} {fs : List (Str × V)} (c : CIns K C) (e : H a = some (.ins C dx fs)) : TyX K H (.ref a) (.ref C) := .base (.ins e c.cl c.ha c.hn c.ht c.hm)
def sp_Service_parts (K : PySem.W.Frag) (g : Ads) : Sp := fun us H Q E => ∃ (o dx ht c s l f pl cn : Addr), us = [.ref o] ∧ H o = some (.ins g.c_Service dx (svF ht c s l f pl cn)) ∧ ∀ p, H p = none → Q (.ref p) (upd H p (.tup [.ref ht, .ref c, .ref s, .ref l, .ref f]))
theorem sc_Service_parts : FnScope ["self"] ["self"] (defScope s_Service_parts) := ⟨rfl, rfl, rfl, by decide +kernel, rfl, by decide +kernel, by decide +kernel⟩
def R_Service_parts (K : PySem.W.Frag) (g : Ads) (E : XK) : TS :=
  (tRet (tTup (tCons (tFld K (zVar 0) "handlers") (tCons (tFld K (zVar 0) "cells") (tCons (tFld K (zVar 0) "sources") (tCons (tFld K (zVar 0) "slots") (tCons (tFld K (zVar 0) "fields") tNil)))))))
def rw_Service_parts (K : PySem.W.Frag) (g : Ads) : Sp := fun vs H Q E => vs.length = 1 ∧ R_Service_parts K g E { nx := fun _ H' => Q .non H', rt := Q } (start ["self"] vs) H
theorem raw_Service_parts {P : Program} {w : World} {K : PySem.W.Frag} {mg : Str → Option Value} {base : Heap} {g : Ads} (T : Txt K mg g) : FnG false P w K mg base 1 g.f_Service_parts g.d_Service_parts ["self"] (rw_Service_parts K g) := by
  refine okZ T.f_Service_parts sc_Service_parts (fun vs H Q E h => h.1) (fun cdv A outer s H vs Q E hr hgu h => ⟨R_Service_parts K g E, ?_, h.2⟩)
  exact (pss_one (ps_ret (pe_tup (pa_cons (pe_fld (zv 0) rfl) (pa_cons (pe_fld (zv 0) rfl) (pa_cons (pe_fld (zv 0) rfl) (pa_cons (pe_fld (zv 0) rfl) (pa_cons (pe_fld (zv 0) rfl) pa_nil))))))))
theorem ok_Service_parts {P : Program} {w : World} {K : PySem.W.Frag} {mg : Str → Option Value} {base : Heap} {g : Ads} (T : Txt K mg g) : FnG false P w K mg base 1 g.f_Service_parts g.d_Service_parts ["self"] (sp_Service_parts K g) :=
  (raw_Service_parts T).imp fun us H Q E ⟨o, dx, ht, c, s, l, f, pl, cn, e, ho, q⟩ => by
    subst e
    refine ⟨rfl, ?_⟩
    delta R_Service_parts
    exact ⟨_, _, _, _, _, rfl, ho, T.cl_Service, T.na_Service_handlers, rfl, _, _, _, _, _, rfl, ho, T.cl_Service, T.na_Service_cells, rfl, _, _, _, _, _, rfl, ho, T.cl_Service, T.na_Service_sources, rfl, _, _, _, _, _, rfl, ho, T.cl_Service, T.na_Service_slots, rfl, _, _, _, _, _, rfl, ho, T.cl_Service, T.na_Service_fields, rfl, (by decide : 5 ≤ sizeLine), fun p hp => q p hp⟩
def sp_Service_eq (K : PySem.W.Frag) (g : Ads) : Sp := fun us H Q E => ∃ (o dx ht c s l f pl cn : Addr), us = [.ref o, .ref o] ∧ H o = some (.ins g.c_Service dx (svF ht c s l f pl cn)) ∧ ∀ H', Same H H' → Q (.bl true) H'
theorem sc_Service_eq : FnScope ["self", "other"] ["self", "other"] (defScope s_Service_eq) := ⟨rfl, rfl, rfl, by decide +kernel, rfl, by decide +kernel, by decide +kernel⟩
def R_Service_eq (K : PySem.W.Frag) (g : Ads) (E : XK) : TS :=
  (tRet (zAndV (tCB (rIsi K) (tCons (zVar 1) (tCons (tC (.ref g.c_Service)) tNil))) (tOp (zEqJ K) (zMeth g.c_Service "parts" (sp_Service_parts K g) [] (WE (fun cls d _ H => E cls d H)) (zVar 0) tNil) (zMeth g.c_Service "parts" (sp_Service_parts K g) [] (WE (fun cls d _ H => E cls d H)) (zVar 1) tNil))))
def rw_Service_eq (K : PySem.W.Frag) (g : Ads) : Sp := fun vs H Q E => vs.length = 2 ∧ R_Service_eq K g E { nx := fun _ H' => Q .non H', rt := Q } (start ["self", "other"] vs) H
theorem raw_Service_eq {P : Program} {w : World} {K : PySem.W.Frag} {mg : Str → Option Value} {base : Heap} {g : Ads} (T : Txt K mg g) : FnG false P w K mg base 2 g.f_Service_eq g.d_Service_eq ["self", "other"] (rw_Service_eq K g) := by
  refine okZ T.f_Service_eq sc_Service_eq (fun vs H Q E h => h.1) (fun cdv A outer s H vs Q E hr hgu h => ⟨R_Service_eq K g E, ?_, h.2⟩)
  exact (pss_one (ps_ret (pez_and (pe_callB call_isi (by rfl) T.b_isinstance (by decide +kernel) (pa_cons (zv 1) (pa_cons (pe_glob rfl T.g_Service rfl) pa_nil))) (pe_one (pe_cmpR (op_zEqJ hr.units) (pe_methZ0 (zv 0) T.cl_Service ⟨T.a_Service_parts, T.i_Service_parts, T.f_Service_parts.kp⟩ (ok_Service_parts T) (hr.mono (by decide)) (fun z => nomatch z) T.e_Service_parts .nil (fun σ => passAt (takes_of rfl rfl rfl rfl) σ)) (pe_methZ0 (zv 1) T.cl_Service ⟨T.a_Service_parts, T.i_Service_parts, T.f_Service_parts.kp⟩ (ok_Service_parts T) (hr.mono (by decide)) (fun z => nomatch z) T.e_Service_parts .nil (fun σ => passAt (takes_of rfl rfl rfl rfl) σ)) (nomark _))))))
theorem ok_Service_eq {P : Program} {w : World} {K : PySem.W.Frag} {mg : Str → Option Value} {base : Heap} {g : Ads} (T : Txt K mg g) : FnG false P w K mg base 2 g.f_Service_eq g.d_Service_eq ["self", "other"] (sp_Service_eq K g) :=
  (raw_Service_eq T).imp fun us H Q E ⟨o, dx, ht, c, s, l, f, pl, cn, e, ho, q⟩ => by
    subst e
    refine ⟨rfl, ?_⟩
    delta R_Service_eq
    refine ⟨_, _, .ref g.c_Service, .ref g.c_Service, true, rfl, .own _, ins_ty T.ci_Service ho, kit_one, ?_⟩
    refine ⟨o, dx, _, rfl, ho, rfl, o, dx, ht, c, s, l, f, pl, cn, rfl, ho, fun p hp => ?_⟩
    have ho2 : (upd H p (.tup [.ref ht, .ref c, .ref s, .ref l, .ref f])) o = some (.ins g.c_Service dx (svF ht c s l f pl cn)) := by rw [upd_ne (ne_of_none ho hp)]; exact ho
    refine ⟨o, dx, _, rfl, ho2, rfl, o, dx, ht, c, s, l, f, pl, cn, rfl, ho2, fun p2 hp2 => ?_⟩
    have np : p ≠ p2 := ne_of_none upd_same hp2
    refine .inl ⟨p, p2, [.ref ht, .ref c, .ref s, .ref l, .ref f], rfl, rfl, .inl (.inl ?_), .inl (.inl upd_same), fun v hv => ?_, q _ ((Same.put hp).trans (Same.put hp2))⟩
    · rw [upd_ne np, upd_same]
    · simp only [List.mem_cons, List.not_mem_nil, or_false] at hv
      rcases hv with rfl | rfl | rfl | rfl | rfl <;> exact .inr (.inr (.inr (.inr ⟨_, rfl⟩)))
/-! ### dicts by texts -/
def dks (gs : List (Str × V)) : List (Key × V) := gs.map fun p => (.inr p.1, p.2)
def lk (gs : List (Str × V)) (n : Str) : Option V := valV (dks gs) (.inr n)
theorem lk_cons {p : Str × V} {r : List (Str × V)} {n : Str} : lk (p :: r) n = if p.1 = n then some p.2 else lk r n := by
  unfold lk dks
  rw [List.map_cons]
  by_cases h : p.1 = n
  · rw [if_pos h, valV_pos (by rw [h])]
  · rw [if_neg h, valV_neg (fun z => h (by injection z))]
theorem lk_none {gs : List (Str × V)} {n : Str} (h : n ∉ gs.map (·.1)) : lk gs n = none := by
  induction gs with
  | nil => rfl
  | cons p r ih =>
    rw [List.map_cons, List.mem_cons, not_or] at h
    rw [lk_cons, if_neg (fun z => h.1 z.symm), ih h.2]
theorem lk_some {gs : List (Str × V)} {n : Str} (h : n ∈ gs.map (·.1)) : ∃ v, lk gs n = some v := by
  induction gs with
  | nil => cases h
  | cons p r ih =>
    rw [lk_cons]
    by_cases e : p.1 = n
    · exact ⟨_, if_pos e⟩
    · rw [if_neg e]
      rw [List.map_cons, List.mem_cons] at h
      exact ih (h.resolve_left fun z => e z.symm)
theorem lk_mem {gs : List (Str × V)} {n : Str} {v : V} (h : lk gs n = some v) : (n, v) ∈ gs := by
  induction gs with
  | nil => cases h
  | cons p r ih =>
    rw [lk_cons] at h
    by_cases e : p.1 = n
    · rw [if_pos e] at h
      cases h
      rw [← e]
      exact List.mem_cons_self
    · rw [if_neg e] at h
      exact List.mem_cons_of_mem _ (ih h)
theorem dks_put_new {gs : List (Str × V)} {n : Str} (v : V) (h : n ∉ gs.map (·.1)) : putK (dks gs) (.inr n) v = dks (gs ++ [(n, v)]) := by
  rw [putK_new v (lk_none h)]
  simp [dks]
theorem dks_len (gs : List (Str × V)) : (dks gs).length = gs.length := by simp [dks]
theorem dks_keys (gs : List (Str × V)) : ((dks gs).map fun kv => kV kv.1) = (gs.map (·.1)).map V.str := by simp [dks, kV]
/-! ### the lock of a loop -/
theorem same_unlock {H H' : Hp} {d : Addr} {u : HO} {od : Obj} (e : H d = some u) (s : Same (upd H d (.frz od u)) H') : Same H (upd H' d u) := fun b o h => by
  by_cases z : b = d
  · subst z
    rw [upd_same]
    rw [e] at h
    exact h
  · rw [upd_ne z]
    exact s _ _ (by rw [upd_ne z]; exact h)
/-! ### stands -/
def stF (sv d : Addr) : List (Str × V) := [("service", .ref sv), ("inside", .ref d)]
def StdAt (g : Ads) (H : Hp) (o sv : Addr) (gs : List (Str × V)) : Prop := ∃ dx d, H o = some (.ins g.c_Stand dx (stF sv d)) ∧ H d = some (.dK (dks gs))
def StdIn (g : Ads) (H : Hp) (o d sv : Addr) (gs : List (Str × V)) : Prop := (∃ dx, H o = some (.ins g.c_Stand dx (stF sv d))) ∧ H d = some (.dK (dks gs))
theorem StdIn.at_ {g : Ads} {H : Hp} {o d sv : Addr} {gs : List (Str × V)} (h : StdIn g H o d sv gs) : StdAt g H o sv gs := ⟨h.1.choose, d, h.1.choose_spec, h.2⟩
theorem StdIn.same {g : Ads} {H H' : Hp} {o d sv : Addr} {gs : List (Str × V)} (h : StdIn g H o d sv gs) (s : Same H H') : StdIn g H' o d sv gs := by
  obtain ⟨⟨dx, h1⟩, h2⟩ := h
  exact ⟨⟨dx, s _ _ h1⟩, s _ _ h2⟩
theorem StdAt.same {g : Ads} {H H' : Hp} {o sv : Addr} {gs : List (Str × V)} (h : StdAt g H o sv gs) (s : Same H H') : StdAt g H' o sv gs := by
  obtain ⟨dx, d, h1, h2⟩ := h
  exact ⟨dx, d, s _ _ h1, s _ _ h2⟩
/-- what stands in the places -/
def stK (cs ps : List Str) (gs : List (Str × V)) : List (Str × V) := ps.map fun p => (p, (lk gs p).getD (if p ∈ cs then .int 0 else .non))
/-- the least key that is no place -/
def BadK (ps : List Str) (gs : List (Str × V)) (z : Str) : Prop := z ∈ gs.map (·.1) ∧ z ∉ ps ∧ ∀ y ∈ gs.map (·.1), y ∉ ps → leS z y
def sp_Stand_init (K : PySem.W.Frag) (g : Ads) : Sp := fun us H Q E => ∃ (o dx sv : Addr) (gv : V) (gs : List (Str × V)) (cs ss ls fs : List Str) (hs : List (Addr × Str)), us = [.ref o, .ref sv, gv] ∧ H o = some (.ins g.c_Stand dx []) ∧
  SvAt K g (hid [o] H) sv (cs.map V.str) (ss.map V.str) (ls.map V.str) (fs.map V.str) hs ∧ ((gv = .non ∧ gs = []) ∨ ∃ gd, gv = .ref gd ∧ hid [o] H gd = some (.dK (dks gs))) ∧ gs.length < 64 ∧ (cs ++ (ls ++ fs)).Nodup ∧ (cs ++ (ls ++ fs)).length < 64 ∧
  ((∀ p ∈ gs, p.1 ∈ cs ++ (ls ++ fs)) → ∀ H' d, But o H H' → H d = none → StdIn g H' o d sv (stK cs (cs ++ (ls ++ fs)) gs) → Q .non H') ∧ ∀ z, BadK (cs ++ (ls ++ fs)) gs z → ∀ H' dd, But o H H' → H dd = none → H' dd = some (.xd [("name", .str z)]) → E (.ref g.c_NoPlace) (some dd) H'
theorem sc_Stand_init : FnScope ["self", "service", "held", "given", "name"] ["self", "service", "held"] (defScope s_Stand_init) := ⟨rfl, rfl, rfl, by decide +kernel, rfl, by decide +kernel, by decide +kernel⟩
def R_Stand_init_4 (K : PySem.W.Frag) (g : Ads) (E : XK) : TS :=
  (zRaise (fun cls d _ H => E cls d H) g.c_NoPlace (sp_NoPlace_init K g) (tCons (zVar 4) tNil))
def R_Stand_init_3 (K : PySem.W.Frag) (g : Ads) (E : XK) : TS :=
  (tIfS (zTest (tOp (zNin K) (zVar 4) (tFld K (zVar 1) "places")))
  (R_Stand_init_4 K g E)
  tNext)
def R_Stand_init_8 (K : PySem.W.Frag) (g : Ads) (E : XK) : TS :=
  (sDPut (tFld K (zVar 0) "inside") (zVar 4) (tDGet2 (zVar 3) (zVar 4) (tIf (zTest (tOp (zIn K) (zVar 4) (tFld K (zVar 1) "cells"))) (tC (.int 0)) (tC .non))))
def R_Stand_init_7 (K : PySem.W.Frag) (g : Ads) (E : XK) : TS :=
  (zFor (iTup K (tFld K (zVar 1) "places")) (gName 4)
  (R_Stand_init_8 K g E))
def R_Stand_init_6 (K : PySem.W.Frag) (g : Ads) (E : XK) : TS :=
  (tSeq (sFld K (zVar 0) tDNewK "inside")
  (R_Stand_init_7 K g E))
def R_Stand_init_5 (K : PySem.W.Frag) (g : Ads) (E : XK) : TS :=
  (tSeq (sFld K (zVar 0) (zVar 1) "service")
  (R_Stand_init_6 K g E))
def R_Stand_init_2 (K : PySem.W.Frag) (g : Ads) (E : XK) : TS :=
  (tSeq (zFor (iList K (tCB (rSortedS K) (tCons (tCB rListR (tCons (zVar 3) tNil)) tNil))) (gName 4)
  (R_Stand_init_3 K g E))
  (R_Stand_init_5 K g E))
def R_Stand_init (K : PySem.W.Frag) (g : Ads) (E : XK) : TS :=
  (tSeq (tAsg (tIf (zTest (tOp zIs (zVar 2) (tC .non))) tDNewK (zVar 2)) (gName 3))
  (R_Stand_init_2 K g E))
def rw_Stand_init (K : PySem.W.Frag) (g : Ads) : Sp := fun vs H Q E => vs.length = 3 ∧ R_Stand_init K g E { nx := fun _ H' => Q .non H', rt := Q } (start ["self", "service", "held", "given", "name"] vs) H
theorem raw_Stand_init {P : Program} {w : World} {K : PySem.W.Frag} {mg : Str → Option Value} {base : Heap} {g : Ads} (T : Txt K mg g) : FnG false P w K mg base 3 g.f_Stand_init g.d_Stand_init ["self", "service", "held"] (rw_Stand_init K g) := by
  refine okA T.f_Stand_init sc_Stand_init (fun vs H Q E h => h.1) (fun cdv A outer s H vs Q E hr hgu h => ⟨R_Stand_init K g E, ?_, h.2⟩)
  exact (pss_cons (ps_set (i := 3) sc_Stand_init.nd rfl (Or.inl rfl) (pe_ifExp (ptz_cmp op_zIs (zv 2) pe_non (nomark _)) pe_dnewK (zv 2)))
  (pss_cons (psz_for PassesOwn.leaving rfl (pi_list (pe_callB cr_sortedS (by rfl) T.b_sorted (by decide +kernel) (pa_cons (pe_callTy (call_list_rd rfl) (by rfl) T.b_list (by decide +kernel) (pa_cons (zv 3) pa_nil)) pa_nil))) (pg_name (i := 4) sc_Stand_init.nd rfl (Or.inl rfl))
  (pss_one (ps_if (ptz_cmp op_zNin (zv 4) (pe_fld (zv 1) rfl) (by rfl))
  (pss_one (ps_raise rfl (takes_of rfl rfl rfl rfl) (pmk_ZB T.o_NoPlace T.i_NoPlace T.t_NoPlace (ok_NoPlace_init T) (hr.mono (by decide)) (fun z => nomatch z) T.e_NoPlace_init rfl T.g_NoPlace (by exact (pa_cons (zv 4) pa_nil)))))
  pss_nil)))
  (pss_cons (ps_fld (zv 0) (zv 1) rfl)
  (pss_cons (ps_fld (zv 0) pe_dnewK rfl)
  (pss_one (psz_for PassesOwn.leaving rfl (pi_tup (pe_fld (zv 1) rfl)) (pg_name (i := 4) sc_Stand_init.nd rfl (Or.inl rfl))
  (pss_one (ps_dput (hu_of hr) (pe_fld (zv 0) rfl) (zv 4) (pe_dget2 (hu_of hr) (zv 3) (zv 4) (pe_ifExp (ptz_cmp op_zIn (zv 4) (pe_fld (zv 1) rfl) (by rfl)) pe_int pe_non) ⟨by rfl, by rfl, by rfl, by rfl⟩) (by rfl)))))))))
theorem stK_take {cs ps : List Str} {gs : List (Str × V)} {i : Nat} {n : Str} (h : ps[i]? = some n) : stK cs (ps.take (i + 1)) gs = stK cs (ps.take i) gs ++ [(n, (lk gs n).getD (if n ∈ cs then .int 0 else .non))] := by
  unfold stK
  rw [List.take_add_one, h, List.map_append]
  rfl
theorem stK_keys (cs ps : List Str) (gs : List (Str × V)) : (stK cs ps gs).map (·.1) = ps := by
  unfold stK
  rw [List.map_map]
  exact List.map_id _
theorem nodup_take {ps : List Str} (nd : ps.Nodup) {i : Nat} {n : Str} (h : ps[i]? = some n) : n ∉ ps.take i := fun m => by
  obtain ⟨j, hj, e⟩ := List.getElem_of_mem m
  have hi : i < ps.length := (List.getElem?_eq_some_iff.mp h).1
  rw [List.length_take] at hj
  rw [List.getElem_take] at e
  have e2 : ps[i] = n := (List.getElem?_eq_some_iff.mp h).2
  have := (List.getElem_inj nd).mp (e.trans e2.symm)
  omega
theorem put_in {sv d : Addr} : putF "inside" (V.ref d) [("service", V.ref sv)] = stF sv d := by
  have e : ¬ (("service" : Str) = "inside") := by decide +kernel
  show (if ("service" : Str) = "inside" then _ else _) = _
  rw [if_neg e]
  rfl
theorem pf_Stand_init {P : Program} {w : World} {K : PySem.W.Frag} {mg : Str → Option Value} {g : Ads} (T : Txt K mg g) (us : List V) (H : Hp) (Q : VK) (E : XK) (h : sp_Stand_init K g us H Q E) : rw_Stand_init K g us H Q E := by
  obtain ⟨o, dx, sv, gv, gs, cs, ss, ls, fs, hs, rfl, ho, hsv, hg, hl, nd, lp, q, qe⟩ := h
  refine ⟨rfl, ?_⟩
  have go : ∀ gd H1, Same H H1 → hid [o] H1 gd = some (.dK (dks gs)) → R_Stand_init_2 K g E { nx := fun _ H' => Q .non H', rt := Q } [some (.ref o), some (.ref sv), some gv, some (.ref gd), none] H1 := by
    intro gd H1 s1 eg
    have sv1 : SvAt K g (hid [o] H1) sv (cs.map V.str) (ss.map V.str) (ls.map V.str) (fs.map V.str) hs := svat_same hsv (hid_same fun c u e _ => s1 _ _ e)
    have ho1 := s1 _ _ ho
    obtain ⟨sdx, ht, c, s_, l, f, pl, cn, h1, h2, h3, h4, h5, h6, h7, h8⟩ := sv1
    have epl : cs.map V.str ++ (ls.map V.str ++ fs.map V.str) = (cs ++ (ls ++ fs)).map V.str := by simp
    rw [epl] at h7
    have keep : ∀ {H'}, But o H1 H' → Same (hid [o] H1) H' := fun b => (hid_but b).trans hid_sub
    have k1 := keep (But.refl o H1)
    refine ⟨gd, dks gs, rfl, .inl (k1 _ _ eg), fun q0 hq0 => ⟨q0, gs.map (·.1), rfl, SqL.of (by rw [upd_same, dks_keys]), by rw [List.length_map]; exact hl, fun ys p pm sr hp => ⟨p, rfl, ⟨_, SqL.of upd_same⟩, ?_⟩⟩⟩
    have s2 := (Same.put (o := .lst ((dks gs).map fun kv => kV kv.1)) hq0).trans (Same.put (o := .lst (ys.map V.str)) hp)
    have ep := upd_same (H := upd H1 q0 (.lst ((dks gs).map fun kv => kV kv.1))) (a := p) (o := .lst (ys.map V.str))
    generalize upd (upd H1 q0 (.lst ((dks gs).map fun kv => kV kv.1))) p (.lst (ys.map V.str)) = H2 at s2 ep ⊢
    refine for_z (walk_list (xs := ys.map V.str)) (fun i σ H' => H' = H2 ∧ (∀ y ∈ ys.take i, y ∈ cs ++ (ls ++ fs)) ∧ ∃ v4, σ = [some (.ref o), some (.ref sv), some gv, some (.ref gd), v4]) ⟨rfl, (fun y hy => absurd hy (by simp)), _, rfl⟩ (fun i σ H' _ h => SqL.of (h.1 ▸ ep)) ?_ ?_
    · rintro i x σ H3 H3' hi ⟨rfl, tk, v4, rfl⟩ ⟨rfl, hx⟩
      have hx0 := hx
      obtain ⟨rfl, li, hm⟩ := get_strs hx
      have en : ys[i]? = some (ys.getD i "") := by rw [List.getD_eq_getElem?_getD, List.getElem?_eq_getElem li]; rfl
      generalize ys.getD i "" = n at hm en ⊢
      have kk := k1.trans s2
      refine ⟨_, _, _, _, _, rfl, kk _ _ h1, T.cl_Service, T.na_Service_places, rfl, .inr ⟨pl, _, rfl, .inr (Z.Same.tup kk h7), rfl, all_flat _, ?_⟩⟩
      show if (!inV (.str n) ((cs ++ (ls ++ fs)).map V.str)) = true then _ else _
      rw [inV_strs]
      by_cases hm2 : n ∈ cs ++ (ls ++ fs)
      · rw [decide_eq_true hm2, Bool.not_true, if_neg (by decide)]
        refine ⟨rfl, fun y hy => ?_, _, rfl⟩
        rw [List.take_add_one, en] at hy
        rcases List.mem_append.mp hy with h | h
        · exact tk y h
        · obtain rfl : y = n := by simpa using h
          exact hm2
      · rw [decide_eq_false hm2, Bool.not_false, if_pos rfl]
        refine raise_at fun d hd => ?_
        have b3 := But.same (p := o) (s2.trans (Same.put (o := .xd [("name", .str n)]) hd))
        refine qe n ⟨pm.mem_iff.mp hm, hm2, fun y hy hny => ?_⟩ _ d ((But.same s1).trans b3) (s1.free (s2.free hd)) upd_same
        have hy2 := pm.mem_iff.mpr hy
        obtain ⟨k, hk, rfl⟩ := List.mem_iff_getElem.mp hy2
        have pw := sorted_pw sr
        have hi2 : ys[i]'li = n := (List.getElem?_eq_some_iff.mp en).2
        rcases Nat.lt_trichotomy i k with h | h | h
        · rw [← hi2]
          exact List.pairwise_iff_getElem.mp pw i k li hk h
        · subst h
          rw [hi2]
          exact List.le_refl _
        · exact absurd (tk _ (List.mem_take_iff_getElem.mpr ⟨k, by omega, rfl⟩)) hny
    rintro σ H3 ⟨rfl, tk, v4, rfl⟩
    rw [List.length_map, List.take_length] at tk
    have q := q fun p hp => tk _ (pm.mem_iff.mpr (List.mem_map_of_mem hp))
    have ho2 := s2 _ _ ho1
    refine ⟨o, _, _, _, rfl, ho2, T.cl_Stand, T.na_Stand_service, (by decide : (0 : Nat) < 1000), fun d hd => ?_⟩
    have b3 : But o H1 (upd H3 o (.ins g.c_Stand dx [("service", .ref sv)])) := (But.same s2).trans But.put
    have e3 : (upd H3 o (.ins g.c_Stand dx [("service", .ref sv)])) o = some (.ins g.c_Stand dx [("service", .ref sv)]) := upd_same
    generalize hH4 : upd H3 o (.ins g.c_Stand dx [("service", .ref sv)]) = H4 at b3 e3
    have hd4 : H4 d = none := by rw [← hH4]; exact hd
    have nod : o ≠ d := ne_of_none e3 hd4
    have e5 : (upd H4 d (.dK [])) o = some (.ins g.c_Stand dx [("service", .ref sv)]) := by rw [upd_ne nod]; exact e3
    have b5 : But o H1 (upd H4 d (.dK [])) := b3.trans (But.same (Same.put hd4))
    have d5 : (upd H4 d (.dK [])) d = some (.dK []) := upd_same
    show zVar 0 _ (upd (upd H3 o (.ins g.c_Stand dx [("service", .ref sv)])) d (.dK [])) _
    rw [hH4]
    generalize upd H4 d (.dK []) = H5 at e5 b5 d5
    refine ⟨o, _, _, _, rfl, e5, T.cl_Stand, T.na_Stand_inside, (by decide : (1 : Nat) < 1000), ?_⟩
    have b6 : But o H1 (upd H5 o (.ins g.c_Stand dx (stF sv d))) := b5.trans But.put
    have e6 : (upd H5 o (.ins g.c_Stand dx (stF sv d))) o = some (.ins g.c_Stand dx (stF sv d)) := upd_same
    have d6 : (upd H5 o (.ins g.c_Stand dx (stF sv d))) d = some (.dK []) := by rw [upd_ne nod.symm]; exact d5
    rw [show putF "inside" (V.ref d) [("service", V.ref sv)] = stF sv d from put_in]
    generalize upd H5 o (.ins g.c_Stand dx (stF sv d)) = H6 at b6 e6 d6
    have hd1 : H1 d = none := but_free b3 e3 hd4
    refine ⟨_, _, _, _, _, rfl, keep b6 _ _ h1, T.cl_Service, T.na_Service_places, rfl, pl, rfl, ⟨_, Z.Same.tup (keep b6) h7⟩, ?_⟩
    obtain ⟨ps, eps⟩ : ∃ ps, ps = cs ++ (ls ++ fs) := ⟨_, rfl⟩
    rw [← eps] at h7 nd lp q
    refine for_z (walk_tup (xs := ps.map V.str)) (fun i σ H' => But o H1 H' ∧ H' o = some (.ins g.c_Stand dx (stF sv d)) ∧ H' d = some (.dK (dks (stK cs (ps.take i) gs))) ∧ ∃ v4, σ = [some (.ref o), some (.ref sv), some gv, some (.ref gd), v4]) ⟨b6, e6, d6, _, rfl⟩ (fun i σ H' _ h => Z.Same.tup (keep h.1) h7) ?_ ?_
    · rintro i x σ H7 H7' hi ⟨b7, e7, d7, v4, rfl⟩ ⟨rfl, hx⟩
      have hx2 := hx
      obtain ⟨rfl, li, hm⟩ := get_strs hx
      have en : ps[i]? = some (ps.getD i "") := by rw [List.getD_eq_getElem?_getD, List.getElem?_eq_getElem li]; rfl
      generalize ps.getD i "" = n at hm en ⊢
      have k7 := keep b7
      refine ⟨gd, rfl, .inl ⟨_, .inl (k7 _ _ eg)⟩, _, _, _, _, _, rfl, k7 _ _ h1, T.cl_Service, T.na_Service_cells, rfl, .inr ⟨c, _, rfl, .inr (Z.Same.tup k7 h2), rfl, all_flat _, ?_⟩⟩
      have fin : ∀ z : V, z = (if n ∈ cs then .int 0 else .non) → ∃ o_1, DGet H7' gd (.str n) o_1 ∧ (∃ a C dx_1 fs v, V.ref o = V.ref a ∧ H7' a = some (.ins C dx_1 fs) ∧ Cls K C ∧ NoAttr K C ("inside" : Str) ∧ fs.lookup ("inside" : Str) = some v ∧ ∃ a H4, v = V.ref a ∧ DPut H7' a (.str n) (o_1.getD z) H4 ∧ But o H1 H4 ∧ H4 o = some (.ins g.c_Stand dx (stF sv d)) ∧ H4 d = some (.dK (dks (stK cs (ps.take (i + 1)) gs))) ∧ ∃ v4, [some (.ref o), some (.ref sv), some gv, some (.ref gd), some (.str n)] = [some (.ref o), some (.ref sv), some gv, some (.ref gd), v4]) := by
        intro z ez
        refine ⟨lk gs n, .inl ⟨_, .inr n, .inl (k7 _ _ eg), rfl, rfl⟩, o, _, _, _, _, rfl, e7, T.cl_Stand, T.na_Stand_inside, rfl, d, _, rfl, .inl ⟨_, .inr n, d7, rfl, ?_, rfl⟩, ?_, ?_, ?_, _, rfl⟩
        · rw [dks_len]
          have : (stK cs (ps.take i) gs).length ≤ 64 := by
            unfold stK
            rw [List.length_map, List.length_take]
            omega
          exact Nat.lt_of_le_of_lt this (by decide)
        · exact fun b u e ne => by rw [upd_ne (ne_of_none e hd1)]; exact b7 _ _ e ne
        · rw [upd_ne nod]
          exact e7
        · rw [upd_same, dks_put_new _ (by rw [stK_keys]; exact nodup_take nd en), stK_take en, ez]
      show if inV (.str n) (cs.map V.str) = true then _ else _
      rw [inV_strs]
      exact zite (fun hc => fin _ (if_pos (of_decide_eq_true hc)).symm) (fun hc => fin _ (if_neg (of_decide_eq_false hc)).symm)
    · rintro σ H7 ⟨b7, e7, d7, _⟩
      rw [List.length_map, List.take_length] at d7
      exact q H7 d ((But.same s1).trans b7) (s1.free hd1) ⟨⟨dx, e7⟩, d7⟩
  refine ⟨rfl, zite (fun hc => ?_) (fun hc => ?_)⟩
  · rcases hg with ⟨rfl, rfl⟩ | ⟨gd, rfl, eg⟩
    · exact fun p hp => go p _ (Same.put hp) (hid_at (by simpa using (ne_of_none ho hp).symm) upd_same)
    · exact absurd (of_decide_eq_true hc) (by simp)
  · rcases hg with ⟨rfl, rfl⟩ | ⟨gd, rfl, eg⟩
    · exact absurd rfl (of_decide_eq_false hc)
    · exact go gd H (Same.refl H) eg
theorem ok_Stand_init {P : Program} {w : World} {K : PySem.W.Frag} {mg : Str → Option Value} {base : Heap} {g : Ads} (T : Txt K mg g) : FnG false P w K mg base 3 g.f_Stand_init g.d_Stand_init ["self", "service", "held"] (sp_Stand_init K g) := (raw_Stand_init T).imp (pf_Stand_init T (P := P) (w := w))
end Z
namespace Z
open PySem PySem.Spec PyProof.Rows L2
/-- a dict comprehension over a walk -/
theorem dc_it {J : It} {n : Nat} {G : Hp → Prop} {Y : Nat → Hp → V → Hp → Prop} (w : Walk J n G Y) {g : TG} {tt : TT} {tk tv : TE} {vs : List Nat} {σ : St} {H1 : Hp} {D : Addr} {Qd : Hp → Prop} (Pv : Nat → Hp → Prop) (h0 : Pv 0 (upd H1 D (.dK []))) (hG : ∀ i H, i ≤ n → Pv i H → G H)
    (hs : ∀ i x H H', i < n → Pv i H → Y i H x H' → g x (wipe σ vs) H' fun σ2 H2 => wipe σ2 vs = wipe σ vs ∧ tt σ2 H2 fun b H3 =>
      if b = true then tk σ2 H3 fun y H4 => tv σ2 H4 fun z H5 => ∃ kvs k, y = kV k ∧ H5 D = some (.dK kvs) ∧ kvs.length < sizeLine ∧ Pv (i + 1) (upd H5 D (.dK (putK kvs k z))) else Pv (i + 1) H3) (hd : ∀ H, Pv n H → Qd H) :
    ∃ W : Nat → Nat → Hp → Prop, (∃ m, W 0 m (upd H1 D (.dK []))) ∧ ∀ i m H, W i m H →
      (J.stop i H ∧ Qd H) ∨ (J.go i H ∧ ∃ Nx : Hp → Prop, (∀ H', Nx H' → ∃ m', m' < m ∧ W (i + 1) m' H') ∧ ∀ x H', J.yld i H x H' → g x (wipe σ vs) H' fun σ2 H2 => wipe σ2 vs = wipe σ vs ∧ tt σ2 H2 fun b H3 =>
        if b = true then tk σ2 H3 fun y H4 => tv σ2 H4 fun z H5 => ∃ kvs k, y = kV k ∧ H5 D = some (.dK kvs) ∧ kvs.length < sizeLine ∧ Nx (upd H5 D (.dK (putK kvs k z))) else Nx H3) := by
  refine ⟨fun i m H => m = n - i ∧ i ≤ n ∧ Pv i H, ⟨n, by simp, Nat.zero_le _, h0⟩, ?_⟩
  rintro i m H ⟨rfl, hi, p⟩
  have q := hG i H hi p
  by_cases hlt : i < n
  · exact .inr ⟨w.goes i H hlt q, Pv (i + 1), fun H' p' => ⟨n - (i + 1), by omega, rfl, hlt, p'⟩, fun x H' y => hs i x H H' hlt p (w.yields i H x H' hlt q y)⟩
  · have e : i = n := by omega
    subst e
    exact .inl ⟨w.stops H q, hd H p⟩
theorem lk_at {gs : List (Str × V)} (nd : (gs.map (·.1)).Nodup) {i : Nat} {n : Str} {v : V} (h : gs[i]? = some (n, v)) : lk gs n = some v := by
  induction gs generalizing i with
  | nil => simp at h
  | cons p r ih =>
    rw [List.map_cons, List.nodup_cons] at nd
    rw [lk_cons]
    cases i with
    | zero =>
      simp at h
      rw [h]
      exact if_pos rfl
    | succ j =>
      have h2 : r[j]? = some (n, v) := by simpa using h
      have m : n ∈ r.map (·.1) := List.mem_map.mpr ⟨_, List.mem_of_getElem? h2, rfl⟩
      rw [if_neg (fun z => nd.1 (by rw [z]; exact m))]
      exact ih nd.2 h2
theorem dks_get {gs : List (Str × V)} {i : Nat} {k : Key} {v : V} (h : (dks gs)[i]? = some (k, v)) : ∃ n, k = .inr n ∧ gs[i]? = some (n, v) := by
  unfold dks at h
  rw [List.getElem?_map] at h
  cases e : gs[i]? with
  | none => rw [e] at h; cases h
  | some p =>
    rw [e] at h
    cases h
    exact ⟨p.1, rfl, by cases p; rfl⟩
theorem dks_take {gs : List (Str × V)} {i : Nat} {n : Str} {v : V} (nd : (gs.map (·.1)).Nodup) (h : gs[i]? = some (n, v)) : putK (dks (gs.take i)) (.inr n) v = dks (gs.take (i + 1)) := by
  rw [dks_put_new v, List.take_add_one, h]
  · rfl
  · rw [List.map_take]
    exact nodup_take nd (by rw [List.getElem?_map, h]; rfl)
def sp_Stand_held (K : PySem.W.Frag) (g : Ads) : Sp := fun us H Q E => ∃ (o sv : Addr) (gs : List (Str × V)), us = [.ref o] ∧ StdAt g H o sv gs ∧ (gs.map (·.1)).Nodup ∧ gs.length ≤ 64 ∧ ∀ p H', Same H H' → H p = none → H' p = some (.dK (dks gs)) → Q (.ref p) H'
theorem sc_Stand_held : FnScope ["self", "name"] ["self"] (defScope s_Stand_held) := ⟨rfl, rfl, rfl, by decide +kernel, rfl, by decide +kernel, by decide +kernel⟩
def R_Stand_held (K : PySem.W.Frag) (g : Ads) (E : XK) : TS :=
  (tRet (tLockE (tDc (iKeys (tFld K (zVar 0) "inside")) (gName 1) tYes (zVar 1) (tDGet (tFld K (zVar 0) "inside") (zVar 1)) [1])))
def rw_Stand_held (K : PySem.W.Frag) (g : Ads) : Sp := fun vs H Q E => vs.length = 1 ∧ R_Stand_held K g E { nx := fun _ H' => Q .non H', rt := Q } (start ["self", "name"] vs) H
theorem raw_Stand_held {P : Program} {w : World} {K : PySem.W.Frag} {mg : Str → Option Value} {base : Heap} {g : Ads} (T : Txt K mg g) : FnG false P w K mg base 1 g.f_Stand_held g.d_Stand_held ["self"] (rw_Stand_held K g) := by
  refine okZ T.f_Stand_held sc_Stand_held (fun vs H Q E h => h.1) (fun cdv A outer s H vs Q E hr hgu h => ⟨R_Stand_held K g E, ?_, h.2⟩)
  exact (pss_one (ps_ret (pe_lock (pe_dc (own := [("name", 1)]) rfl sc_Stand_held.nd (pi_keys (pe_fld (zv 0) rfl)) (blkOk_by (own := [("name", 1)]) (N := ["self", "name"]) (sc := defScope s_Stand_held) (by decide +kernel)) (fun _ _ _ _ _ => pg_name (i := 1) sc_Stand_held.nd rfl (Or.inl rfl)) (fun _ _ _ _ _ => pts_nil) (fun _ _ _ _ _ => (zv 1)) (fun _ _ _ _ _ => (pe_dget (hu_of hr) (pe_fld (zv 0) rfl) (zv 1) (fun _ _ => rfl)))))))
theorem ok_Stand_held {P : Program} {w : World} {K : PySem.W.Frag} {mg : Str → Option Value} {base : Heap} {g : Ads} (T : Txt K mg g) : FnG false P w K mg base 1 g.f_Stand_held g.d_Stand_held ["self"] (sp_Stand_held K g) :=
  (raw_Stand_held T).imp fun us H Q E ⟨o, sv, gs, e, ⟨dx, d, ho, hd⟩, nd, hl, q⟩ => by
    subst e
    refine ⟨rfl, ?_⟩
    have nod : o ≠ d := fun z => by rw [z, hd] at ho; cases ho
    refine ⟨d, .dK (dks gs), hd, trivial, fun od => ?_⟩
    have eo : (upd H d (.frz od (.dK (dks gs)))) o = some (.ins g.c_Stand dx (stF sv d)) := by rw [upd_ne nod]; exact ho
    have ed := upd_same (H := H) (a := d) (o := .frz od (.dK (dks gs)))
    obtain ⟨HL, eL⟩ : ∃ HL, HL = upd H d (.frz od (.dK (dks gs))) := ⟨_, rfl⟩
    rw [← eL] at eo ed ⊢
    refine ⟨o, _, _, _, _, rfl, eo, T.cl_Stand, T.na_Stand_inside, rfl, d, od, rfl, .inl ⟨dks gs, ed, fun D hD => ?_⟩⟩
    have nd2 : d ≠ D := ne_of_none ed hD
    refine dc_it (walk_keys (kvs := dks gs)) (fun i H' => H' = upd HL D (.dK (dks (gs.take i)))) rfl (fun i H' _ h => by rw [h, upd_ne nd2]; exact ed) ?_ ?_
    · rintro i x H1 H1' hi rfl ⟨rfl, k, v, hk, rfl⟩
      obtain ⟨n, rfl, hn⟩ := dks_get hk
      refine ⟨rfl, o, g.c_Stand, dx, stF sv d, .ref d, rfl, ?_, T.cl_Stand, T.na_Stand_inside, rfl, d, v, rfl, .inl ⟨dks gs, .inr n, .inr ⟨od, ?_⟩, rfl, (lk_at nd hn).symm⟩, _, .inr n, rfl, upd_same, ?_, ?_⟩
      · rw [upd_ne (ne_of_none eo hD)]
        exact eo
      · rw [upd_ne nd2]
        exact ed
      · rw [dks_len, List.length_take]
        exact Nat.lt_of_le_of_lt (show _ ≤ 64 by omega) (by decide)
      · rw [dks_take nd hn, upd_upd]
    · rintro H1 rfl
      rw [dks_len, List.take_length]
      refine ⟨by rw [upd_ne nd2]; exact ed, ?_⟩
      have hD0 : H D = none := by rw [eL] at hD; rw [upd_ne nd2.symm] at hD; exact hD
      refine q D _ (same_unlock hd (by rw [← eL]; exact Same.put hD)) hD0 ?_
      rw [upd_ne nd2.symm, upd_same]
def sp_Stand_eq (K : PySem.W.Frag) (g : Ads) : Sp := fun us H Q E => ∃ (o sv : Addr) (gs : List (Str × V)) (y : V), us = [.ref o, y] ∧ StdAt g H o sv gs ∧ (∀ p ∈ gs, flatV p.2 = true) ∧
  ((y = .non ∧ Q (.bl false) H) ∨ (∃ b kvs, y = .ref b ∧ H b = some (.dK kvs) ∧ Q (.bl false) H) ∨ ∃ o2 sv2 gs2, y = .ref o2 ∧ StdAt g H o2 sv2 gs2 ∧ (∀ p ∈ gs2, flatV p.2 = true) ∧ Q (.bl (dEq (dks gs) (dks gs2))) H)
theorem sc_Stand_eq : FnScope ["self", "other"] ["self", "other"] (defScope s_Stand_eq) := ⟨rfl, rfl, rfl, by decide +kernel, rfl, by decide +kernel, by decide +kernel⟩
def R_Stand_eq (K : PySem.W.Frag) (g : Ads) (E : XK) : TS :=
  (tRet (zAndV (tCB (rIsi K) (tCons (zVar 1) (tCons (tC (.ref g.c_Stand)) tNil))) (tOp (zEqJ K) (tFld K (zVar 0) "inside") (tFld K (zVar 1) "inside"))))
def rw_Stand_eq (K : PySem.W.Frag) (g : Ads) : Sp := fun vs H Q E => vs.length = 2 ∧ R_Stand_eq K g E { nx := fun _ H' => Q .non H', rt := Q } (start ["self", "other"] vs) H
theorem raw_Stand_eq {P : Program} {w : World} {K : PySem.W.Frag} {mg : Str → Option Value} {base : Heap} {g : Ads} (T : Txt K mg g) : FnG false P w K mg base 1 g.f_Stand_eq g.d_Stand_eq ["self", "other"] (rw_Stand_eq K g) := by
  refine okZ T.f_Stand_eq sc_Stand_eq (fun vs H Q E h => h.1) (fun cdv A outer s H vs Q E hr hgu h => ⟨R_Stand_eq K g E, ?_, h.2⟩)
  exact (pss_one (ps_ret (pez_and (pe_callB call_isi (by rfl) T.b_isinstance (by decide +kernel) (pa_cons (zv 1) (pa_cons (pe_glob rfl T.g_Stand rfl) pa_nil))) (pe_one (pe_cmpR (op_zEqJ hr.units) (pe_fld (zv 0) rfl) (pe_fld (zv 1) rfl) (nomark _))))))
theorem dks_flat {gs : List (Str × V)} (h : ∀ p ∈ gs, flatV p.2 = true) : ∀ p ∈ dks gs, flatV p.2 = true := fun p hp => by
  obtain ⟨q, hq, rfl⟩ := List.mem_map.mp hp
  exact h q hq
theorem ok_Stand_eq {P : Program} {w : World} {K : PySem.W.Frag} {mg : Str → Option Value} {base : Heap} {g : Ads} (T : Txt K mg g) : FnG false P w K mg base 1 g.f_Stand_eq g.d_Stand_eq ["self", "other"] (sp_Stand_eq K g) :=
  (raw_Stand_eq T).imp fun us H Q E ⟨o, sv, gs, y, e, ⟨dx, d, ho, hd⟩, fl, h⟩ => by
    subst e
    refine ⟨rfl, ?_⟩
    rcases h with ⟨rfl, q⟩ | ⟨b, kvs, rfl, hb, q⟩ | ⟨o2, sv2, gs2, rfl, ⟨dx2, d2, ho2, hd2⟩, fl2, q⟩
    · exact ⟨_, _, .type "NoneType", .ref g.c_Stand, false, rfl, .own _, .base .non, T.kb_Stand_NoneType, q⟩
    · exact ⟨_, _, .type "dict", .ref g.c_Stand, false, rfl, .own _, .base (.dK hb), T.kb_Stand_dict, q⟩
    · refine ⟨_, _, .ref g.c_Stand, .ref g.c_Stand, true, rfl, .own _, ins_ty T.ci_Stand ho2, kit_one, ?_⟩
      exact ⟨o, _, _, _, _, rfl, ho, T.cl_Stand, T.na_Stand_inside, rfl, o2, _, _, _, _, rfl, ho2, T.cl_Stand, T.na_Stand_inside, rfl, .inr (.inl ⟨d, d2, dks gs, dks gs2, rfl, rfl, .inl hd, .inl hd2, dks_flat fl, dks_flat fl2, q⟩)⟩
end Z
namespace Z
open PySem PySem.Spec PyProof.Rows L2
/-! ### what is drawn from -/
def DrwAt (H : Hp) (p : Addr) (n : Nat) : Prop := ∃ g s t : Int, H p = some (.lst [.int g, .int s, .int t]) ∧ 0 ≤ g ∧ 0 ≤ s ∧ s < 1152921504606848000 ∧ 0 ≤ t ∧ t ≤ n
theorem DrwAt.up {H : Hp} {p : Addr} {n m : Nat} (h : DrwAt H p n) (l : n ≤ m) : DrwAt H p m := by
  obtain ⟨g, s, t, h1, h2, h3, h4, h5, h6⟩ := h
  exact ⟨g, s, t, h1, h2, h3, h4, h5, by omega⟩
theorem DrwAt.same {H H' : Hp} {p : Addr} {n : Nat} (h : DrwAt H p n) (s : Same H H') : DrwAt H' p n := by
  obtain ⟨g, s0, t, h1, h2, h3, h4, h5, h6⟩ := h
  exact ⟨g, s0, t, s _ _ h1, h2, h3, h4, h5, h6⟩
def sp_law_digits (K : PySem.W.Frag) (g : Ads) : Sp := fun vs H Q E => ∃ (a : Addr) (ns : List Int) (t : Int), vs = [.ref a, .int t] ∧ SqL K H a (ns.map V.int) ∧ ns.length ≤ 63 ∧ 0 ≤ t ∧ t ≤ 20 ∧
  ∀ p H', H p = none → Same H H' → DrwAt H' p 0 → Q (.ref p) H'
theorem sc_law_digits : FnScope ["script", "at", "cell", "great"] ["script", "at"] (defScope s_law_digits) := ⟨rfl, rfl, rfl, by decide +kernel, rfl, by decide +kernel, by decide +kernel⟩
def R_law_digits_3 (K : PySem.W.Frag) (g : Ads) (E : XK) : TS :=
  (tRet (tLst (tCons (zVar 3) (tCons (tOp zAdd (tOp zMod (tCB rInt1 (tCons (tOp zAdd (tOp zMul (tC (.int 2)) (tCB rAbs (tCons (zVar 2) tNil))) (tCB rInt1 (tCons (tOp zLt (zVar 2) (tC (.int 0))) tNil))) tNil)) (tC (.int 1152921504606846883))) (tOp zMul (tC (.int 31)) (zVar 1))) (tCons (tC (.int 0)) tNil)))))
def R_law_digits_2 (K : PySem.W.Frag) (g : Ads) (E : XK) : TS :=
  (tSeq (tAsg (tIf (zTest (tOp zGe (tCB rAbs (tCons (zVar 2) tNil)) (tOp zPow (tC (.int 10)) (tC (.int 18))))) (tCB rAbs (tCons (zVar 2) tNil)) (tC (.int 0))) (gName 3))
  (R_law_digits_3 K g E))
def R_law_digits (K : PySem.W.Frag) (g : Ads) (E : XK) : TS :=
  (tSeq (tAsg (tIf (zTest (tOp zLt (zVar 1) (tCB (zLen K) (tCons (zVar 0) tNil)))) (tOp (zIx K) (zVar 0) (zVar 1)) (tC (.int 0))) (gName 2))
  (R_law_digits_2 K g E))
def rw_law_digits (K : PySem.W.Frag) (g : Ads) : Sp := fun vs H Q E => vs.length = 2 ∧ R_law_digits K g E { nx := fun _ H' => Q .non H', rt := Q } (start ["script", "at", "cell", "great"] vs) H
theorem raw_law_digits {P : Program} {w : World} {K : PySem.W.Frag} {mg : Str → Option Value} {base : Heap} {g : Ads} (T : Txt K mg g) : FnG false P w K mg base 1 g.f_law_digits g.d_law_digits ["script", "at"] (rw_law_digits K g) := by
  refine okZ T.f_law_digits sc_law_digits (fun vs H Q E h => h.1) (fun cdv A outer s H vs Q E hr hgu h => ⟨R_law_digits K g E, ?_, h.2⟩)
  exact (pss_cons (ps_set (i := 2) sc_law_digits.nd rfl (Or.inl rfl) (pe_ifExp (ptz_cmp op_zLt (zv 1) (pe_callB call_lenZ (by rfl) T.b_len (by decide +kernel) (pa_cons (zv 0) pa_nil)) (nomark _)) (pe_ix ix_z (zv 0) (zv 1) (fun _ _ => rfl)) pe_int))
  (pss_cons (ps_set (i := 3) sc_law_digits.nd rfl (Or.inl rfl) (pe_ifExp (ptz_cmp op_zGe (pe_callB call_absZ (by rfl) T.b_abs (by decide +kernel) (pa_cons (zv 2) pa_nil)) (pe_op op_zPow pe_int pe_int) (nomark _)) (pe_callB call_absZ (by rfl) T.b_abs (by decide +kernel) (pa_cons (zv 2) pa_nil)) pe_int))
  (pss_one (ps_ret (pe_lst (pa_cons (zv 3) (pa_cons (pe_op op_zAdd (pe_op op_zMod (pe_callTy call_intZ (by rfl) T.b_int (by decide +kernel) (pa_cons (pe_op op_zAdd (pe_op op_zMul pe_int (pe_callB call_absZ (by rfl) T.b_abs (by decide +kernel) (pa_cons (zv 2) pa_nil))) (pe_callTy call_intZ (by rfl) T.b_int (by decide +kernel) (pa_cons (pe_cmpR op_zLt (zv 2) pe_int (nomark _)) pa_nil))) pa_nil)) pe_int) (pe_op op_zMul pe_int (zv 1))) (pa_cons pe_int pa_nil))))))))
theorem pf_law_digits {K : PySem.W.Frag} {g : Ads} (vs : List V) (H : Hp) (Q : VK) (E : XK) (h : sp_law_digits K g vs H Q E) : rw_law_digits K g vs H Q E := by
  obtain ⟨a, ns, t, rfl, hS, hl, h0, h1, q⟩ := h
  have fin : ∀ c gr : Int, 0 ≤ gr → R_law_digits_3 K g E { nx := fun _ H' => Q .non H', rt := Q } [some (.ref a), some (.int t), some (.int c), some (.int gr)] H := fun c gr hg => by
    refine ⟨.inl (by decide), by decide, .inl (by decide), (by decide : 3 ≤ sizeLine), fun p hp => q p _ hp (Same.put hp) ⟨gr, _, 0, upd_same, hg, ?_, ?_, by decide, by decide⟩⟩
    · exact Int.add_nonneg (Int.emod_nonneg _ (by decide)) (by omega)
    · have := Int.emod_lt_of_pos (2 * (if c < 0 then -c else c) + (if decide (c < 0) = true then 1 else 0)) (show (0 : Int) < 1152921504606846883 by decide)
      omega
  have go : ∀ c : Int, R_law_digits_2 K g E { nx := fun _ H' => Q .non H', rt := Q } [some (.ref a), some (.int t), some (.int c), none] H := fun c => by
    refine ⟨⟨by decide, by decide, by decide⟩, zite (fun _ => ?_) (fun _ => ?_)⟩
    · exact fin c _ (by split <;> omega)
    · exact fin c 0 (by decide)
  refine ⟨rfl, ⟨_, .inl hS, zite (fun hc => ?_) (fun _ => go 0)⟩⟩
  have hc' := of_decide_eq_true hc
  rw [List.length_map] at hc'
  obtain ⟨k, rfl⟩ : ∃ k : Nat, t = k := ⟨t.toNat, by omega⟩
  have hk : k < ns.length := by omega
  exact ⟨_, .int ns[k], .inl hS, atI_nat (by rw [List.getElem?_map, List.getElem?_eq_getElem hk]; rfl), go _⟩
theorem ok_law_digits {P : Program} {w : World} {K : PySem.W.Frag} {mg : Str → Option Value} {base : Heap} {g : Ads} (T : Txt K mg g) : FnG false P w K mg base 1 g.f_law_digits g.d_law_digits ["script", "at"] (sp_law_digits K g) := (raw_law_digits T).imp pf_law_digits
def sp_law_draw (K : PySem.W.Frag) (g : Ads) : Sp := fun vs H Q E => ∃ (p : Addr) (k : Nat) (n : Int), vs = [.ref p, .int n] ∧ DrwAt H p k ∧ k ≤ 1000000 ∧ 0 < n ∧ n ≤ 1000000000000000000000000 ∧
  ∀ r H', 0 ≤ r → r < n → DrwAt H' p (k + 1) → But p H H' → Q (.int r) H'
theorem sc_law_draw : FnScope ["draws", "many", "digit", "mixed"] ["draws", "many"] (defScope s_law_draw) := ⟨rfl, rfl, rfl, by decide +kernel, rfl, by decide +kernel, by decide +kernel⟩
def R_law_draw_3 (K : PySem.W.Frag) (g : Ads) (E : XK) : TS :=
  (tSeq (tAsg (tOp zFdiv (tOp (zIx K) (zVar 0) (tC (.int 0))) (zVar 1)) (gSub (zVar 0) (tC (.int 0)) rSetL))
  (tRet (zVar 2)))
def R_law_draw_2 (K : PySem.W.Frag) (g : Ads) (E : XK) : TS :=
  (tSeq (tAsg (tOp zMod (tCB rInt1 (tCons (tOp (zIx K) (zVar 0) (tC (.int 0))) tNil)) (zVar 1)) (gName 2))
  (R_law_draw_3 K g E))
def R_law_draw_8 (K : PySem.W.Frag) (g : Ads) (E : XK) : TS :=
  (tRet (tOp zMod (tCB rInt1 (tCons (tOp zFdiv (zVar 3) (tC (.int 512))) tNil)) (zVar 1)))
def R_law_draw_7 (K : PySem.W.Frag) (g : Ads) (E : XK) : TS :=
  (tSeq (tAsg (tOp zMod (tCB rInt1 (tCons (tOp zPow (tOp zAdd (zVar 3) (tOp zMul (tC (.int 15485863)) (tOp (zIx K) (zVar 0) (tC (.int 2))))) (tC (.int 2))) tNil)) (tC (.int 1000000000039))) (gName 3))
  (R_law_draw_8 K g E))
def R_law_draw_6 (K : PySem.W.Frag) (g : Ads) (E : XK) : TS :=
  (tSeq (tAsg (tOp zMod (tCB rInt1 (tCons (tOp zPow (tOp zAdd (tOp (zIx K) (zVar 0) (tC (.int 1))) (tOp zMul (tC (.int 1000003)) (tOp (zIx K) (zVar 0) (tC (.int 2))))) (tC (.int 3))) tNil)) (tC (.int 2305843009213693951))) (gName 3))
  (R_law_draw_7 K g E))
def R_law_draw_5 (K : PySem.W.Frag) (g : Ads) (E : XK) : TS :=
  (tSeq (tAsg (tOp zAdd (tOp (zIx K) (zVar 0) (tC (.int 2))) (tC (.int 1))) (gSub (zVar 0) (tC (.int 2)) rSetL))
  (R_law_draw_6 K g E))
def R_law_draw (K : PySem.W.Frag) (g : Ads) (E : XK) : TS :=
  (tSeq (tIfS (zTest (tOp zGt (tOp (zIx K) (zVar 0) (tC (.int 0))) (tC (.int 0))))
  (R_law_draw_2 K g E)
  tNext)
  (R_law_draw_5 K g E))
def rw_law_draw (K : PySem.W.Frag) (g : Ads) : Sp := fun vs H Q E => vs.length = 2 ∧ R_law_draw K g E { nx := fun _ H' => Q .non H', rt := Q } (start ["draws", "many", "digit", "mixed"] vs) H
theorem raw_law_draw {P : Program} {w : World} {K : PySem.W.Frag} {mg : Str → Option Value} {base : Heap} {g : Ads} (T : Txt K mg g) : FnG false P w K mg base 1 g.f_law_draw g.d_law_draw ["draws", "many"] (rw_law_draw K g) := by
  refine okZ T.f_law_draw sc_law_draw (fun vs H Q E h => h.1) (fun cdv A outer s H vs Q E hr hgu h => ⟨R_law_draw K g E, ?_, h.2⟩)
  exact (pss_cons (ps_if (ptz_cmp op_zGt (pe_ix ix_z (zv 0) pe_int (fun _ _ => rfl)) pe_int (nomark _))
  (pss_cons (ps_set (i := 2) sc_law_draw.nd rfl (Or.inl rfl) (pe_op op_zMod (pe_callTy call_intZ (by rfl) T.b_int (by decide +kernel) (pa_cons (pe_ix ix_z (zv 0) pe_int (fun _ _ => rfl)) pa_nil)) (zv 1)))
  (pss_cons (ps_asg (pe_op op_zFdiv (pe_ix ix_z (zv 0) pe_int (fun _ _ => rfl)) (zv 1)) (pg_sub (zv 0) pe_int set_list))
  (pss_one (ps_ret (zv 2)))))
  pss_nil)
  (pss_cons (ps_asg (pe_op op_zAdd (pe_ix ix_z (zv 0) pe_int (fun _ _ => rfl)) pe_int) (pg_sub (zv 0) pe_int set_list))
  (pss_cons (ps_set (i := 3) sc_law_draw.nd rfl (Or.inl rfl) (pe_op op_zMod (pe_callTy call_intZ (by rfl) T.b_int (by decide +kernel) (pa_cons (pe_op op_zPow (pe_op op_zAdd (pe_ix ix_z (zv 0) pe_int (fun _ _ => rfl)) (pe_op op_zMul pe_int (pe_ix ix_z (zv 0) pe_int (fun _ _ => rfl)))) pe_int) pa_nil)) pe_int))
  (pss_cons (ps_set (i := 3) sc_law_draw.nd rfl (Or.inl rfl) (pe_op op_zMod (pe_callTy call_intZ (by rfl) T.b_int (by decide +kernel) (pa_cons (pe_op op_zPow (pe_op op_zAdd (zv 3) (pe_op op_zMul pe_int (pe_ix ix_z (zv 0) pe_int (fun _ _ => rfl)))) pe_int) pa_nil)) pe_int))
  (pss_one (ps_ret (pe_op op_zMod (pe_callTy call_intZ (by rfl) T.b_int (by decide +kernel) (pa_cons (pe_op op_zFdiv (zv 3) pe_int) pa_nil)) (zv 1))))))))
theorem divW {n : Int} (h0 : 0 < n) (h : n ≤ 1000000000000000000000000) : CDivW 1 n := wide_div h0 (b := 80) (by omega) (by decide) (by decide)
theorem pf_law_draw {K : PySem.W.Frag} {g : Ads} (vs : List V) (H : Hp) (Q : VK) (E : XK) (h : sp_law_draw K g vs H Q E) : rw_law_draw K g vs H Q E := by
  obtain ⟨p, k, n, rfl, ⟨gr, s, t, h1, h2, h3, h4, h5, h6⟩, hk, n0, n1, q⟩ := h
  refine ⟨rfl, ⟨_, _, .inl (SqL.of h1), rfl, zite (fun hc => ?_) (fun hc => ?_)⟩⟩
  · refine ⟨_, _, .inl (SqL.of h1), rfl, n0, _, _, .inl (SqL.of h1), rfl, divW n0 n1, p, _, _, _, rfl, rfl, h1, rfl, ?_⟩
    exact q _ _ (Int.emod_nonneg _ (by omega)) (Int.emod_lt_of_pos _ n0) ⟨gr / n, s, t, upd_same, Int.ediv_nonneg h2 (by omega), h3, h4, h5, by omega⟩ But.put
  · refine ⟨_, _, .inl (SqL.of h1), rfl, p, _, _, _, rfl, rfl, h1, rfl, ?_⟩
    have e1 : (upd H p (.lst [.int gr, .int s, .int (t + 1)])) p = some (.lst [.int gr, .int s, .int (t + 1)]) := upd_same
    show R_law_draw_6 K g E { nx := fun _ H' => Q .non H', rt := Q } [some (.ref p), some (.int n), none, none] (upd H p (.lst [.int gr, .int s, .int (t + 1)]))
    refine ⟨_, _, .inl (SqL.of e1), rfl, _, _, .inl (SqL.of e1), rfl, .inl (by decide), ⟨by decide, by decide, by omega⟩, by decide, ?_⟩
    have m1 := Int.emod_nonneg ((s + 1000003 * (t + 1)) ^ (Int.toNat 3)) (show (2305843009213693951 : Int) ≠ 0 by decide)
    have m2 := Int.emod_lt_of_pos ((s + 1000003 * (t + 1)) ^ (Int.toNat 3)) (show (0 : Int) < 2305843009213693951 by decide)
    generalize (s + 1000003 * (t + 1)) ^ (Int.toNat 3) % 2305843009213693951 = mi at m1 m2 ⊢
    refine ⟨_, _, .inl (SqL.of e1), rfl, .inl (by decide), ⟨by decide, by decide, by omega⟩, by decide, ⟨by decide, by decide⟩, n0, ?_⟩
    exact q _ _ (Int.emod_nonneg _ (by omega)) (Int.emod_lt_of_pos _ n0) ⟨gr, s, t + 1, e1, h2, h3, h4, by omega, by omega⟩ But.put
theorem ok_law_draw {P : Program} {w : World} {K : PySem.W.Frag} {mg : Str → Option Value} {base : Heap} {g : Ads} (T : Txt K mg g) : FnG false P w K mg base 1 g.f_law_draw g.d_law_draw ["draws", "many"] (sp_law_draw K g) := (raw_law_draw T).imp pf_law_draw
end Z
namespace Z
open PySem PySem.Spec PyProof.Rows L2
open TL (joinL tl tl_join tl_append)
/-! ### drawn words, in plain lists -/
abbrev abc : Str := "abcdefghijklmnopqrstuvwxyz"
theorem abc_list : abc.cps.toList = List.range' 97 26 := by decide +kernel
theorem mem_abc {c : Nat} (h0 : 97 ≤ c) (h1 : c ≤ 122) : c ∈ abc.cps.toList := by
  rw [abc_list]
  simp only [List.mem_range'_1]
  omega
theorem abc_at {d : Int} (h0 : 0 ≤ d) (h1 : d < 26) : atI abc.cps.toList d = some (97 + d.toNat) := by
  obtain ⟨k, rfl⟩ : ∃ k : Nat, d = k := ⟨d.toNat, by omega⟩
  rw [abc_list]
  refine atI_nat ?_
  rw [List.getElem?_range' (by omega)]
  simp
theorem lett_of {z : Str} (h : ∀ c ∈ z.cps.toList, 97 ≤ c ∧ c ≤ 122) : lettB z = true := by
  unfold lettB
  rw [List.all_eq_true]
  intro b hb
  obtain ⟨i, hi, rfl⟩ := List.mem_map.mp hb
  have hi2 : i < z.cps.size := by simpa using hi
  have hm : z.cps.getD i 0 ∈ z.cps.toList := by
    rw [Array.getD_eq_getD_getElem?, Array.getElem?_eq_getElem hi2]
    simp
  obtain ⟨a, b⟩ := h _ hm
  exact decide_eq_true (mem_abc a b)
/-- one to eight letters -/
def Ltr (z : Str) : Prop := 1 ≤ z.cps.toList.length ∧ z.cps.toList.length ≤ 8 ∧ ∀ c ∈ z.cps.toList, 97 ≤ c ∧ c ≤ 122
theorem Ltr.len {z : Str} (h : Ltr z) : z.length ≤ 8 := h.2.1
theorem Ltr.nm {z : Str} (h : Ltr z) (n : z ≠ "none") : nameB z = true := by
  have l1 : 1 ≤ z.length := h.1
  have l2 : z.length ≤ 8 := h.2.1
  unfold nameB
  rw [lett_of h.2.2, decide_eq_true (show (1 : Int) ≤ z.length by omega), decide_eq_true (show (z.length : Int) ≤ 8 by omega), decide_eq_false n]
  rfl
theorem joinL_ones : ∀ cs : List Nat, joinL [] (cs.map fun c => [c]) = cs
  | [] => rfl
  | [c] => rfl
  | c :: d :: r => by
    have := joinL_ones (d :: r)
    show [c] ++ ([] ++ joinL [] ((d :: r).map fun c => [c])) = _
    rw [this]
    rfl
theorem join_ones (cs : List Nat) : (Txt.join "" (cs.map fun c => (⟨#[c]⟩ : Str))).cps.toList = cs := by
  have e := tl_join "" (cs.map fun c => (⟨#[c]⟩ : Str))
  have e2 : (cs.map fun c => (⟨#[c]⟩ : Str)).map tl = cs.map fun c => [c] := by
    rw [List.map_map]
    rfl
  rw [e2] at e
  exact ((congrArg tl (TL.join_eq "" (cs.map fun c => (⟨#[c]⟩ : Str)))).trans e).trans (joinL_ones cs)
theorem ones_sum (cs : List Nat) : ((cs.map fun c => (⟨#[c]⟩ : Str)).map (·.length)).sum = cs.length := by
  induction cs with
  | nil => rfl
  | cons c r ih =>
    rw [List.map_cons, List.map_cons, List.sum_cons, ih, List.length_cons]
    show 1 + r.length = _
    omega
theorem join_ltr {cs : List Nat} (h1 : 1 ≤ cs.length) (h8 : cs.length ≤ 8) (hl : ∀ c ∈ cs, 97 ≤ c ∧ c ≤ 122) : Ltr (Txt.join "" (cs.map fun c => (⟨#[c]⟩ : Str))) := by
  unfold Ltr
  rw [join_ones]
  exact ⟨h1, h8, hl⟩
/-! ### another word where one stands already -/
def tryA (w : Str) (k : Nat) : Str := cutS w none (some 6) ++ ⟨#[97 + k]⟩
def tryB (w : Str) (k : Nat) : Str := cutS w none (some 5) ++ ⟨#[97 + k]⟩ ++ ⟨#[97 + k]⟩ ++ ⟨#[97 + k]⟩
def tryOf (w : Str) (k : Nat) : Str := if k < 26 then tryA w k else tryB w (k - 26)
theorem cut_n (w : Str) (n : Nat) : (cutS w none (some (n : Int))).cps.toList = w.cps.toList.take n := by
  show (w.cps.toList.drop (HT.sIx w.length 0 none)).take (HT.sIx w.length w.length (some (n : Int)) - HT.sIx w.length 0 none) = _
  rw [HT.sIx_nat, HT.sIx_none, List.drop_zero, Nat.sub_zero]
  have l : w.length = w.cps.toList.length := by simp [Str.length]
  rw [l]
  by_cases h : n ≤ w.cps.toList.length
  · rw [Nat.min_eq_left h]
  · rw [Nat.min_eq_right (by omega), List.take_of_length_le (Nat.le_refl _), List.take_of_length_le (by omega)]
theorem tryA_list (w : Str) (k : Nat) : (tryA w k).cps.toList = w.cps.toList.take 6 ++ [97 + k] := by
  unfold tryA
  show tl _ = _
  rw [tl_append]
  show (cutS w none (some ((6 : Nat) : Int))).cps.toList ++ [97 + k] = _
  rw [cut_n]
theorem tryB_list (w : Str) (k : Nat) : (tryB w k).cps.toList = w.cps.toList.take 5 ++ [97 + k, 97 + k, 97 + k] := by
  unfold tryB
  show tl _ = _
  rw [tl_append, tl_append, tl_append]
  show (cutS w none (some ((5 : Nat) : Int))).cps.toList ++ [97 + k] ++ [97 + k] ++ [97 + k] = _
  rw [cut_n, List.append_assoc, List.append_assoc]
  rfl
theorem try_ltr {w : Str} (h : Ltr w) {k : Nat} (hk : k < 52) : Ltr (tryOf w k) := by
  obtain ⟨h1, h2, h3⟩ := h
  unfold Ltr tryOf
  split
  · rw [tryA_list]
    refine ⟨by simp, by simp; omega, fun c hc => ?_⟩
    rcases List.mem_append.mp hc with m | m
    · exact h3 c (List.mem_of_mem_take m)
    · simp only [List.mem_cons, List.not_mem_nil, or_false] at m
      omega
  · rw [tryB_list]
    refine ⟨by simp, by simp; omega, fun c hc => ?_⟩
    rcases List.mem_append.mp hc with m | m
    · exact h3 c (List.mem_of_mem_take m)
    · simp only [List.mem_cons, List.not_mem_nil, or_false] at m
      omega
theorem tryAB {w : Str} {a b : Nat} (h : tryA w a = tryB w b) : False := by
  have e : (tryA w a).cps.toList = (tryB w b).cps.toList := by rw [h]
  rw [tryA_list, tryB_list] at e
  have l := congrArg List.length e
  simp at l
  omega
theorem try_inj {w : Str} {a b : Nat} (h : tryOf w a = tryOf w b) : a = b := by
  unfold tryOf at h
  split at h <;> split at h
  · have e : (tryA w a).cps.toList = (tryA w b).cps.toList := by rw [h]
    rw [tryA_list, tryA_list] at e
    have e2 := List.append_cancel_left e
    simp only [List.cons.injEq, and_true] at e2
    omega
  · exact (tryAB h).elim
  · exact (tryAB h.symm).elim
  · have e : (tryB w (a - 26)).cps.toList = (tryB w (b - 26)).cps.toList := by rw [h]
    rw [tryB_list, tryB_list] at e
    have e2 := List.append_cancel_left e
    simp only [List.cons.injEq, and_true] at e2
    omega
theorem pigeon {α : Type} [BEq α] [LawfulBEq α] : ∀ {xs ys : List α}, xs.Nodup → (∀ x ∈ xs, x ∈ ys) → xs.length ≤ ys.length
  | [], ys, _, _ => Nat.zero_le _
  | x :: r, ys, nd, h => by
    rw [List.nodup_cons] at nd
    have hx := h x List.mem_cons_self
    have := pigeon (xs := r) (ys := ys.erase x) nd.2 fun y hy => by
      refine (List.mem_erase_of_ne fun e => nd.1 (by rw [← e]; exact hy)).mpr (h y (List.mem_cons_of_mem _ hy))
    rw [List.length_erase_of_mem hx] at this
    have l := List.length_pos_of_mem hx
    rw [List.length_cons]
    omega
/-- the tries that are free -/
def freeT (w : Str) (fs : List Str) (i : Nat) : List Str := ((List.range i).map (tryOf w)).filter fun z => !decide (z ∈ fs) && !decide (z = "none")
theorem freeT_succ (w : Str) (fs : List Str) (i : Nat) : freeT w fs (i + 1) = freeT w fs i ++ if (!decide (tryOf w i ∈ fs) && !decide (tryOf w i = "none")) = true then [tryOf w i] else [] := by
  unfold freeT
  rw [List.range_succ, List.map_append, List.filter_append]
  congr 1
  show List.filter _ [tryOf w i] = _
  rw [List.filter_cons]
  rfl
theorem freeT_some {w : Str} {fs : List Str} (hw : Ltr w) (hl : fs.length ≤ 45) : ∃ z r, freeT w fs 52 = z :: r ∧ z ∉ fs ∧ z ≠ "none" ∧ Ltr z := by
  have ne : freeT w fs 52 ≠ [] := fun e => by
    have nd : ((List.range 52).map (tryOf w)).Nodup := by
      refine List.pairwise_map.mpr (List.Pairwise.imp ?_ List.nodup_range)
      exact fun h z => h (try_inj z)
    have := pigeon (ys := ("none" : Str) :: fs) nd fun x hx => by
      have q := List.filter_eq_nil_iff.mp e x hx
      by_cases a : x ∈ fs
      · exact List.mem_cons_of_mem _ a
      · by_cases b : x = ("none" : Str)
        · rw [b]
          exact List.mem_cons_self
        · simp [a, b] at q
    rw [List.length_map, List.length_range, List.length_cons] at this
    omega
  cases e : freeT w fs 52 with
  | nil => exact absurd e ne
  | cons z r =>
    have m : z ∈ freeT w fs 52 := by rw [e]; exact List.mem_cons_self
    obtain ⟨m1, m2⟩ := List.mem_filter.mp m
    obtain ⟨k, hk, rfl⟩ := List.mem_map.mp m1
    simp at m2
    exact ⟨_, r, rfl, m2.1, m2.2, try_ltr hw (by simpa using hk)⟩
end Z
namespace Z
open PySem PySem.Spec PyProof.Rows L2
def sp_law_drawn_name (K : PySem.W.Frag) (g : Ads) : Sp := fun vs H Q E => ∃ (p : Addr) (k : Nat), vs = [.ref p] ∧ DrwAt H p k ∧ k + 10 ≤ 1000000 ∧ ∀ z H', Ltr z → DrwAt H' p (k + 10) → But p H H' → Q (.str z) H'
theorem sc_law_drawn_name : FnScope ["draws", "size", "k"] ["draws"] (defScope s_law_drawn_name) := ⟨rfl, rfl, rfl, by decide +kernel, rfl, by decide +kernel, by decide +kernel⟩
def R_law_drawn_name_2 (K : PySem.W.Frag) (g : Ads) (E : XK) : TS :=
  (tRet (tM1 (rJoin K) (tC (.str "")) (zLc (iRng1 (tCons (zVar 1) tNil)) (gName 2) tYes (tOp (zIx K) (tC (.str "abcdefghijklmnopqrstuvwxyz")) (zCall (sp_law_draw K g) [] (fun _ => E0) (tCons (zVar 0) (tCons (tC (.int 26)) tNil)))) [2])))
def R_law_drawn_name (K : PySem.W.Frag) (g : Ads) (E : XK) : TS :=
  (tSeq (tAsg (tIf (zTest (tOp (zEq K) (zCall (sp_law_draw K g) [] (WE (fun cls d _ H => E cls d H)) (tCons (zVar 0) (tCons (tC (.int 2)) tNil))) (tC (.int 0)))) (tC (.int 1)) (tOp zAdd (tC (.int 1)) (zCall (sp_law_draw K g) [] (WE (fun cls d _ H => E cls d H)) (tCons (zVar 0) (tCons (tC (.int 8)) tNil))))) (gName 1))
  (R_law_drawn_name_2 K g E))
def rw_law_drawn_name (K : PySem.W.Frag) (g : Ads) : Sp := fun vs H Q E => vs.length = 1 ∧ R_law_drawn_name K g E { nx := fun _ H' => Q .non H', rt := Q } (start ["draws", "size", "k"] vs) H
theorem raw_law_drawn_name {P : Program} {w : World} {K : PySem.W.Frag} {mg : Str → Option Value} {base : Heap} {g : Ads} (T : Txt K mg g) : FnG false P w K mg base 2 g.f_law_drawn_name g.d_law_drawn_name ["draws"] (rw_law_drawn_name K g) := by
  refine okZ T.f_law_drawn_name sc_law_drawn_name (fun vs H Q E h => h.1) (fun cdv A outer s H vs Q E hr hgu h => ⟨R_law_drawn_name K g E, ?_, h.2⟩)
  exact (pss_cons (ps_set (i := 1) sc_law_drawn_name.nd rfl (Or.inl rfl) (pe_ifExp (ptz_cmp (op_zEq hr.units) (pe_callZ (ok_law_draw T) (hr.mono (by decide)) (fun z => nomatch z) rfl T.g_law_draw T.k_law_draw T.e_law_draw .nil (fun σ => passAt (takes_of rfl rfl rfl rfl) σ) (pa_cons (zv 0) (pa_cons pe_int pa_nil))) pe_int (nomark _)) pe_int (pe_op op_zAdd pe_int (pe_callZ (ok_law_draw T) (hr.mono (by decide)) (fun z => nomatch z) rfl T.g_law_draw T.k_law_draw T.e_law_draw .nil (fun σ => passAt (takes_of rfl rfl rfl rfl) σ) (pa_cons (zv 0) (pa_cons pe_int pa_nil))))))
  (pss_one (ps_ret (pe_join pe_str (pez_lc (own := [("k", 2)]) rfl sc_law_drawn_name.nd (pi_range1 rfl T.b_range (pa_cons (zv 1) pa_nil)) (blkOk_by (own := [("k", 2)]) (N := ["draws", "size", "k"]) (sc := defScope s_law_drawn_name) (by decide +kernel)) (fun _ _ _ _ _ => pg_name (i := 2) sc_law_drawn_name.nd rfl (Or.inl rfl)) (fun _ _ _ _ _ => pts_nil) (fun _ _ _ _ _ => (pe_ix ix_z pe_str (pe_callZ (ok_law_draw T) (hr.mono (by decide)) (fun z => nomatch z) rfl T.g_law_draw T.k_law_draw T.e_law_draw .nil passE0 (pa_cons (zv 0) (pa_cons pe_int pa_nil))) (fun _ _ => rfl))))))))
theorem pf_law_drawn_name {K : PySem.W.Frag} {g : Ads} (vs : List V) (H : Hp) (Q : VK) (E : XK) (h : sp_law_drawn_name K g vs H Q E) : rw_law_drawn_name K g vs H Q E := by
  obtain ⟨p, k, rfl, hD, hk, q⟩ := h
  have go : ∀ (n : Nat) (H1 : Hp), 1 ≤ n → n ≤ 8 → DrwAt H1 p (k + 2) → But p H H1 → R_law_drawn_name_2 K g E { nx := fun _ H' => Q .non H', rt := Q } [some (.ref p), some (.int n), none] H1 := by
    intro n H1 n1 n8 D1 c1
    have np : ∀ D, H1 D = none → D ≠ p := fun D hD z => by
      obtain ⟨_, _, _, h1, _⟩ := D1
      rw [z, h1] at hD
      cases hD
    refine ⟨⟨_, rfl⟩, n, rfl, by omega, by omega, lc_z (walk_range (n := n)) (fun D i H' => (∀ b o, H1 b = some o → b ≠ p → H' b = some o) ∧ DrwAt H' p (k + 2 + i) ∧ ∃ cs : List Nat, H' D = some (.lst ((cs.map fun c => (⟨#[c]⟩ : Str)).map V.str)) ∧ cs.length = i ∧ ∀ c ∈ cs, 97 ≤ c ∧ c ≤ 122) ?_ (fun _ _ _ _ _ _ => trivial) ?_ ?_⟩
    · intro D hD
      exact ⟨fun b o e _ => Same.put hD b o e, D1.same (Same.put hD), [], upd_same, rfl, fun c hc => nomatch hc⟩
    · rintro D i x H2 H2' hD hi ⟨b2, D2, cs, e2, l2, h2⟩ ⟨rfl, rfl⟩
      refine ⟨rfl, p, k + 2 + i, 26, rfl, D2, by omega, by decide, by decide, fun r H3 r0 r1 D3 c3 => ⟨by decide, _, abc_at r0 r1, _, c3 _ _ e2 (np D hD), ?_, ?_, ?_, cs ++ [97 + r.toNat], ?_, ?_, ?_⟩⟩
      · rw [List.length_map, List.length_map]
        exact Nat.lt_of_le_of_lt (show cs.length ≤ 8 by omega) (by decide)
      · intro b o e ne
        rw [upd_ne (fun z => by rw [z, hD] at e; cases e)]
        exact c3 _ _ (b2 b o e ne) ne
      · obtain ⟨g1, s1, t1, a1, a2⟩ := D3
        exact ⟨g1, s1, t1, by rw [upd_ne (np D hD).symm]; exact a1, a2⟩
      · rw [upd_same, List.map_append, List.map_append]
        rfl
      · rw [List.length_append, l2]
        rfl
      · intro c hc
        rcases List.mem_append.mp hc with m | m
        · exact h2 c m
        · obtain rfl : c = 97 + r.toNat := by simpa using m
          omega
    · rintro D H2 hD ⟨b2, D2, cs, e2, l2, h2⟩
      refine ⟨"", D, cs.map fun c => (⟨#[c]⟩ : Str), rfl, rfl, .inl (SqL.of e2), ?_, q _ H2 (join_ltr (by omega) (by omega) h2) (D2.up (by omega)) (fun b o e ne => b2 _ _ (c1 _ _ e ne) ne)⟩
      rw [ones_sum, List.length_map]
      show cs.length + cs.length * 0 ≤ _
      omega
  refine ⟨rfl, p, k, 2, rfl, hD, by omega, by decide, by decide, fun r H1 _ _ D1 c1 => .inl ⟨rfl, zite (fun _ => go 1 H1 (by decide) (by decide) (D1.up (by omega)) c1) (fun _ => ?_)⟩⟩
  refine ⟨p, k + 1, 8, rfl, D1, by omega, by decide, by decide, fun i H2 i0 i1 D2 c2 => ?_⟩
  have := go (1 + i).toNat H2 (by omega) (by omega) D2 (c1.trans c2)
  rw [show (((1 + i).toNat : Nat) : Int) = 1 + i by omega] at this
  exact this
theorem ok_law_drawn_name {P : Program} {w : World} {K : PySem.W.Frag} {mg : Str → Option Value} {base : Heap} {g : Ads} (T : Txt K mg g) : FnG false P w K mg base 2 g.f_law_drawn_name g.d_law_drawn_name ["draws"] (sp_law_drawn_name K g) := (raw_law_drawn_name T).imp pf_law_drawn_name
end Z
namespace Z
open PySem PySem.Spec PyProof.Rows L2
open TL (tl tl_append)
/-- names, unlike ones -/
def NmL (ns : List Str) : Prop := ns.Nodup ∧ ∀ n ∈ ns, Ltr n ∧ n ≠ "none"
def sp_law_drawn_names (K : PySem.W.Frag) (g : Ads) : Sp := fun vs H Q E => ∃ (p : Addr) (k m : Nat), vs = [.ref p, .int m] ∧ DrwAt H p k ∧ m ≤ 40 ∧ k + 10 * m ≤ 1000000 ∧
  ∀ D ns H', H D = none → H' D = some (.lst (ns.map V.str)) → ns.length = m → NmL ns → DrwAt H' p (k + 10 * m) → But p H H' → Q (.ref D) H'
theorem sc_law_drawn_names : FnScope ["draws", "many", "letters", "found", "turn", "word", "tries", "one"] ["draws", "many"] (defScope s_law_drawn_names) := ⟨rfl, rfl, rfl, by decide +kernel, rfl, by decide +kernel, by decide +kernel⟩
def R_law_drawn_names_7 (K : PySem.W.Frag) (g : Ads) (E : XK) : TS :=
  (tAsg (tOp (zIx K) (zLc (iList K (zVar 6)) (gName 7) (tAnd (zTest (tOp (zNin K) (zVar 7) (zVar 3))) (zTest (tOp (zNe K) (zVar 7) (tC (.str "none"))))) (zVar 7) [7]) (tC (.int 0))) (gName 5))
def R_law_drawn_names_6 (K : PySem.W.Frag) (g : Ads) (E : XK) : TS :=
  (tSeq (tAsg (tOp zAdd (zVar 6) (zLc (iStr (zVar 2)) (gName 7) tYes (tOp zAdd (tOp zAdd (tOp zAdd (tSl rSlS (zVar 5) tNoPart (tPart (tC (.int 5)))) (zVar 7)) (zVar 7)) (zVar 7)) [7])) (gName 6))
  (R_law_drawn_names_7 K g E))
def R_law_drawn_names_5 (K : PySem.W.Frag) (g : Ads) (E : XK) : TS :=
  (tSeq (tAsg (zLc (iStr (zVar 2)) (gName 7) tYes (tOp zAdd (tSl rSlS (zVar 5) tNoPart (tPart (tC (.int 6)))) (zVar 7)) [7]) (gName 6))
  (R_law_drawn_names_6 K g E))
def R_law_drawn_names_8 (K : PySem.W.Frag) (g : Ads) (E : XK) : TS :=
  (tDrop (tBM K "list" rAppend (zVar 3) (tCons (zVar 5) tNil)))
def R_law_drawn_names_4 (K : PySem.W.Frag) (g : Ads) (E : XK) : TS :=
  (tSeq (tIfS (tOr (zTest (tOp (zIn K) (zVar 5) (zVar 3))) (zTest (tOp (zEq K) (zVar 5) (tC (.str "none")))))
  (R_law_drawn_names_5 K g E)
  tNext)
  (R_law_drawn_names_8 K g E))
def R_law_drawn_names_3 (K : PySem.W.Frag) (g : Ads) (E : XK) : TS :=
  (tSeq (tAsg (zCall (sp_law_drawn_name K g) [] (WE (fun cls d _ H => E cls d H)) (tCons (zVar 0) tNil)) (gName 5))
  (R_law_drawn_names_4 K g E))
def R_law_drawn_names_2 (K : PySem.W.Frag) (g : Ads) (E : XK) : TS :=
  (tSeq (zFor (iRng1 (tCons (zVar 1) tNil)) (gName 4)
  (R_law_drawn_names_3 K g E))
  (tRet (zVar 3)))
def R_law_drawn_names (K : PySem.W.Frag) (g : Ads) (E : XK) : TS :=
  (tSeq (tAsg (tTup (tCons (tC (.str "abcdefghijklmnopqrstuvwxyz")) (tCons (tLst tNil) tNil))) (gTup K 2 (gCons (gName 2) (gCons (gName 3) gNil))))
  (R_law_drawn_names_2 K g E))
def rw_law_drawn_names (K : PySem.W.Frag) (g : Ads) : Sp := fun vs H Q E => vs.length = 2 ∧ R_law_drawn_names K g E { nx := fun _ H' => Q .non H', rt := Q } (start ["draws", "many", "letters", "found", "turn", "word", "tries", "one"] vs) H
theorem raw_law_drawn_names {P : Program} {w : World} {K : PySem.W.Frag} {mg : Str → Option Value} {base : Heap} {g : Ads} (T : Txt K mg g) : FnG false P w K mg base 3 g.f_law_drawn_names g.d_law_drawn_names ["draws", "many"] (rw_law_drawn_names K g) := by
  refine okZ T.f_law_drawn_names sc_law_drawn_names (fun vs H Q E h => h.1) (fun cdv A outer s H vs Q E hr hgu h => ⟨R_law_drawn_names K g E, ?_, h.2⟩)
  exact (pss_cons (ps_asg (pe_tup (pa_cons pe_str (pa_cons (pe_lst pa_nil) pa_nil))) (pg_tup rfl (pgs_cons (pg_name (i := 2) sc_law_drawn_names.nd rfl (Or.inl rfl)) (pgs_cons (pg_name (i := 3) sc_law_drawn_names.nd rfl (Or.inr rfl)) pgs_nil))))
  (pss_cons (psz_for PassesOwn.leaving rfl (pi_range1 rfl T.b_range (pa_cons (zv 1) pa_nil)) (pg_name (i := 4) sc_law_drawn_names.nd rfl (Or.inl rfl))
  (pss_cons (ps_set (i := 5) sc_law_drawn_names.nd rfl (Or.inr rfl) (pe_callZ (ok_law_drawn_name T) (hr.mono (by decide)) (fun z => nomatch z) rfl T.g_law_drawn_name T.k_law_drawn_name T.e_law_drawn_name .nil (fun σ => passAt (takes_of rfl rfl rfl rfl) σ) (pa_cons (zv 0) pa_nil)))
  (pss_cons (ps_if (PW.pt (pw_or (ptz_cmp op_zIn (zv 5) (zv 3) (by rfl)) (pw_or1 (ptz_cmp (op_zEq hr.units) (zv 5) pe_str (nomark _)))))
  (pss_cons (psz_setLc (i := 6) (own := [("one", 7)]) rfl sc_law_drawn_names.nd rfl rfl (sw_true rfl rfl rfl (by decide +kernel)) (pi_str (zv 2)) (blkOk_by (own := [("one", 7)]) (N := ["draws", "many", "letters", "found", "turn", "word", "tries", "one"]) (sc := defScope s_law_drawn_names) (by decide +kernel)) (fun _ _ _ _ _ => pg_name (i := 7) sc_law_drawn_names.nd rfl (Or.inl rfl)) (fun _ _ _ _ _ => pts_nil) (fun _ _ _ _ _ => (pe_op op_zAdd (pe_slice sl_str (zv 5) po_none (po_some pe_int)) (zv 7))))
  (pss_cons (ps_set (i := 6) sc_law_drawn_names.nd rfl (Or.inl rfl) (pe_op op_zAdd (zv 6) (pez_lc (own := [("one", 7)]) rfl sc_law_drawn_names.nd (pi_str (zv 2)) (blkOk_by (own := [("one", 7)]) (N := ["draws", "many", "letters", "found", "turn", "word", "tries", "one"]) (sc := defScope s_law_drawn_names) (by decide +kernel)) (fun _ _ _ _ _ => pg_name (i := 7) sc_law_drawn_names.nd rfl (Or.inl rfl)) (fun _ _ _ _ _ => pts_nil) (fun _ _ _ _ _ => (pe_op op_zAdd (pe_op op_zAdd (pe_op op_zAdd (pe_slice sl_str (zv 5) po_none (po_some pe_int)) (zv 7)) (zv 7)) (zv 7))))))
  (pss_one (ps_set (i := 5) sc_law_drawn_names.nd rfl (Or.inr rfl) (pe_ix ix_z (pez_lc (own := [("one", 7)]) rfl sc_law_drawn_names.nd (pi_list (zv 6)) (blkOk_by (own := [("one", 7)]) (N := ["draws", "many", "letters", "found", "turn", "word", "tries", "one"]) (sc := defScope s_law_drawn_names) (by decide +kernel)) (fun _ _ _ _ _ => pg_name (i := 7) sc_law_drawn_names.nd rfl (Or.inl rfl)) (fun _ _ _ _ _ => pts_one (PW.pt (pw_and (ptz_cmp op_zNin (zv 7) (zv 3) (by rfl)) (pw_and1 (ptz_cmp (op_zNe hr.units) (zv 7) pe_str (nomark _)))))) (fun _ _ _ _ _ => (zv 7))) pe_int (fun _ _ => rfl))))))
  pss_nil)
  (pss_one (ps_expr (pe_bm PySem.F.plainAttrs_list PySem.F.slot_list_append PySem.F.type_list_append mt_append (zv 3) (pa_cons (zv 5) pa_nil)))))))
  (pss_one (ps_ret (zv 3)))))
/-- all but p is as it was -/
theorem NmL.nil : NmL [] := ⟨List.nodup_nil, fun n h => nomatch h⟩
theorem NmL.snoc {ns : List Str} {z : Str} (h : NmL ns) (hz : z ∉ ns) (l : Ltr z) (n : z ≠ "none") : NmL (ns ++ [z]) := by
  refine ⟨List.nodup_append.mpr ⟨h.1, by simp, fun a ha b hb e => ?_⟩, fun a ha => ?_⟩
  · obtain rfl : b = z := by simpa using hb
    exact hz (by rw [← e]; exact ha)
  · rcases List.mem_append.mp ha with m | m
    · exact h.2 a m
    · obtain rfl : a = z := by simpa using m
      exact ⟨l, n⟩
theorem pf_law_drawn_names {K : PySem.W.Frag} {g : Ads} (vs : List V) (H : Hp) (Q : VK) (E : XK) (h : sp_law_drawn_names K g vs H Q E) : rw_law_drawn_names K g vs H Q E := by
  obtain ⟨p, k, m, rfl, hD, hm, hk, q⟩ := h
  have eD := hD
  obtain ⟨g0, s0, t0, e0, _⟩ := eD
  refine ⟨rfl, (by decide : 0 ≤ sizeLine), fun F hF => ⟨(by decide : 2 ≤ sizeLine), fun T hT => ?_⟩⟩
  have hTF : F ≠ T := ne_of_none upd_same hT
  have s1 : Same H (upd (upd H F (.lst [])) T (.tup [.str abc, .ref F])) := (Same.put hF).trans (Same.put hT)
  have eF : (upd (upd H F (.lst [])) T (.tup [.str abc, .ref F])) F = some (.lst []) := by rw [upd_ne hTF, upd_same]
  have npF : F ≠ p := fun z => by rw [z, e0] at hF; cases hF
  refine ⟨T, _, rfl, SqT.of upd_same, rfl, _, _, rfl, _, _, rfl, rfl, ?_⟩
  generalize upd (upd H F (.lst [])) T (.tup [.str abc, .ref F]) = H1 at s1 eF
  refine ⟨m, rfl, by omega, by omega, for_z (walk_range (n := m)) (fun i σ H' => But p H H' ∧ DrwAt H' p (k + 10 * i) ∧ ∃ ns, H' F = some (.lst (ns.map V.str)) ∧ ns.length = i ∧ NmL ns ∧ ∃ v4 v5 v6, σ = [some (.ref p), some (.int m), some (.str abc), some (.ref F), v4, v5, v6, none])
    ⟨But.same s1, hD.same s1, [], eF, rfl, NmL.nil, _, _, _, rfl⟩ (fun _ _ _ _ _ => trivial) ?_ ?_⟩
  · rintro i x σ H2 H2' hi ⟨b2, D2, ns, e2, l2, n2, v4, v5, v6, rfl⟩ ⟨rfl, rfl⟩
    refine ⟨p, k + 10 * i, rfl, D2, by omega, fun z H3 lz D3 c3 => ?_⟩
    have e3 := c3 _ _ e2 npF
    -- the word is put at the end
    have fin : ∀ (D : Ends), (∀ σ H', (But p H H' ∧ DrwAt H' p (k + 10 * (i + 1)) ∧ ∃ ns, H' F = some (.lst (ns.map V.str)) ∧ ns.length = i + 1 ∧ NmL ns ∧ ∃ v4 v5 v6, σ = [some (.ref p), some (.int m), some (.str abc), some (.ref F), v4, v5, v6, none]) → D.nx σ H') → ∀ (z : Str) (v6 : Option V) (H4 : Hp), z ∉ ns → z ≠ "none" → Ltr z → Same H3 H4 →
        R_law_drawn_names_8 K g E D [some (.ref p), some (.int m), some (.str abc), some (.ref F), some (.int (0 + (i : Nat))), some (.str z), v6, none] H4 := by
      intro D hD2 z v6 H4 h1 h2 h3 s4
      have e4 := s4 _ _ e3
      refine ⟨.inl ⟨rfl, _, SqL.of e4⟩, F, _, _, rfl, rfl, e4, ?_, hD2 _ _ ⟨?_, ?_, ns ++ [z], ?_, ?_, n2.snoc h1 h3 h2, _, _, _, rfl⟩⟩
      · rw [List.length_map]
        exact Nat.lt_of_le_of_lt (show ns.length ≤ 40 by omega) (by decide)
      · exact fun b o e ne => by rw [upd_ne (ne_of_none e hF)]; exact s4 _ _ (c3 _ _ (b2 _ _ e ne) ne)
      · obtain ⟨g1, s1, t1, a1, a2⟩ := D3.same s4
        exact DrwAt.up ⟨g1, s1, t1, by rw [upd_ne npF.symm]; exact a1, a2⟩ (by omega)
      · rw [upd_same, List.map_append]
        rfl
      · rw [List.length_append, l2]
        rfl
    have try_ : ∀ (D : Ends), (∀ σ H', (But p H H' ∧ DrwAt H' p (k + 10 * (i + 1)) ∧ ∃ ns, H' F = some (.lst (ns.map V.str)) ∧ ns.length = i + 1 ∧ NmL ns ∧ ∃ v4 v5 v6, σ = [some (.ref p), some (.int m), some (.str abc), some (.ref F), v4, v5, v6, none]) → D.nx σ H') →
        R_law_drawn_names_5 K g E { D with nx := R_law_drawn_names_8 K g E D } [some (.ref p), some (.int m), some (.str abc), some (.ref F), some (.int (0 + (i : Nat))), some (.str z), v6, none] H3 := by
      intro D hD2
      have l8 : z.length ≤ 8 := lz.len
      have l6 := cutS_length z none (some 6)
      have l5 := cutS_length z none (some 5)
      have ln : ∀ (u : Str) (c : Nat), (u ++ (⟨#[c]⟩ : Str)).length = u.length + 1 := fun u c => by
        have e := congrArg List.length (tl_append u ⟨#[c]⟩)
        rw [List.length_append] at e
        simpa [tl, Str.length] using e
      have sz : abc.cps.size = 26 := by decide +kernel
      have at_ : ∀ {j c : Nat}, abc.cps[j]? = some c → c = 97 + j := fun {j c} h => by
        have hj : j < abc.cps.size := (Array.getElem?_eq_some_iff.mp h).1
        have e := abc_at (d := (j : Int)) (by omega) (by omega)
        have e2 : atI abc.cps.toList (j : Int) = abc.cps[j]? := by
          rw [Array.getElem?_eq_getElem hj]
          exact atI_nat (by rw [List.getElem?_eq_getElem (by simpa using hj)]; simp)
        rw [e2, h] at e
        injection e with e
      refine ⟨abc, rfl, lc_map walk_str (fun j => .str (tryA z j)) (by decide +kernel) (fun _ _ => trivial) ?_ ?_⟩
      · rintro j x H4 H4' hj s4 ⟨rfl, c, hc, rfl⟩
        obtain rfl := at_ hc
        refine ⟨rfl, _, fun R r => r, rfl, fun R r => r, fun R r => ⟨6, rfl, z, rfl, Nat.le_trans l8 (by decide), Nat.le_trans (show _ ≤ 9 from ?_) (by decide), r⟩⟩
        show (cutS z none (some 6)).length + 1 ≤ 9
        omega
      rw [sz]
      intro T1 hT1
      have sT1 := Same.put (o := .lst ((List.range 26).map fun j => V.str (tryA z j))) hT1
      have eT1 := upd_same (H := H3) (a := T1) (o := .lst ((List.range 26).map fun j => V.str (tryA z j)))
      obtain ⟨HT1, eHT1⟩ : ∃ HT1, HT1 = upd H3 T1 (.lst ((List.range 26).map fun j => V.str (tryA z j))) := ⟨_, rfl⟩
      rw [← eHT1] at sT1 eT1 ⊢
      refine ⟨abc, rfl, lc_map walk_str (fun j => .str (tryB z j)) (by decide +kernel) (fun _ _ => trivial) ?_ ?_⟩
      · rintro j x H4 H4' hj s4 ⟨rfl, c, hc, rfl⟩
        obtain rfl := at_ hc
        refine ⟨rfl, _, fun R r => r, rfl, fun R r => r, fun R r => ⟨5, rfl, z, rfl, Nat.le_trans l8 (by decide), Nat.le_trans (show _ ≤ 9 from ?_) (by decide), Nat.le_trans (show _ ≤ 10 from ?_) (by decide), Nat.le_trans (show _ ≤ 11 from ?_) (by decide), r⟩⟩
        · show (cutS z none (some 5)).length + 1 ≤ 9
          omega
        · show (cutS z none (some 5) ++ (⟨#[97 + j]⟩ : Str)).length + 1 ≤ 10
          rw [ln]
          omega
        · show (cutS z none (some 5) ++ (⟨#[97 + j]⟩ : Str) ++ (⟨#[97 + j]⟩ : Str)).length + 1 ≤ 11
          rw [ln, ln]
          omega
      rw [sz]
      intro T2 hT2
      have sT2 := Same.put (o := .lst ((List.range 26).map fun j => V.str (tryB z j))) hT2
      have eT2 := upd_same (H := HT1) (a := T2) (o := .lst ((List.range 26).map fun j => V.str (tryB z j)))
      generalize upd HT1 T2 (.lst ((List.range 26).map fun j => V.str (tryB z j))) = HT2 at sT2 eT2 ⊢
      refine ⟨_, _, sT2 _ _ eT1, eT2, ?_, ?_⟩
      · rw [List.length_map, List.length_map, List.length_range]
        decide
      · intro T hT
        rw [show ((List.range 26).map fun j => V.str (tryA z j)) ++ ((List.range 26).map fun j => V.str (tryB z j)) = (List.range 52).map fun j => V.str (tryOf z j) from rfl]
        have sT := (sT1.trans sT2).trans (Same.put (o := .lst ((List.range 52).map fun j => V.str (tryOf z j))) hT)
        have eT := upd_same (H := HT2) (a := T) (o := .lst ((List.range 52).map fun j => V.str (tryOf z j)))
        obtain ⟨HT', eHT⟩ : ∃ HT', HT' = upd HT2 T (.lst ((List.range 52).map fun j => V.str (tryOf z j))) := ⟨_, rfl⟩
        rw [← eHT] at sT eT ⊢
        refine ⟨T, rfl, ⟨_, SqL.of eT⟩, lc_z (walk_list (xs := (List.range 52).map fun j => V.str (tryOf z j))) (fun D i H' => H' = upd HT' D (.lst ((freeT z ns i).map V.str))) (fun D hD => rfl) (fun D i H' hD hi h => by rw [h]; exact SqL.of (Same.put hD _ _ eT)) ?_ ?_⟩
        · rintro D i x H4 H4' hD hi rfl ⟨rfl, hx⟩
          have hi2 : i < 52 := by simpa using hi
          have ex : x = .str (tryOf z i) := by
            rw [List.getElem?_map, List.getElem?_range hi2] at hx
            exact (Option.some.inj hx).symm
          subst ex
          have lf : (freeT z ns i).length ≤ 52 := by
            unfold freeT
            exact Nat.le_trans (List.length_filter_le _ _) (by rw [List.length_map, List.length_range]; omega)
          have yes : (!decide (tryOf z i ∈ ns)) = true → (!decide (tryOf z i = "none")) = true → freeT z ns (i + 1) = freeT z ns i ++ [tryOf z i] := fun a b => by rw [freeT_succ, a, b]; rfl
          have no : ((!decide (tryOf z i ∈ ns)) = false ∨ (!decide (tryOf z i = "none")) = false) → freeT z ns (i + 1) = freeT z ns i := fun h => by
            rw [freeT_succ]
            rcases h with a | a <;> rw [a] <;> simp
          refine ⟨rfl, .inr ⟨F, _, rfl, .inl (SqL.of (Same.put hD _ _ (sT _ _ e3))), rfl, all_flat _, ?_⟩⟩
          show if (!inV (.str (tryOf z i)) (ns.map V.str)) = true then _ else _
          rw [inV_strs]
          refine zite (fun h1 => .inl ⟨rfl, ?_⟩) (fun h1 => ?_)
          · show if (!decide (V.str (tryOf z i) = V.str "none")) = true then _ else _
            refine zite (fun h2 => ?_) (fun h2 => ?_)
            · have h3 : (!decide (tryOf z i = "none")) = true := by
                simp at h2 ⊢
                exact h2
              refine ⟨_, upd_same, ?_, ?_⟩
              · rw [List.length_map]
                exact Nat.lt_of_le_of_lt lf (by decide)
              · rw [upd_upd, yes h1 h3, List.map_append]
                rfl
            · have h3 : (!decide (tryOf z i = "none")) = false := by
                simp at h2 ⊢
                exact h2
              show _ = upd HT' D (.lst ((freeT z ns (i + 1)).map V.str))
              rw [no (.inr h3)]
          · show _ = upd HT' D (.lst ((freeT z ns (i + 1)).map V.str))
            rw [no (.inl h1)]
        · rintro D' H4 hD rfl
          obtain ⟨z2, r, ez, n1, n2, n3⟩ := freeT_some (fs := ns) lz (by omega)
          rw [List.length_map, List.length_range, ez]
          exact ⟨_, .str z2, .inl (SqL.of upd_same), atI_nat (j := 0) rfl, fin D hD2 z2 _ _ n1 n2 n3 (sT.trans (Same.put hD))⟩
    refine .inr ⟨F, _, rfl, .inl (SqL.of e3), rfl, all_flat _, ?_⟩
    show if inV (.str z) (ns.map V.str) = true then _ else _
    rw [inV_strs]
    refine zite (fun h1 => try_ _ fun σ H' h => h) (fun h1 => .inl ⟨rfl, zite (fun h2 => try_ _ fun σ H' h => h) (fun h2 => fin _ (fun σ H' h => h) z v6 H3 (of_decide_eq_false h1) (fun e => of_decide_eq_false h2 (by rw [e])) lz (Same.refl _))⟩)
  · rintro σ H2 ⟨b2, D2, ns, e2, l2, n2, v4, v5, v6, rfl⟩
    exact q F ns H2 hF e2 l2 n2 D2 b2
end Z
namespace Z
open PySem PySem.Spec PyProof.Rows L2
def sp_law_value (K : PySem.W.Frag) (g : Ads) : Sp := fun vs H Q E => ∃ (p : Addr) (k : Nat), vs = [.ref p] ∧ DrwAt H p k ∧ k + 3 ≤ 1000000 ∧ ∀ i H', -100000000000000000000 < i → i < 100000000000000000000 → DrwAt H' p (k + 3) → But p H H' → Q (.int i) H'
theorem sc_law_value : FnScope ["draws", "kind", "worth"] ["draws"] (defScope s_law_value) := ⟨rfl, rfl, rfl, by decide +kernel, rfl, by decide +kernel, by decide +kernel⟩
def R_law_value_3 (K : PySem.W.Frag) (g : Ads) (E : XK) : TS :=
  (tRet (tOp zSub (zCall (sp_law_draw K g) [] (WE (fun cls d _ H => E cls d H)) (tCons (zVar 0) (tCons (tC (.int 5)) tNil))) (tC (.int 2))))
def R_law_value_5 (K : PySem.W.Frag) (g : Ads) (E : XK) : TS :=
  (tRet (tOp zMul (tOp zSub (tOp zPow (tC (.int 10)) (tC (.int 20))) (tC (.int 1))) (tOp zSub (tOp zMul (tC (.int 2)) (zCall (sp_law_draw K g) [] (WE (fun cls d _ H => E cls d H)) (tCons (zVar 0) (tCons (tC (.int 2)) tNil)))) (tC (.int 1)))))
def R_law_value_7 (K : PySem.W.Frag) (g : Ads) (E : XK) : TS :=
  (tRet (tIf (zTest (tOp (zEq K) (zVar 1) (tC (.int 4)))) (zVar 2) (zNeg (zVar 2))))
def R_law_value_6 (K : PySem.W.Frag) (g : Ads) (E : XK) : TS :=
  (tSeq (tAsg (tOp zAdd (tOp zMul (zCall (sp_law_draw K g) [] (WE (fun cls d _ H => E cls d H)) (tCons (zVar 0) (tCons (tOp zPow (tC (.int 10)) (tC (.int 10))) tNil))) (tOp zPow (tC (.int 10)) (tC (.int 10)))) (zCall (sp_law_draw K g) [] (WE (fun cls d _ H => E cls d H)) (tCons (zVar 0) (tCons (tOp zPow (tC (.int 10)) (tC (.int 10))) tNil)))) (gName 2))
  (R_law_value_7 K g E))
def R_law_value_4 (K : PySem.W.Frag) (g : Ads) (E : XK) : TS :=
  (tSeq (tIfS (zTest (tOp (zEq K) (zVar 1) (tC (.int 3))))
  (R_law_value_5 K g E)
  tNext)
  (R_law_value_6 K g E))
def R_law_value_2 (K : PySem.W.Frag) (g : Ads) (E : XK) : TS :=
  (tSeq (tIfS (zTest (tOp zLt (zVar 1) (tC (.int 3))))
  (R_law_value_3 K g E)
  tNext)
  (R_law_value_4 K g E))
def R_law_value (K : PySem.W.Frag) (g : Ads) (E : XK) : TS :=
  (tSeq (tAsg (zCall (sp_law_draw K g) [] (WE (fun cls d _ H => E cls d H)) (tCons (zVar 0) (tCons (tC (.int 6)) tNil))) (gName 1))
  (R_law_value_2 K g E))
def rw_law_value (K : PySem.W.Frag) (g : Ads) : Sp := fun vs H Q E => vs.length = 1 ∧ R_law_value K g E { nx := fun _ H' => Q .non H', rt := Q } (start ["draws", "kind", "worth"] vs) H
theorem raw_law_value {P : Program} {w : World} {K : PySem.W.Frag} {mg : Str → Option Value} {base : Heap} {g : Ads} (T : Txt K mg g) : FnG false P w K mg base 2 g.f_law_value g.d_law_value ["draws"] (rw_law_value K g) := by
  refine okZ T.f_law_value sc_law_value (fun vs H Q E h => h.1) (fun cdv A outer s H vs Q E hr hgu h => ⟨R_law_value K g E, ?_, h.2⟩)
  exact (pss_cons (ps_set (i := 1) sc_law_value.nd rfl (Or.inl rfl) (pe_callZ (ok_law_draw T) (hr.mono (by decide)) (fun z => nomatch z) rfl T.g_law_draw T.k_law_draw T.e_law_draw .nil (fun σ => passAt (takes_of rfl rfl rfl rfl) σ) (pa_cons (zv 0) (pa_cons pe_int pa_nil))))
  (pss_cons (ps_if (ptz_cmp op_zLt (zv 1) pe_int (nomark _))
  (pss_one (ps_ret (pe_op op_zSub (pe_callZ (ok_law_draw T) (hr.mono (by decide)) (fun z => nomatch z) rfl T.g_law_draw T.k_law_draw T.e_law_draw .nil (fun σ => passAt (takes_of rfl rfl rfl rfl) σ) (pa_cons (zv 0) (pa_cons pe_int pa_nil))) pe_int)))
  pss_nil)
  (pss_cons (ps_if (ptz_cmp (op_zEq hr.units) (zv 1) pe_int (nomark _))
  (pss_one (ps_ret (pe_op op_zMul (pe_op op_zSub (pe_op op_zPow pe_int pe_int) pe_int) (pe_op op_zSub (pe_op op_zMul pe_int (pe_callZ (ok_law_draw T) (hr.mono (by decide)) (fun z => nomatch z) rfl T.g_law_draw T.k_law_draw T.e_law_draw .nil (fun σ => passAt (takes_of rfl rfl rfl rfl) σ) (pa_cons (zv 0) (pa_cons pe_int pa_nil)))) pe_int))))
  pss_nil)
  (pss_cons (ps_set (i := 2) sc_law_value.nd rfl (Or.inl rfl) (pe_op op_zAdd (pe_op op_zMul (pe_callZ (ok_law_draw T) (hr.mono (by decide)) (fun z => nomatch z) rfl T.g_law_draw T.k_law_draw T.e_law_draw .nil (fun σ => passAt (takes_of rfl rfl rfl rfl) σ) (pa_cons (zv 0) (pa_cons (pe_op op_zPow pe_int pe_int) pa_nil))) (pe_op op_zPow pe_int pe_int)) (pe_callZ (ok_law_draw T) (hr.mono (by decide)) (fun z => nomatch z) rfl T.g_law_draw T.k_law_draw T.e_law_draw .nil (fun σ => passAt (takes_of rfl rfl rfl rfl) σ) (pa_cons (zv 0) (pa_cons (pe_op op_zPow pe_int pe_int) pa_nil)))))
  (pss_one (ps_ret (pe_ifExp (ptz_cmp (op_zEq hr.units) (zv 1) pe_int (nomark _)) (zv 2) (pez_neg (zv 2)))))))))
def sp_law_count (K : PySem.W.Frag) (g : Ads) : Sp := fun vs H Q E => ∃ (p : Addr) (k : Nat) (a b : Int), vs = [.ref p, .int a, .int b] ∧ DrwAt H p k ∧ k + 2 ≤ 1000000 ∧ 0 ≤ a ∧ a ≤ b ∧ b ≤ 1000 ∧ ∀ i H', 0 ≤ i → i ≤ b → DrwAt H' p (k + 2) → But p H H' → Q (.int i) H'
theorem sc_law_count : FnScope ["draws", "usual", "most"] ["draws", "usual", "most"] (defScope s_law_count) := ⟨rfl, rfl, rfl, by decide +kernel, rfl, by decide +kernel, by decide +kernel⟩
def R_law_count (K : PySem.W.Frag) (g : Ads) (E : XK) : TS :=
  (tRet (zCall (sp_law_draw K g) [] (WE (fun cls d _ H => E cls d H)) (tCons (zVar 0) (tCons (tOp zAdd (tC (.int 1)) (tOp (zIx K) (tLst (tCons (zVar 1) (tCons (zVar 2) tNil))) (tCB rInt1 (tCons (tOp (zEq K) (zCall (sp_law_draw K g) [] (WE (fun cls d _ H => E cls d H)) (tCons (zVar 0) (tCons (tC (.int 6)) tNil))) (tC (.int 0))) tNil)))) tNil))))
def rw_law_count (K : PySem.W.Frag) (g : Ads) : Sp := fun vs H Q E => vs.length = 3 ∧ R_law_count K g E { nx := fun _ H' => Q .non H', rt := Q } (start ["draws", "usual", "most"] vs) H
theorem raw_law_count {P : Program} {w : World} {K : PySem.W.Frag} {mg : Str → Option Value} {base : Heap} {g : Ads} (T : Txt K mg g) : FnG false P w K mg base 2 g.f_law_count g.d_law_count ["draws", "usual", "most"] (rw_law_count K g) := by
  refine okZ T.f_law_count sc_law_count (fun vs H Q E h => h.1) (fun cdv A outer s H vs Q E hr hgu h => ⟨R_law_count K g E, ?_, h.2⟩)
  exact (pss_one (ps_ret (pe_callZ (ok_law_draw T) (hr.mono (by decide)) (fun z => nomatch z) rfl T.g_law_draw T.k_law_draw T.e_law_draw .nil (fun σ => passAt (takes_of rfl rfl rfl rfl) σ) (pa_cons (zv 0) (pa_cons (pe_op op_zAdd pe_int (pe_ix ix_z (pe_lst (pa_cons (zv 1) (pa_cons (zv 2) pa_nil))) (pe_callTy call_intZ (by rfl) T.b_int (by decide +kernel) (pa_cons (pe_cmpR (op_zEq hr.units) (pe_callZ (ok_law_draw T) (hr.mono (by decide)) (fun z => nomatch z) rfl T.g_law_draw T.k_law_draw T.e_law_draw .nil (fun σ => passAt (takes_of rfl rfl rfl rfl) σ) (pa_cons (zv 0) (pa_cons pe_int pa_nil))) pe_int (nomark _)) pa_nil)) (fun _ _ => rfl))) pa_nil)))))
theorem pf_law_count {K : PySem.W.Frag} {g : Ads} (vs : List V) (H : Hp) (Q : VK) (E : XK) (h : sp_law_count K g vs H Q E) : rw_law_count K g vs H Q E := by
  obtain ⟨p, k, a, b, rfl, hD, hk, a0, ab, b1, q⟩ := h
  refine ⟨rfl, (by decide : 2 ≤ sizeLine), fun L hL => ⟨p, k, 6, rfl, hD.same (Same.put hL), by omega, by decide, by decide, fun r H1 _ _ D1 c1 => .inl ⟨rfl, ?_⟩⟩⟩
  have hLp : L ≠ p := fun z => by
    obtain ⟨_, _, _, e, _⟩ := hD
    rw [z, e] at hL
    cases hL
  have eL := c1 _ _ upd_same hLp
  have cc : But p H H1 := (But.same (Same.put hL)).trans c1
  cases decide (V.int r = V.int 0)
  · exact ⟨_, V.int a, .inl (SqL.of eL), rfl, p, k + 1, 1 + a, rfl, D1, by omega, by omega, by omega, fun i H2 i0 i1 D2 c2 => q i H2 i0 (by omega) D2 (cc.trans c2)⟩
  · exact ⟨_, V.int b, .inl (SqL.of eL), rfl, p, k + 1, 1 + b, rfl, D1, by omega, by omega, by omega, fun i H2 i0 i1 D2 c2 => q i H2 i0 (by omega) D2 (cc.trans c2)⟩
theorem ok_law_count {P : Program} {w : World} {K : PySem.W.Frag} {mg : Str → Option Value} {base : Heap} {g : Ads} (T : Txt K mg g) : FnG false P w K mg base 2 g.f_law_count g.d_law_count ["draws", "usual", "most"] (sp_law_count K g) := (raw_law_count T).imp pf_law_count
theorem pf_law_value {K : PySem.W.Frag} {g : Ads} (vs : List V) (H : Hp) (Q : VK) (E : XK) (h : sp_law_value K g vs H Q E) : rw_law_value K g vs H Q E := by
  obtain ⟨p, k, rfl, hD, hk, q⟩ := h
  refine ⟨rfl, p, k, 6, rfl, hD, by omega, by decide, by decide, fun r H1 _ _ D1 c1 => zite (fun _ => ?_) (fun _ => .inl ⟨rfl, zite (fun _ => ?_) (fun _ => ?_)⟩)⟩
  · exact ⟨p, k + 1, 5, rfl, D1, by omega, by decide, by decide, fun i H2 i0 i1 D2 c2 => q _ H2 (by omega) (by omega) (D2.up (by omega)) (c1.trans c2)⟩
  · refine ⟨⟨by decide, by decide, by decide⟩, p, k + 1, 2, rfl, D1, by omega, by decide, by decide, fun i H2 i0 i1 D2 c2 => ⟨.inl (by decide), .inr (by omega), q _ H2 ?_ ?_ (D2.up (by omega)) (c1.trans c2)⟩⟩
    · have : i = 0 ∨ i = 1 := by omega
      rcases this with rfl | rfl <;> decide
    · have : i = 0 ∨ i = 1 := by omega
      rcases this with rfl | rfl <;> decide
  · refine ⟨⟨by decide, by decide, by decide⟩, p, k + 1, 10000000000, rfl, D1, by omega, by decide, by decide, fun i H2 i0 i1 D2 c2 => ⟨⟨by decide, by decide, by decide⟩, .inl (by omega), ⟨by decide, by decide, by decide⟩, p, k + 2, 10000000000, rfl, D2, by omega, by decide, by decide, fun j H3 j0 j1 D3 c3 => ?_⟩⟩
    have e : i * (10 : Int) ^ (Int.toNat 10) = i * 10000000000 := by rfl
    exact .inl ⟨rfl, zite (fun _ => q _ H3 (by omega) (by omega) D3 (c1.trans (c2.trans c3))) (fun _ => q _ H3 (by omega) (by omega) D3 (c1.trans (c2.trans c3)))⟩
theorem ok_law_value {P : Program} {w : World} {K : PySem.W.Frag} {mg : Str → Option Value} {base : Heap} {g : Ads} (T : Txt K mg g) : FnG false P w K mg base 2 g.f_law_value g.d_law_value ["draws"] (sp_law_value K g) := (raw_law_value T).imp pf_law_value
end Z
namespace Z
open PySem PySem.Spec PyProof.Rows L2
theorem ok_law_drawn_names {P : Program} {w : World} {K : PySem.W.Frag} {mg : Str → Option Value} {base : Heap} {g : Ads} (T : Txt K mg g) : FnG false P w K mg base 3 g.f_law_drawn_names g.d_law_drawn_names ["draws", "many"] (sp_law_drawn_names K g) := (raw_law_drawn_names T).imp pf_law_drawn_names
def sp_law_drawn_places (K : PySem.W.Frag) (g : Ads) : Sp := fun vs H Q E => ∃ (p : Addr), vs = [.ref p] ∧ DrwAt H p 0 ∧
  ∀ W a0 a1 a2 a3 a4 cs ss ls fs es H', H W = none → H' W = some (.lst [.ref a0, .ref a1, .ref a2, .ref a3, .ref a4]) → H' a0 = some (.lst (cs.map V.str)) → H' a1 = some (.lst (ss.map V.str)) → H' a2 = some (.lst (ls.map V.str)) → H' a3 = some (.lst (fs.map V.str)) → H' a4 = some (.lst (es.map V.str)) →
    NmL (cs ++ (ss ++ (ls ++ (fs ++ es)))) → cs.length ≤ 6 → ss.length ≤ 4 → ls.length ≤ 4 → fs.length ≤ 4 → es.length = 6 → DrwAt H' p 300 → But p H H' → Q (.ref W) H'
theorem sc_law_drawn_places : FnScope ["draws", "sizes", "words", "found", "at", "size", "turn"] ["draws"] (defScope s_law_drawn_places) := ⟨rfl, rfl, rfl, by decide +kernel, rfl, by decide +kernel, by decide +kernel⟩
def R_law_drawn_places_5 (K : PySem.W.Frag) (g : Ads) (E : XK) : TS :=
  (tAsg (tOp zAdd (zVar 4) (zVar 5)) (gName 4))
def R_law_drawn_places_4 (K : PySem.W.Frag) (g : Ads) (E : XK) : TS :=
  (tSeq (tDrop (tBM K "list" rAppend (zVar 3) (tCons (tSl (rSlL K) (zVar 2) (tPart (zVar 4)) (tPart (tOp zAdd (zVar 4) (zVar 5)))) tNil)))
  (R_law_drawn_places_5 K g E))
def R_law_drawn_places_3 (K : PySem.W.Frag) (g : Ads) (E : XK) : TS :=
  (tSeq (zFor (iList K (tOp zAdd (zVar 1) (tLst (tCons (tC (.int 6)) tNil)))) (gName 5)
  (R_law_drawn_places_4 K g E))
  (tRet (zVar 3)))
def R_law_drawn_places_2 (K : PySem.W.Frag) (g : Ads) (E : XK) : TS :=
  (tSeq (tPar3 2 3 4 (tCons (zCall (sp_law_drawn_names K g) [] (WE (fun cls d _ H => E cls d H)) (tCons (zVar 0) (tCons (tOp zAdd (tCB (rSum K) (tCons (zVar 1) tNil)) (tC (.int 6))) tNil))) (tCons (tLst tNil) (tCons (tC (.int 0)) tNil))))
  (R_law_drawn_places_3 K g E))
def R_law_drawn_places (K : PySem.W.Frag) (g : Ads) (E : XK) : TS :=
  (tSeq (tAsg (tOp zAdd (tLst (tCons (zCall (sp_law_count K g) [] (WE (fun cls d _ H => E cls d H)) (tCons (zVar 0) (tCons (tC (.int 3)) (tCons (tC (.int 6)) tNil)))) tNil)) (zLc (iRng1 (tCons (tC (.int 3)) tNil)) (gName 6) tYes (zCall (sp_law_count K g) [] (fun _ => E0) (tCons (zVar 0) (tCons (tC (.int 2)) (tCons (tC (.int 4)) tNil)))) [6])) (gName 1))
  (R_law_drawn_places_2 K g E))
def rw_law_drawn_places (K : PySem.W.Frag) (g : Ads) : Sp := fun vs H Q E => vs.length = 1 ∧ R_law_drawn_places K g E { nx := fun _ H' => Q .non H', rt := Q } (start ["draws", "sizes", "words", "found", "at", "size", "turn"] vs) H
theorem raw_law_drawn_places {P : Program} {w : World} {K : PySem.W.Frag} {mg : Str → Option Value} {base : Heap} {g : Ads} (T : Txt K mg g) : FnG false P w K mg base 4 g.f_law_drawn_places g.d_law_drawn_places ["draws"] (rw_law_drawn_places K g) := by
  refine okZ T.f_law_drawn_places sc_law_drawn_places (fun vs H Q E h => h.1) (fun cdv A outer s H vs Q E hr hgu h => ⟨R_law_drawn_places K g E, ?_, h.2⟩)
  exact (pss_cons (ps_set (i := 1) sc_law_drawn_places.nd rfl (Or.inl rfl) (pe_op op_zAdd (pe_lst (pa_cons (pe_callZ (ok_law_count T) (hr.mono (by decide)) (fun z => nomatch z) rfl T.g_law_count T.k_law_count T.e_law_count .nil (fun σ => passAt (takes_of rfl rfl rfl rfl) σ) (pa_cons (zv 0) (pa_cons pe_int (pa_cons pe_int pa_nil)))) pa_nil)) (pez_lc (own := [("turn", 6)]) rfl sc_law_drawn_places.nd (pi_range1 rfl T.b_range (pa_cons pe_int pa_nil)) (blkOk_by (own := [("turn", 6)]) (N := ["draws", "sizes", "words", "found", "at", "size", "turn"]) (sc := defScope s_law_drawn_places) (by decide +kernel)) (fun _ _ _ _ _ => pg_name (i := 6) sc_law_drawn_places.nd rfl (Or.inl rfl)) (fun _ _ _ _ _ => pts_nil) (fun _ _ _ _ _ => (pe_callZ (ok_law_count T) (hr.mono (by decide)) (fun z => nomatch z) rfl T.g_law_count T.k_law_count T.e_law_count .nil passE0 (pa_cons (zv 0) (pa_cons pe_int (pa_cons pe_int pa_nil))))))))
  (pss_cons (ps_par3 (i := 2) (j := 3) (l := 4) (by rfl) sc_law_drawn_places.nd rfl rfl rfl (by decide) (by decide) (by decide) rfl rfl rfl (pa_cons (pe_callZ (ok_law_drawn_names T) (hr.mono (by decide)) (fun z => nomatch z) rfl T.g_law_drawn_names T.k_law_drawn_names T.e_law_drawn_names .nil (fun σ => passAt (takes_of rfl rfl rfl rfl) σ) (pa_cons (zv 0) (pa_cons (pe_op op_zAdd (pe_callB (cr_sum rfl) (by rfl) T.b_sum (by decide +kernel) (pa_cons (zv 1) pa_nil)) pe_int) pa_nil))) (pa_cons (pe_lst pa_nil) (pa_cons pe_int pa_nil))) (by rfl))
  (pss_cons (psz_for PassesOwn.leaving rfl (pi_list (pe_op op_zAdd (zv 1) (pe_lst (pa_cons pe_int pa_nil)))) (pg_name (i := 5) sc_law_drawn_places.nd rfl (Or.inl rfl))
  (pss_cons (ps_expr (pe_bm PySem.F.plainAttrs_list PySem.F.slot_list_append PySem.F.type_list_append mt_append (zv 3) (pa_cons (pe_slice sl_list (zv 2) (po_some (zv 4)) (po_some (pe_op op_zAdd (zv 4) (zv 5)))) pa_nil)))
  (pss_one (ps_set (i := 4) sc_law_drawn_places.nd rfl (Or.inl rfl) (pe_op op_zAdd (zv 4) (zv 5))))))
  (pss_one (ps_ret (zv 3))))))
theorem cut_mid (xs : List V) (a b : Nat) : cutV xs (some (a : Int)) (some ((a : Int) + (b : Int))) = (xs.drop a).take b := by
  have e : ((a : Int) + (b : Int)) = ((a + b : Nat) : Int) := by omega
  rw [e]
  unfold cutV
  rw [HT.sIx_nat, HT.sIx_nat]
  by_cases h : a ≤ xs.length
  · rw [Nat.min_eq_left h]
    by_cases h2 : a + b ≤ xs.length
    · rw [Nat.min_eq_left h2]
      congr 1
      omega
    · rw [Nat.min_eq_right (by omega), List.take_of_length_le (by rw [List.length_drop]; omega), List.take_of_length_le (by rw [List.length_drop]; omega)]
  · rw [Nat.min_eq_right (show xs.length ≤ a by omega), List.drop_of_length_le (Nat.le_refl _), List.drop_of_length_le (by omega)]
    simp
theorem sum_nats (zs : List Nat) : (zs.map fun n : Nat => (n : Int)).sum = ((zs.sum : Nat) : Int) := by
  induction zs with
  | nil => rfl
  | cons z r ih =>
    rw [List.map_cons, List.sum_cons, ih, List.sum_cons]
    omega
theorem cut5 {ns : List Str} {n0 n1 n2 n3 : Nat} (h : ns.length = n0 + (n1 + (n2 + (n3 + (6 + 0))))) :
    (ns.drop 0).take n0 ++ ((ns.drop n0).take n1 ++ ((ns.drop (n0 + n1)).take n2 ++ ((ns.drop (n0 + (n1 + n2))).take n3 ++ (ns.drop (n0 + (n1 + (n2 + n3)))).take 6))) = ns := by
  have e4 : (ns.drop (n0 + (n1 + (n2 + n3)))).take 6 = ns.drop (n0 + (n1 + (n2 + n3))) := List.take_of_length_le (by rw [List.length_drop]; omega)
  have e3 : (ns.drop (n0 + (n1 + n2))).take n3 ++ ns.drop (n0 + (n1 + (n2 + n3))) = ns.drop (n0 + (n1 + n2)) := by
    have := List.take_append_drop n3 (ns.drop (n0 + (n1 + n2)))
    rw [List.drop_drop, show n0 + (n1 + n2) + n3 = n0 + (n1 + (n2 + n3)) by omega] at this
    exact this
  have e2 : (ns.drop (n0 + n1)).take n2 ++ ns.drop (n0 + (n1 + n2)) = ns.drop (n0 + n1) := by
    have := List.take_append_drop n2 (ns.drop (n0 + n1))
    rw [List.drop_drop, show n0 + n1 + n2 = n0 + (n1 + n2) by omega] at this
    exact this
  have e1 : (ns.drop n0).take n1 ++ ns.drop (n0 + n1) = ns.drop n0 := by
    have := List.take_append_drop n1 (ns.drop n0)
    rw [List.drop_drop] at this
    exact this
  rw [e4, e3, e2, e1, List.drop_zero, List.take_append_drop]
theorem pf_law_drawn_places {K : PySem.W.Frag} {g : Ads} (vs : List V) (H : Hp) (Q : VK) (E : XK) (h : sp_law_drawn_places K g vs H Q E) : rw_law_drawn_places K g vs H Q E := by
  obtain ⟨p, rfl, hD, q⟩ := h
  have eD := hD
  obtain ⟨g0, s0, t0, e0, _⟩ := eD
  refine ⟨rfl, p, 0, 3, 6, rfl, hD, by decide, by decide, by decide, by decide, fun i0 H1 a0 b0 D1 c1 => ⟨(by decide : 1 ≤ sizeLine), fun S1 hS1 => ?_⟩⟩
  obtain ⟨n0, rfl⟩ : ∃ k : Nat, i0 = k := ⟨i0.toNat, by omega⟩
  have e1p : ∃ u, H1 p = some u := by
    obtain ⟨g1, s1, t1, z, _⟩ := D1
    exact ⟨_, z⟩
  obtain ⟨u1, e1p⟩ := e1p
  have n1p : S1 ≠ p := fun z => by rw [z, e1p] at hS1; cases hS1
  have eS1 := upd_same (H := H1) (a := S1) (o := .lst [V.int (n0 : Nat)])
  have cS1 : But p H (upd H1 S1 (.lst [V.int (n0 : Nat)])) := c1.trans (But.same (Same.put hS1))
  have DS1 := D1.same (Same.put (o := .lst [V.int (n0 : Nat)]) hS1)
  generalize upd H1 S1 (.lst [V.int (n0 : Nat)]) = H2 at eS1 cS1 DS1 ⊢
  refine ⟨3, rfl, by decide, by decide, lc_z walk_range (fun A i H' => But p H2 H' ∧ DrwAt H' p (2 + 2 * i) ∧ ∃ ms : List Nat, H' A = some (.lst (ms.map fun n : Nat => V.int n)) ∧ ms.length = i ∧ ∀ m ∈ ms, m ≤ 4) (fun A hA => ⟨But.same (Same.put hA), DS1.same (Same.put hA), [], upd_same, rfl, fun m h => (nomatch h)⟩) (fun _ _ _ _ _ _ => trivial) ?_ ?_⟩
  · rintro A i x H3 H3' hA hi ⟨b3, D3, ms, e3, l3, m3⟩ ⟨rfl, rfl⟩
    have hi3 : i < 3 := hi
    obtain ⟨_, _, _, ep2, _⟩ := id DS1
    have nA : A ≠ p := fun z => by rw [z, ep2] at hA; cases hA
    refine ⟨rfl, p, 2 + 2 * i, 2, 4, rfl, D3, by omega, by decide, by decide, by decide, fun r H4 r0 r1 D4 b4 => ?_⟩
    obtain ⟨n, rfl⟩ : ∃ k : Nat, r = k := ⟨r.toNat, by omega⟩
    refine ⟨_, b4 _ _ e3 nA, ?_, ?_, ?_, ms ++ [n], ?_, by rw [List.length_append, l3]; rfl, ?_⟩
    · rw [List.length_map, l3]
      exact Nat.lt_of_lt_of_le hi3 (by decide)
    · exact fun b o e nb => by rw [upd_ne (ne_of_none e hA)]; exact b4 _ _ (b3 _ _ e nb) nb
    · obtain ⟨g1, s1, t1, a1, a2⟩ := D4
      exact DrwAt.up ⟨g1, s1, t1, by rw [upd_ne nA.symm]; exact a1, a2⟩ (by omega)
    · rw [upd_same, List.map_append]
      rfl
    · intro m hm
      rcases List.mem_append.mp hm with h | h
      · exact m3 m h
      · obtain rfl : m = n := by simpa using h
        omega
  rintro A H4 hA ⟨b4, D4, ms, e4, l4, m4⟩
  obtain ⟨n1, n2, n3, rfl⟩ : ∃ n1 n2 n3, ms = [n1, n2, n3] := by
    match ms, l4 with
    | [a, b, c], _ => exact ⟨a, b, c, rfl⟩
  have b1 : n1 ≤ 4 := m4 n1 (by simp)
  have b2 : n2 ≤ 4 := m4 n2 (by simp)
  have b3 : n3 ≤ 4 := m4 n3 (by simp)
  refine ⟨_, _, b4 _ _ eS1 n1p, e4, (show 1 + 3 ≤ sizeLine by decide), fun S hS => ?_⟩
  have cc := cS1.trans b4
  have e4p : ∃ u, H4 p = some u := by
    obtain ⟨g1, s1, t1, z, _⟩ := D4
    exact ⟨_, z⟩
  obtain ⟨u4, e4p⟩ := e4p
  have npS : S ≠ p := fun z => by rw [z, e4p] at hS; cases hS
  have eS := upd_same (H := H4) (a := S) (o := .lst [V.int (n0 : Nat), .int (n1 : Nat), .int (n2 : Nat), .int (n3 : Nat)])
  have cS : But p H (upd H4 S (.lst [V.int (n0 : Nat), .int (n1 : Nat), .int (n2 : Nat), .int (n3 : Nat)])) := cc.trans (But.same (Same.put hS))
  have DS := D4.same (Same.put (o := .lst [V.int (n0 : Nat), .int (n1 : Nat), .int (n2 : Nat), .int (n3 : Nat)]) hS)
  show R_law_drawn_places_2 K g E { nx := fun _ H' => Q .non H', rt := Q } [some (.ref p), some (.ref S), none, none, none, none, none] (upd H4 S (.lst [V.int (n0 : Nat), .int (n1 : Nat), .int (n2 : Nat), .int (n3 : Nat)]))
  generalize upd H4 S (.lst [V.int (n0 : Nat), .int (n1 : Nat), .int (n2 : Nat), .int (n3 : Nat)]) = H5 at eS cS DS ⊢
  refine ⟨S, [(n0 : Int), n1, n2, n3], rfl, SqL.of eS, p, 8, n0 + (n1 + (n2 + (n3 + (6 + 0)))), ?_, DS, by omega, by omega, fun D ns H6 hDn eDn ln nm D6 c6 => ?_⟩
  · have := sum_nats [n0, n1, n2, n3]
    show [V.ref p, V.int ([(n0 : Int), n1, n2, n3].sum + 6)] = _
    rw [show ([(n0 : Int), n1, n2, n3].sum) = _ from this]
    simp only [List.sum_cons, List.sum_nil]
    first | rfl | (congr 2; omega)
  refine ⟨(by decide : 0 ≤ sizeLine), fun F hF => ⟨_, _, _, rfl, ?_⟩⟩
  show R_law_drawn_places_3 K g E { nx := fun _ H' => Q .non H', rt := Q } [some (.ref p), some (.ref S), some (.ref D), some (.ref F), some (.int 0), none, none] (upd H6 F (.lst []))
  have e6S := c6 _ _ eS npS
  have sF := Same.put (o := .lst []) hF
  have e7 : (upd H6 F (.lst [])) F = some (.lst []) := upd_same
  have n6F : ∀ b o, H6 b = some o → b ≠ F := fun b o e => ne_of_none e hF
  obtain ⟨g1, s1, t1, z1, z2⟩ := D6
  have npF := n6F _ _ z1
  have c7 : But p H (upd H6 F (.lst [])) := cS.trans (c6.trans (But.same sF))
  have e7S := sF _ _ e6S
  have e7D := sF _ _ eDn
  have e7p := sF _ _ z1
  generalize upd H6 F (.lst []) = H7 at sF e7 c7 e7S e7D e7p ⊢
  have hFH : H F = none := by
    by_cases z : H F = none
    · exact z
    · obtain ⟨u, hu⟩ := Option.ne_none_iff_exists'.mp z
      exact absurd (c6 _ _ (cS _ _ hu (fun z => npF z.symm)) (fun z => npF z.symm)) (by rw [hF]; simp)
  refine ⟨(by decide : 1 ≤ sizeLine), fun L6 hL6 => ⟨_, _, Same.put hL6 _ _ e7S, upd_same, (show 4 + 1 ≤ sizeLine by decide), fun S2 hS2 => ?_⟩⟩
  obtain ⟨zs, ezs⟩ : ∃ zs : List Nat, zs = [n0, n1, n2, n3, 6] := ⟨_, rfl⟩
  have ez : [V.int (n0 : Nat), .int (n1 : Nat), .int (n2 : Nat), .int (n3 : Nat)] ++ [V.int 6] = zs.map fun n : Nat => V.int n := by rw [ezs]; rfl
  have s9 := (Same.put (o := .lst [V.int 6]) hL6).trans (Same.put (o := .lst (zs.map fun n : Nat => V.int n)) hS2)
  have eS2 := upd_same (H := upd H7 L6 (.lst [V.int 6])) (a := S2) (o := .lst (zs.map fun n : Nat => V.int n))
  have nFS : F ≠ S2 := ne_of_none (Same.put hL6 _ _ e7) hS2
  rw [ez]
  generalize upd (upd H7 L6 (.lst [V.int 6])) S2 (.lst (zs.map fun n : Nat => V.int n)) = H9 at s9 eS2 ⊢
  replace sF := sF.trans s9
  replace e7 := s9 _ _ e7
  replace c7 := c7.trans (But.same s9)
  replace e7D := s9 _ _ e7D
  replace e7p := s9 _ _ e7p
  clear e7S
  have e7S := eS2
  refine ⟨S2, rfl, ⟨_, SqL.of e7S⟩, for_z (walk_list (xs := zs.map fun n : Nat => V.int n)) (fun i σ H' => (∀ b o, H9 b = some o → b ≠ F → H' b = some o) ∧ ∃ as : List Addr, as.length = i ∧ H' F = some (.lst (as.map V.ref)) ∧ (∀ (j : Nat) (a : Addr), as[j]? = some a → a ≠ F ∧ H' a = some (.lst (((ns.drop ((zs.take j).sum)).take (zs.getD j 0)).map V.str))) ∧
      ∃ v5, σ = [some (.ref p), some (.ref S), some (.ref D), some (.ref F), some (.int ((zs.take i).sum : Nat)), v5, none]) ⟨fun b o e _ => e, [], rfl, e7, fun j a h => by simp at h, _, rfl⟩ (fun i σ H' _ h => SqL.of (h.1 _ _ e7S nFS.symm)) ?_ ?_⟩
  · rintro i x σ H8 H8' hi ⟨k8, as, la, e8, h8, v5, rfl⟩ ⟨rfl, hx⟩
    rw [List.length_map] at hi
    obtain ⟨z, ezz⟩ : ∃ z, zs[i]? = some z := ⟨_, List.getElem?_eq_getElem hi⟩
    have ex : x = .int (z : Nat) := by
      rw [List.getElem?_map, ezz] at hx
      exact (Option.some.inj hx).symm
    subst ex
    have eg : zs.getD i 0 = z := by rw [List.getD_eq_getElem?_getD, ezz]; rfl
    refine ⟨.inl ⟨rfl, _, SqL.of e8⟩, _, rfl, _, rfl, D, _, rfl, SqL.of (k8 _ _ e7D (n6F _ _ eDn)), fun L hL => ?_⟩
    have nFL : F ≠ L := ne_of_none e8 hL
    refine ⟨F, _, _, rfl, rfl, by rw [upd_ne nFL]; exact e8, ?_, fun b o e ne => ?_, as ++ [L], ?_, ?_, fun j a ha => ?_, some (.int (z : Nat)), ?_⟩
    · rw [List.length_map, la]
      have : zs.length = 5 := by rw [ezs]; rfl
      exact Nat.lt_of_lt_of_le (show i < 5 by omega) (by decide)
    · have e8b := k8 _ _ e ne
      rw [upd_ne ne, upd_ne (ne_of_none e8b hL)]
      exact e8b
    · rw [List.length_append, la]
      rfl
    · rw [upd_same, List.map_append]
      rfl
    · by_cases hj : j < as.length
      · rw [List.getElem?_append_left hj] at ha
        obtain ⟨h1, h2⟩ := h8 j a ha
        exact ⟨h1, by rw [upd_ne h1, upd_ne (ne_of_none h2 hL)]; exact h2⟩
      · have hj2 : j = as.length := by
          have := (List.getElem?_eq_some_iff.mp ha).1
          rw [List.length_append, List.length_singleton] at this
          omega
        subst hj2
        rw [List.getElem?_append_right (Nat.le_refl _), Nat.sub_self] at ha
        cases ha
        refine ⟨nFL.symm, ?_⟩
        rw [upd_ne nFL.symm, upd_same, la, eg, cut_mid]
        simp
    · show [some (V.ref p), some (.ref S), some (.ref D), some (.ref F), some (.int (((zs.take i).sum : Nat) + (z : Nat))), some (.int (z : Nat)), none] = _
      have e : ((zs.take (i + 1)).sum : Nat) = (zs.take i).sum + z := by
        rw [List.take_add_one, ezz, List.sum_append]
        simp
      rw [e]
      rfl
  · rintro σ H8 ⟨k8, as, la, e8, h8, v5, rfl⟩
    have l5 : zs.length = 5 := by rw [ezs]; rfl
    rw [List.length_map, l5] at la
    match as, la with
    | [a0, a1, a2, a3, a4], _ =>
      have p0 := (h8 0 a0 rfl).2
      have p1 := (h8 1 a1 rfl).2
      have p2 := (h8 2 a2 rfl).2
      have p3 := (h8 3 a3 rfl).2
      have p4 := (h8 4 a4 rfl).2
      rw [ezs] at p0 p1 p2 p3 p4
      have c5 := cut5 ln
      refine q F a0 a1 a2 a3 a4 ((ns.drop 0).take n0) ((ns.drop n0).take n1) ((ns.drop (n0 + n1)).take n2) ((ns.drop (n0 + (n1 + n2))).take n3) ((ns.drop (n0 + (n1 + (n2 + n3)))).take 6) H8 hFH e8 p0 p1 p2 p3 p4 (by rw [c5]; exact nm) ?_ ?_ ?_ ?_ ?_ ⟨g1, s1, t1, k8 _ _ e7p npF, z2.1, z2.2.1, z2.2.2.1, z2.2.2.2.1, by have := z2.2.2.2.2; omega⟩ (fun b o e ne => k8 _ _ (c7 _ _ e ne) (ne_of_none e hFH))
      all_goals (rw [List.length_take]; first | omega | (rw [List.length_drop]; omega))
theorem ok_law_drawn_places {P : Program} {w : World} {K : PySem.W.Frag} {mg : Str → Option Value} {base : Heap} {g : Ads} (T : Txt K mg g) : FnG false P w K mg base 4 g.f_law_drawn_places g.d_law_drawn_places ["draws"] (sp_law_drawn_places K g) := (raw_law_drawn_places T).imp pf_law_drawn_places
end Z
namespace Z
open PySem PySem.Spec PyProof.Rows L2
def sp_law_choice (K : PySem.W.Frag) (g : Ads) : Sp := fun us H Q E => ∃ (p l : Addr) (xs : List V) (k : Nat), us = [.ref p, .ref l] ∧ DrwAt H p k ∧ k + 1 ≤ 1000000 ∧ H l = some (.lst xs) ∧ l ≠ p ∧ 0 < xs.length ∧ xs.length ≤ 1000 ∧ ∀ v H', v ∈ xs → DrwAt H' p (k + 1) → But p H H' → Q v H'
theorem sc_law_choice : FnScope ["draws", "things"] ["draws", "things"] (defScope s_law_choice) := ⟨rfl, rfl, rfl, by decide +kernel, rfl, by decide +kernel, by decide +kernel⟩
def R_law_choice (K : PySem.W.Frag) (g : Ads) (E : XK) : TS :=
  (tRet (tOp (zIx K) (zVar 1) (zCall (sp_law_draw K g) [] (WE (fun cls d _ H => E cls d H)) (tCons (zVar 0) (tCons (tCB (zLen K) (tCons (zVar 1) tNil)) tNil)))))
def rw_law_choice (K : PySem.W.Frag) (g : Ads) : Sp := fun vs H Q E => vs.length = 2 ∧ R_law_choice K g E { nx := fun _ H' => Q .non H', rt := Q } (start ["draws", "things"] vs) H
theorem raw_law_choice {P : Program} {w : World} {K : PySem.W.Frag} {mg : Str → Option Value} {base : Heap} {g : Ads} (T : Txt K mg g) : FnG false P w K mg base 2 g.f_law_choice g.d_law_choice ["draws", "things"] (rw_law_choice K g) := by
  refine okZ T.f_law_choice sc_law_choice (fun vs H Q E h => h.1) (fun cdv A outer s H vs Q E hr hgu h => ⟨R_law_choice K g E, ?_, h.2⟩)
  exact (pss_one (ps_ret (pe_ix ix_z (zv 1) (pe_callZ (ok_law_draw T) (hr.mono (by decide)) (fun z => nomatch z) rfl T.g_law_draw T.k_law_draw T.e_law_draw .nil (fun σ => passAt (takes_of rfl rfl rfl rfl) σ) (pa_cons (zv 0) (pa_cons (pe_callB call_lenZ (by rfl) T.b_len (by decide +kernel) (pa_cons (zv 1) pa_nil)) pa_nil))) (fun _ _ => rfl))))
theorem ok_law_choice {P : Program} {w : World} {K : PySem.W.Frag} {mg : Str → Option Value} {base : Heap} {g : Ads} (T : Txt K mg g) : FnG false P w K mg base 2 g.f_law_choice g.d_law_choice ["draws", "things"] (sp_law_choice K g) :=
  (raw_law_choice T).imp fun us H Q E ⟨p, l, xs, k, e, hD, hk, hl, ne, h0, h1, q⟩ => by
    subst e
    refine ⟨rfl, xs, .inl (SqL.of hl), p, k, (xs.length : Int), rfl, hD, by omega, by omega, by omega, fun r H' r0 r1 D' c' => ?_⟩
    obtain ⟨n, rfl⟩ : ∃ n : Nat, r = n := ⟨r.toNat, by omega⟩
    have hn : n < xs.length := by omega
    exact ⟨xs, xs[n], .inl (SqL.of (c' _ _ hl ne)), atI_nat (List.getElem?_eq_getElem hn), q _ H' (List.getElem_mem hn) D' c'⟩
instance (z : Str) : Decidable (Asc z) := inferInstanceAs (Decidable (∀ c ∈ z.cps.toList, c < 128))
theorem Ltr.asc {z : Str} (h : Ltr z) : Asc z := fun c hc => Nat.lt_of_le_of_lt (h.2.2 c hc).2 (by decide)
def WldAt (H : Hp) (W a0 a1 a2 a3 a4 : Addr) (cs ss ls fs es : List Str) : Prop := H W = some (.lst [.ref a0, .ref a1, .ref a2, .ref a3, .ref a4]) ∧ H a0 = some (.lst (cs.map V.str)) ∧ H a1 = some (.lst (ss.map V.str)) ∧ H a2 = some (.lst (ls.map V.str)) ∧ H a3 = some (.lst (fs.map V.str)) ∧ H a4 = some (.lst (es.map V.str))
theorem WldAt.keep {H H' : Hp} {W a0 a1 a2 a3 a4 : Addr} {cs ss ls fs es : List Str} (h : WldAt H W a0 a1 a2 a3 a4 cs ss ls fs es) (k : ∀ b xs, H b = some (.lst xs) → (∀ x ∈ xs, (∃ a, x = .ref a) ∨ ∃ z, x = .str z) → H' b = some (.lst xs)) : WldAt H' W a0 a1 a2 a3 a4 cs ss ls fs es := by
  obtain ⟨h0, h1, h2, h3, h4, h5⟩ := h
  have ks : ∀ (b : Addr) (ns : List Str), H b = some (.lst (ns.map V.str)) → H' b = some (.lst (ns.map V.str)) := fun b ns e => k b _ e fun x hx => by
    obtain ⟨z, _, rfl⟩ := List.mem_map.mp hx
    exact .inr ⟨z, rfl⟩
  refine ⟨k _ _ h0 fun x hx => ?_, ks _ _ h1, ks _ _ h2, ks _ _ h3, ks _ _ h4, ks _ _ h5⟩
  simp only [List.mem_cons, List.not_mem_nil, or_false] at hx
  rcases hx with rfl | rfl | rfl | rfl | rfl <;> exact .inl ⟨_, rfl⟩
theorem WldAt.same {H H' : Hp} {W a0 a1 a2 a3 a4 : Addr} {cs ss ls fs es : List Str} (h : WldAt H W a0 a1 a2 a3 a4 cs ss ls fs es) (s : Same H H') : WldAt H' W a0 a1 a2 a3 a4 cs ss ls fs es := h.keep fun b xs e _ => s _ _ e
theorem WldAt.but {H H' : Hp} {W a0 a1 a2 a3 a4 p : Addr} {cs ss ls fs es : List Str} {n : Nat} (h : WldAt H W a0 a1 a2 a3 a4 cs ss ls fs es) (d : DrwAt H p n) (b : But p H H') : WldAt H' W a0 a1 a2 a3 a4 cs ss ls fs es := h.keep fun c xs e hx => b _ _ e fun z => by
  obtain ⟨g1, s1, t1, e1, _⟩ := d
  rw [z, e1] at e
  cases e
  rcases hx (.int g1) List.mem_cons_self with ⟨a, z⟩ | ⟨a, z⟩ <;> cases z
end Z
namespace Z
open PySem PySem.Spec PyProof.Rows L2
open LamX (CodeO Tabs TabS TabB ExtN GivesTo tLam lamCx lamEnv LamS lamS_by)
theorem sc_law_error : FnScope ["action", "e"] ["action"] (defScope s_law_error) := ⟨rfl, rfl, rfl, by decide +kernel, rfl, by decide +kernel, by decide +kernel⟩
def R_law_error (K : PySem.W.Frag) (g : Ads) (E : XK) (f c' : Addr) (q : Str) (tl : XK → Hp → VK → Prop) : TS :=
  (tSeq (fun D σ H => (fun W => (tDrop (zAct W f c' q tl))) (wAsV K (.ref g.c_NoPlace) 1 (zGuard 2 (tRet (tTup (tCons (tXv g.c_NoPlace "name" (zVar 1)) (tCons (tCB (rIsV K) (tCons (zVar 1) (tCons (tC (.ty "LookupError")) tNil))) tNil))))) D) D σ H)
  (tRet (tTup tNil)))
def TT_law_error (K : PySem.W.Frag) (g : Ads) (q : Str) : (XK → Hp → VK → Prop) → Hp → VK → Prop := fun tl H Q => ∀ f c', H c' = some (CodeO c' q) → R_law_error K g (fun _ _ _ => False) f c' q tl { nx := fun _ H' => Q .non H', rt := Q } (start ["action", "e"] [.ref f]) H
theorem gives_law_error {X : Cx} {g : Ads} {cdv : Value} {q : Str} (T : Txt X.K X.mg g) : GivesTo X ["action", "e"] "_law_error" (defScope s_law_error) g.f_law_error cdv (defBody s_law_error) "action" q (TT_law_error X.K g q) := by
  intro f c' s H Q tl act hc h
  refine ⟨R_law_error X.K g (fun _ _ _ => False) f c' q tl, ?_, h f c' hc⟩
  exact (pss_cons (ps_try_asV (i := 1) (tb := fun W => (tDrop (zAct W f c' q tl))) (ts := (zGuard 2 (tRet (tTup (tCons (tXv g.c_NoPlace "name" (zVar 1)) (tCons (tCB (rIsV X.K) (tCons (zVar 1) (tCons (tC (.ty "LookupError")) tNil))) tNil)))))) rfl rfl sc_law_error.nd rfl rfl ⟨rfl, by decide, Or.inl T.g_NoPlace⟩
  (fun W pn xe tk po => (pss_one (ps_expr (pe_zAct fun Ech hW => act _ _ _ Ech _ _ tk hW))))
  (fun a pn => (pss_guard rfl (pss_one (ps_ret (pe_tup (pa_cons (pe_xv T.xv_NoPlace T.a_NoPlace_name (zv 1)) (pa_cons (pe_callB call_isV (by rfl) T.b_isinstance (by decide +kernel) (pa_cons (zv 1) (pa_cons (pe_bltn (by rfl) T.b_LookupError (by decide +kernel) rfl) pa_nil))) pa_nil))))))))
  (pss_one (ps_ret (pe_tup pa_nil))))
/-- an action that lets by, or raises NoPlace with a thing; what is made of it -/
theorem err_np {K : PySem.W.Frag} {mg : Str → Option Value} {g : Ads} (T : Txt K mg g) {q : Str} {tl : XK → Hp → VK → Prop} {H : Hp} {Q : VK} (r : Option V)
    (hact : ∀ (Ech : XK) (Qa : VK), (r = none → ∀ v H', Same H H' → Qa v H') → (∀ i, r = some i → ∀ H' dd, Same H H' → H dd = none → H' dd = some (.xd [("name", i)]) → Ech (.ref g.c_NoPlace) (some dd) H') → tl Ech H Qa)
    (q1 : r = none → ∀ p H', Same H H' → H' p = some (.tup []) → Q (.ref p) H') (q2 : ∀ i, r = some i → ∀ p H', Same H H' → H' p = some (.tup [i, .bl true]) → Q (.ref p) H') : TT_law_error K g q tl H Q := by
  intro f c' hc
  refine ⟨fun cls d H' => ∀ σ', wAsV K (.ref g.c_NoPlace) 1 _ _ cls d σ' H', fun cls d σ' H' h => h σ', rfl, hc, hact _ _ (fun er v H' s => ?_) (fun i er H' dd s hd ed σ' => ⟨T.h_NoPlace, fun a ha => ?_⟩)⟩
  · exact ⟨(by decide : 0 ≤ sizeLine), fun p hp => q1 er p _ (s.trans (Same.put hp)) upd_same⟩
  · intro hl
    have ex : ExA (upd H' a (ExV (.ref g.c_NoPlace) (some dd) a)) a g.c_NoPlace [("name", i)] := ⟨dd, upd_same, by rw [upd_ne (ne_of_none ed ha)]; exact ed⟩
    have s1 := s.trans (Same.put (o := ExV (.ref g.c_NoPlace) (some dd) a) ha)
    generalize upd H' a (ExV (.ref g.c_NoPlace) (some dd) a) = H1 at ex s1
    match σ', hl with
    | [x, y], _ =>
      refine ⟨a, _, i, rfl, ex, rfl, a, _, _, .ty "LookupError", .type "LookupError", true, rfl, ex, T.xv_NoPlace, .ty _, T.kx_NoPlace_LookupError, ?_⟩
      exact ⟨(by decide : 2 ≤ sizeLine), fun p hp => q2 i er p _ (s1.trans (Same.put hp)) upd_same⟩
end Z
namespace Z
open PySem PySem.Spec PyProof.Rows L2
def failB (x y : V) : Bool := isNameV x && match y with
  | .int n => decide (1 ≤ n)
  | _ => false
/-- a value of which isinstance knows the kind, a text of any length -/
def KndY (K : PySem.W.Frag) (H : Hp) (v : V) : Prop := (∃ z, v = .str z) ∨ Knd K H v
theorem KndY.same {K : PySem.W.Frag} {H H' : Hp} {v : V} (h : KndY K H v) (s : Same H H') : KndY K H' v := h.imp id fun h => Knd.same h s
/-- what is_fail answers of a thing -/
def FV (K : PySem.W.Frag) (H : Hp) (v : V) (b : Bool) : Prop :=
  (b = false ∧ (v = .non ∨ (∃ c, v = .bl c) ∨ (∃ n, v = .int n) ∨ (∃ z, v = .str z) ∨ (∃ a xs, v = .ref a ∧ SqL K H a xs) ∨ (∃ a kvs, v = .ref a ∧ H a = some (.dK kvs)) ∨ ∃ a xs, v = .ref a ∧ SqT K H a xs ∧ xs.length ≠ 2)) ∨
  ∃ a x y, v = .ref a ∧ SqT K H a [x, y] ∧ Knd K H x ∧ KndY K H y ∧ b = failB x y
def sp_is_fail (K : PySem.W.Frag) (g : Ads) : Sp := fun vs H Q E => ∃ v b, vs = [v] ∧ FV K H v b ∧ ∀ H', Same H H' → Q (.bl b) H'
theorem sc_is_fail : FnScope ["thing", "is_number"] ["thing"] (defScope s_is_fail) := ⟨rfl, rfl, rfl, by decide +kernel, rfl, by decide +kernel, by decide +kernel⟩
def R_is_fail_4 (K : PySem.W.Frag) (g : Ads) (E : XK) : TS :=
  (tRet (zAndV (zCall (sp_is_name K g) [] (WE (fun cls d _ H => E cls d H)) (tCons (tOp (zIx K) (zVar 0) (tC (.int 0))) tNil)) (zAndV (zVar 1) (tOp zGe (tOp (zIx K) (zVar 0) (tC (.int 1))) (tC (.int 1))))))
def R_is_fail_3 (K : PySem.W.Frag) (g : Ads) (E : XK) : TS :=
  (tSeq (tAsg (zAndV (zIsiT K .int (tOp (zIx K) (zVar 0) (tC (.int 1)))) (zNotV (zIsiT K .bool (tOp (zIx K) (zVar 0) (tC (.int 1)))))) (gName 1))
  (R_is_fail_4 K g E))
def R_is_fail (K : PySem.W.Frag) (g : Ads) (E : XK) : TS :=
  (tSeq (tIfS (tOr (tNot (zTru K (zIsiT K .tuple (zVar 0)))) (zTest (tOp (zNe K) (tCB (zLen K) (tCons (zVar 0) tNil)) (tC (.int 2)))))
  (tRet (tC (.bl false)))
  tNext)
  (R_is_fail_3 K g E))
def rw_is_fail (K : PySem.W.Frag) (g : Ads) : Sp := fun vs H Q E => vs.length = 1 ∧ R_is_fail K g E { nx := fun _ H' => Q .non H', rt := Q } (start ["thing", "is_number"] vs) H
theorem raw_is_fail {P : Program} {w : World} {K : PySem.W.Frag} {mg : Str → Option Value} {base : Heap} {g : Ads} (T : Txt K mg g) : FnG false P w K mg base 2 g.f_is_fail g.d_is_fail ["thing"] (rw_is_fail K g) := by
  refine okZ T.f_is_fail sc_is_fail (fun vs H Q E h => h.1) (fun cdv A outer s H vs Q E hr hgu h => ⟨R_is_fail K g E, ?_, h.2⟩)
  exact (pss_cons (ps_if (PW.pt (pw_or (pt_not (ptz_truth (pe_isi (kd := .tuple) (zv 0) (by rfl) T.b_isinstance (by decide +kernel) (by rfl) T.b_tuple (by decide +kernel)) (by intro _; rfl))) (pw_or1 (ptz_cmp (op_zNe hr.units) (pe_callB call_lenZ (by rfl) T.b_len (by decide +kernel) (pa_cons (zv 0) pa_nil)) pe_int (nomark _)))))
  (pss_one (ps_ret pe_bl))
  pss_nil)
  (pss_cons (ps_set (i := 1) sc_is_fail.nd rfl (Or.inl rfl) (pez_and (pe_isi (kd := .int) (pe_ix ix_z (zv 0) pe_int (fun _ _ => rfl)) (by rfl) T.b_isinstance (by decide +kernel) (by rfl) T.b_int (by decide +kernel)) (pe_one (pez_not (pe_isi (kd := .bool) (pe_ix ix_z (zv 0) pe_int (fun _ _ => rfl)) (by rfl) T.b_isinstance (by decide +kernel) (by rfl) T.b_bool (by decide +kernel))))))
  (pss_one (ps_ret (pez_and (pe_callZ (ok_is_name T) (hr.mono (by decide)) (fun z => nomatch z) rfl T.g_is_name T.k_is_name T.e_is_name .nil (fun σ => passAt (takes_of rfl rfl rfl rfl) σ) (pa_cons (pe_ix ix_z (zv 0) pe_int (fun _ _ => rfl)) pa_nil)) (pez_and (zv 1) (pe_one (pe_cmpR op_zGe (pe_ix ix_z (zv 0) pe_int (fun _ _ => rfl)) pe_int (nomark _)))))))))
theorem FV.same {K : PySem.W.Frag} {H H' : Hp} {v : V} {b : Bool} (h : FV K H v b) (s : Same H H') : FV K H' v b := by
  rcases h with ⟨e, h⟩ | ⟨a, x, y, e1, e2, k1, k2, e3⟩
  · refine .inl ⟨e, h.imp id (Or.imp id (Or.imp id (Or.imp id (Or.imp ?_ (Or.imp ?_ ?_)))))⟩
    · exact fun ⟨a, xs, e, h⟩ => ⟨a, xs, e, s.seq h⟩
    · exact fun ⟨a, xs, e, h⟩ => ⟨a, xs, e, s _ _ h⟩
    · exact fun ⟨a, xs, e, h, l⟩ => ⟨a, xs, e, Z.Same.tup s h, l⟩
  · exact .inr ⟨a, x, y, e1, Z.Same.tup s e2, k1.same s, k2.same s, e3⟩
theorem pf_is_fail {K : PySem.W.Frag} {g : Ads} (vs : List V) (H : Hp) (Q : VK) (E : XK) (h : sp_is_fail K g vs H Q E) : rw_is_fail K g vs H Q E := by
  obtain ⟨v, b, rfl, hv, q⟩ := h
  refine ⟨rfl, ?_⟩
  rcases hv with ⟨rfl, rfl | ⟨c, rfl⟩ | ⟨n, rfl⟩ | ⟨z, rfl⟩ | ⟨a, xs, rfl, ha⟩ | ⟨a, kvs, rfl, ha⟩ | ⟨a, xs, rfl, ha, hl⟩⟩ | ⟨a, x, y, rfl, ha, kx, ky, rfl⟩
  · exact q H (Same.refl H)
  · exact q H (Same.refl H)
  · exact q H (Same.refl H)
  · exact q H (Same.refl H)
  · exact ⟨.list, ⟨xs, ha⟩, q H (Same.refl H)⟩
  · exact ⟨.dict, .inl ⟨kvs, ha⟩, q H (Same.refl H)⟩
  · refine ⟨.tuple, ⟨xs, ha⟩, xs, .inr ha, .inl ⟨rfl, ?_⟩⟩
    show if (!decide (V.int (xs.length : Nat) = V.int 2)) = true then _ else _
    have e : decide (V.int (xs.length : Nat) = V.int 2) = false := decide_eq_false fun z => hl (by injection z with z; omega)
    rw [e]
    exact q H (Same.refl H)
  · refine ⟨.tuple, ⟨_, ha⟩, _, .inr ha, .inl ⟨rfl, ?_⟩⟩
    -- whether the second is an integer
    have ret : ∀ c : Bool, (c = true → ∃ n, y = .int n) → (c = false → failB x y = false) → R_is_fail_4 K g E { nx := fun _ H' => Q .non H', rt := Q } [some (.ref a), some (.bl c)] H := fun c c1 c2 => by
      refine ⟨_, _, .inr ha, atI_nat (j := 0) rfl, x, rfl, kx, fun H' s => ?_⟩
      show if isNameV x = true then _ else _
      refine zite (fun hx => ?_) (fun hx => ?_)
      · cases c with
        | true =>
          obtain ⟨n, rfl⟩ := c1 rfl
          refine ⟨_, _, .inr (Z.Same.tup s ha), atI_nat (j := 1) rfl, ?_⟩
          have e : failB x (.int n) = decide (1 ≤ n) := by simp [failB, hx]
          rw [e] at q
          exact q H' s
        | false =>
          rw [c2 rfl] at q
          exact q H' s
      · have e : failB x y = false := by simp [failB, hx]
        rw [e] at q
        exact q H' s
    refine ⟨_, _, .inr ha, atI_nat (j := 1) rfl, ?_⟩
    cases y with
    | non => exact ret false (fun z => nomatch z) fun _ => by simp [failB]
    | bl k => exact ⟨_, _, .inr ha, atI_nat (j := 1) rfl, ret false (fun z => nomatch z) fun _ => by simp [failB]⟩
    | int n => exact ⟨_, _, .inr ha, atI_nat (j := 1) rfl, ret true (fun _ => ⟨n, rfl⟩) fun z => nomatch z⟩
    | str z => exact ret false (fun z => nomatch z) fun _ => by simp [failB]
    | ref r =>
      obtain ⟨t, ht⟩ : ∃ t, KndR K H r t := ky.elim (fun ⟨z, e⟩ => nomatch e) id
      cases t <;> first | exact ht.elim | exact ⟨_, ht, ret false (fun z => nomatch z) fun _ => by simp [failB]⟩
    | _ => exact ky.elim (fun ⟨z, e⟩ => nomatch e) fun h => h.elim
theorem ok_is_fail {P : Program} {w : World} {K : PySem.W.Frag} {mg : Str → Option Value} {base : Heap} {g : Ads} (T : Txt K mg g) : FnG false P w K mg base 2 g.f_is_fail g.d_is_fail ["thing"] (sp_is_fail K g) := (raw_is_fail T).imp pf_is_fail
/-- neither a list nor a tuple -/
def NonSq (H : Hp) (v : V) : Prop := v = .non ∨ (∃ c, v = .bl c) ∨ (∃ n, v = .int n) ∨ (∃ z, v = .str z) ∨ ∃ a, v = .ref a ∧ ((∃ kvs, H a = some (.dK kvs)) ∨ ∃ kvs, H a = some (.dT kvs))
theorem NonSq.same {H H' : Hp} {v : V} (h : NonSq H v) (s : Same H H') : NonSq H' v :=
  h.imp id (Or.imp id (Or.imp id (Or.imp id fun ⟨a, e, h⟩ => ⟨a, e, h.imp (fun ⟨k, h⟩ => ⟨k, s _ _ h⟩) fun ⟨k, h⟩ => ⟨k, s _ _ h⟩⟩)))
theorem kit_tl {K : PySem.W.Frag} {t : String} (h : t = "NoneType" ∨ t = "bool" ∨ t = "int" ∨ t = "str" ∨ t = "dict") : PySem.W.kitAny K (.type t) [.type "tuple", .type "list"] = some false := by
  have go : ∀ t, (t = "NoneType" ∨ t = "bool" ∨ t = "int" ∨ t = "str" ∨ t = "dict") → (("tuple" : String) == t || (("tuple" : String) == "int" && t == "bool")) = false ∧ (("list" : String) == t || (("list" : String) == "int" && t == "bool")) = false := by
    rintro t (rfl | rfl | rfl | rfl | rfl) <;> decide
  obtain ⟨g1, g2⟩ := go t h
  have ht : t = "NoneType" ∨ t = "bool" ∨ t = "int" ∨ t = "str" ∨ t = "list" ∨ t = "tuple" ∨ t = "dict" := by
    rcases h with h | h | h | h | h <;> simp [h]
  exact kitAny_cons (b := false) (kit_ty (by rw [kit_tab t "tuple" ht (by decide +kernel), g1])) (fun _ => kitAny_cons (b := false) (kit_ty (by rw [kit_tab t "list" ht (by decide +kernel), g2])) (fun _ => rfl) (fun z => nomatch z)) (fun z => nomatch z)
theorem kit_tlT {K : PySem.W.Frag} : PySem.W.kitAny K (.type "tuple") [.type "tuple", .type "list"] = some true :=
  kitAny_cons (b := true) (kit_ty (by rw [kit_tab "tuple" "tuple" (by simp) (by decide +kernel)]; decide)) (fun z => nomatch z) (fun _ => rfl)
theorem kit_tlL {K : PySem.W.Frag} : PySem.W.kitAny K (.type "list") [.type "tuple", .type "list"] = some true :=
  kitAny_cons (b := false) (kit_ty (by rw [kit_tab "list" "tuple" (by simp) (by decide +kernel)]; decide)) (fun _ => kitAny_cons (b := true) (kit_ty (by rw [kit_tab "list" "list" (by simp) (by decide +kernel)]; decide)) (fun z => nomatch z) (fun _ => rfl)) (fun _ => rfl)
theorem tyx_sq {K : PySem.W.Frag} {H : Hp} {a : Addr} {xs : List V} (h : Sq K H a xs) : (TyX K H (.ref a) (.type "tuple")) ∨ TyX K H (.ref a) (.type "list") := by
  rcases h with h | h
  · exact .inl (TyR.ty (t := "tuple") (.inr (.inl ⟨rfl, xs, h⟩))).1
  · exact .inr (TyR.ty (t := "list") (.inl ⟨rfl, xs, h⟩)).1
/-- the place of the first thing that is no failure -/
def firstF (bs : List Bool) : Option Nat := bs.findIdx? fun b => !b
theorem firstF_none {bs : List Bool} (h : ∀ b ∈ bs, b = true) : firstF bs = none := List.findIdx?_eq_none_iff.mpr fun b hb => by rw [h b hb]; rfl
theorem firstF_at {bs : List Bool} {i : Nat} (hi : bs[i]? = some false) (h : ∀ j, j < i → bs[j]? = some true) : firstF bs = some i := by
  have li := (List.getElem?_eq_some_iff.mp hi).1
  refine List.findIdx?_eq_some_iff_getElem.mpr ⟨li, by rw [(List.getElem?_eq_some_iff.mp hi).2]; rfl, fun j hj => ?_⟩
  have := h j hj
  rw [(List.getElem?_eq_some_iff.mp this).2]
  simp
def sp_check_fails (K : PySem.W.Frag) (g : Ads) : Sp := fun vs H Q E => ∃ v, vs = [v] ∧
  ((NonSq H v ∧ ∀ H' dd, Same H H' → H dd = none → H' dd = some (.xd [("index", .int (-1))]) → E (.ref g.c_BadFail) (some dd) H') ∨
   ∃ a xs bs, v = .ref a ∧ Sq K H a xs ∧ Paired (FV K H) xs bs ∧ (firstF bs = none → ∀ p H', Same H H' → SqT K H' p xs → Q (.ref p) H') ∧
     ∀ j, firstF bs = some j → ∀ H' dd, Same H H' → H dd = none → H' dd = some (.xd [("index", .int (j : Nat))]) → E (.ref g.c_BadFail) (some dd) H')
theorem sc_check_fails : FnScope ["fails", "index", "thing"] ["fails"] (defScope s_check_fails) := ⟨rfl, rfl, rfl, by decide +kernel, rfl, by decide +kernel, by decide +kernel⟩
def R_check_fails_2 (K : PySem.W.Frag) (g : Ads) (E : XK) : TS :=
  (zRaise (fun cls d _ H => E cls d H) g.c_BadFail (sp_BadFail_init K g) (tCons (zNeg (tC (.int 1))) tNil))
def R_check_fails_5 (K : PySem.W.Frag) (g : Ads) (E : XK) : TS :=
  (zRaise (fun cls d _ H => E cls d H) g.c_BadFail (sp_BadFail_init K g) (tCons (zVar 1) tNil))
def R_check_fails_4 (K : PySem.W.Frag) (g : Ads) (E : XK) : TS :=
  (tIfS (tNot (zTru K (zCall (sp_is_fail K g) [] (WE (fun cls d _ H => E cls d H)) (tCons (zVar 2) tNil))))
  (R_check_fails_5 K g E)
  tNext)
def R_check_fails_6 (K : PySem.W.Frag) (g : Ads) (E : XK) : TS :=
  (tRet (tCB (zTupOf K) (tCons (zVar 0) tNil)))
def R_check_fails_3 (K : PySem.W.Frag) (g : Ads) (E : XK) : TS :=
  (tSeq (zFor (zEnum K (tCons (zVar 0) tNil)) (gTup K 2 (gCons (gName 1) (gCons (gName 2) gNil)))
  (R_check_fails_4 K g E))
  (R_check_fails_6 K g E))
def R_check_fails (K : PySem.W.Frag) (g : Ads) (E : XK) : TS :=
  (tSeq (tIfS (tNot (zTru K (tCB (rIsiT K) (tCons (zVar 0) (tCons (tTup (tCons (tC (.ty "tuple")) (tCons (tC (.ty "list")) tNil))) tNil)))))
  (R_check_fails_2 K g E)
  tNext)
  (R_check_fails_3 K g E))
def rw_check_fails (K : PySem.W.Frag) (g : Ads) : Sp := fun vs H Q E => vs.length = 1 ∧ R_check_fails K g E { nx := fun _ H' => Q .non H', rt := Q } (start ["fails", "index", "thing"] vs) H
theorem raw_check_fails {P : Program} {w : World} {K : PySem.W.Frag} {mg : Str → Option Value} {base : Heap} {g : Ads} (T : Txt K mg g) : FnG false P w K mg base 3 g.f_check_fails g.d_check_fails ["fails"] (rw_check_fails K g) := by
  refine okZ T.f_check_fails sc_check_fails (fun vs H Q E h => h.1) (fun cdv A outer s H vs Q E hr hgu h => ⟨R_check_fails K g E, ?_, h.2⟩)
  exact (pss_cons (ps_if (pt_not (ptz_truth (pe_callB call_isiT (by rfl) T.b_isinstance (by decide +kernel) (pa_cons (zv 0) (pa_cons (pe_tup (pa_cons (pe_bltn (by rfl) T.b_tuple (by decide +kernel) rfl) (pa_cons (pe_bltn (by rfl) T.b_list (by decide +kernel) rfl) pa_nil))) pa_nil))) (by intro _; rfl)))
  (pss_one (ps_raise rfl (takes_of rfl rfl rfl rfl) (pmk_ZB T.o_BadFail T.i_BadFail T.t_BadFail (ok_BadFail_init T) (hr.mono (by decide)) (fun z => nomatch z) T.e_BadFail_init rfl T.g_BadFail (by exact (pa_cons (pez_neg pe_int) pa_nil)))))
  pss_nil)
  (pss_cons (psz_for PassesOwn.leaving rfl (pi_zEnum (by rfl) T.b_enumerate (pa_cons (zv 0) pa_nil)) (pg_tup rfl (pgs_cons (pg_name (i := 1) sc_check_fails.nd rfl (Or.inl rfl)) (pgs_cons (pg_name (i := 2) sc_check_fails.nd rfl (Or.inl rfl)) pgs_nil)))
  (pss_one (ps_if (pt_not (ptz_truth (pe_callZ (ok_is_fail T) (hr.mono (by decide)) (fun z => nomatch z) rfl T.g_is_fail T.k_is_fail T.e_is_fail .nil (fun σ => passAt (takes_of rfl rfl rfl rfl) σ) (pa_cons (zv 2) pa_nil)) (by intro _; rfl)))
  (pss_one (ps_raise rfl (takes_of rfl rfl rfl rfl) (pmk_ZB T.o_BadFail T.i_BadFail T.t_BadFail (ok_BadFail_init T) (hr.mono (by decide)) (fun z => nomatch z) T.e_BadFail_init rfl T.g_BadFail (by exact (pa_cons (zv 1) pa_nil)))))
  pss_nil)))
  (pss_one (ps_ret (pe_callTy call_tupZ (by rfl) T.b_tuple (by decide +kernel) (pa_cons (zv 0) pa_nil))))))
theorem paired_get {α β : Type} {R : α → β → Prop} {xs : List α} {ys : List β} (h : Paired R xs ys) {i : Nat} {x : α} (hx : xs[i]? = some x) : ∃ y, ys[i]? = some y ∧ R x y := by
  induction h generalizing i with
  | nil => simp at hx
  | cons p t ih =>
    cases i with
    | zero =>
      simp at hx
      subst hx
      exact ⟨_, rfl, p⟩
    | succ j => exact ih (by simpa using hx)
theorem pf_check_fails {K : PySem.W.Frag} {g : Ads} (vs : List V) (H : Hp) (Q : VK) (E : XK) (h : sp_check_fails K g vs H Q E) : rw_check_fails K g vs H Q E := by
  obtain ⟨v, rfl, h⟩ := h
  refine ⟨rfl, (by decide : 2 ≤ sizeLine), fun tp htp => ?_⟩
  have s1 := Same.put (o := .tup [.ty "tuple", .ty "list"]) htp
  have etp := upd_same (H := H) (a := tp) (o := .tup [.ty "tuple", .ty "list"])
  generalize upd H tp (.tup [.ty "tuple", .ty "list"]) = H1 at s1 etp
  rcases h with ⟨hn, ex⟩ | ⟨a, xs, bs, rfl, hq, hF, q1, q2⟩
  · obtain ⟨t, ht, ty⟩ : ∃ t, (t = "NoneType" ∨ t = "bool" ∨ t = "int" ∨ t = "str" ∨ t = "dict") ∧ TyX K H1 v (.type t) := by
      rcases hn.same s1 with rfl | ⟨c, rfl⟩ | ⟨n, rfl⟩ | ⟨z, rfl⟩ | ⟨a, rfl, ⟨k, h⟩ | ⟨k, h⟩⟩
      · exact ⟨"NoneType", by simp, .base .non⟩
      · exact ⟨"bool", by simp, .base (.bl _)⟩
      · exact ⟨"int", by simp, .base (.int _)⟩
      · exact ⟨"str", by simp, .base (.str _)⟩
      · exact ⟨"dict", by simp, .base (.dK h)⟩
      · exact ⟨"dict", by simp, .base (.dT h)⟩
    refine ⟨v, tp, _, .type t, _, false, rfl, etp, .cons (.ty "tuple") (.cons (.ty "list") .nil), ty, kit_tl ht, ?_⟩
    exact raise_at fun d hd => ex _ d (s1.trans (Same.put hd)) (s1.free hd) upd_same
  · have loop : ∀ (J : It) (G : Hp → Prop), Walk J xs.length G (YPair (fun i => some (.int (i : Nat))) (fun i => xs[i]?)) → (∀ H', Same H1 H' → G H') →
        forGo J (gTup K 2 (gCons (gName 1) (gCons (gName 2) gNil))) (R_check_fails_4 K g E) { nx := R_check_fails_6 K g E { nx := fun _ H' => Q .non H', rt := Q }, rt := Q } [some (.ref a), none, none] H1 := by
      intro J G wk hG
      refine for_z wk (fun i σ H' => Same H1 H' ∧ (∀ j, j < i → bs[j]? = some true) ∧ ∃ v1 v2, σ = [some (.ref a), v1, v2]) ⟨Same.refl _, fun j hj => absurd hj (Nat.not_lt_zero _), _, _, rfl⟩ (fun i σ H' _ h => hG _ h.1) ?_ ?_
      · rintro i x σ H2 H3 hi ⟨s2, hb, v1, v2, rfl⟩ ⟨T1, x1, y, rfl, hT, rfl, f1, f2⟩
        cases f1
        obtain ⟨b, hbi, fv⟩ := paired_get hF f2
        have s3 := s1.trans (s2.trans (Same.put (o := .tup [V.int (i : Nat), y]) hT))
        refine ⟨T1, _, rfl, SqT.of upd_same, rfl, _, _, rfl, _, _, rfl, rfl, y, b, rfl, fv.same s3, fun H4 s4 => ?_⟩
        have s5 := s3.trans s4
        cases b with
        | false => exact raise_at fun d hd => q2 i (firstF_at hbi hb) _ d (s5.trans (Same.put hd)) (s5.free hd) upd_same
        | true =>
          refine ⟨(s2.trans (Same.put (o := .tup [V.int (i : Nat), y]) hT)).trans s4, fun j hj => ?_, _, _, rfl⟩
          by_cases e : j = i
          · rw [e]
            exact hbi
          · exact hb j (by omega)
      · rintro σ H2 ⟨s2, hb, v1, v2, rfl⟩
        have fn : firstF bs = none := firstF_none fun b hm => by
          obtain ⟨j, hj, e⟩ := List.getElem_of_mem hm
          have := hb j (by rw [hF.length]; exact hj)
          rw [List.getElem?_eq_getElem hj, e] at this
          exact Option.some.inj this
        have s12 := s1.trans s2
        rcases hq.same s12 with h | h
        · exact ⟨xs, .inr ⟨h, q1 fn a H2 s12 h⟩⟩
        · exact ⟨xs, .inl ⟨h, fun p hp => q1 fn p _ (s12.trans (Same.put hp)) (SqT.of upd_same)⟩⟩
    have goes : R_check_fails_3 K g E { nx := fun _ H' => Q .non H', rt := Q } [some (.ref a), none, none] H1 := by
      rcases hq.same s1 with h | h
      · exact ⟨a, xs, rfl, .inr ⟨h, loop _ _ walk_zeT fun H' s => Z.Same.tup s h⟩⟩
      · exact ⟨a, xs, rfl, .inl ⟨h, loop _ _ walk_enum fun H' s => s.seq h⟩⟩
    rcases tyx_sq (hq.same s1) with ty | ty
    · exact ⟨_, tp, _, .type "tuple", _, true, rfl, etp, .cons (.ty "tuple") (.cons (.ty "list") .nil), ty, kit_tlT, goes⟩
    · exact ⟨_, tp, _, .type "list", _, true, rfl, etp, .cons (.ty "tuple") (.cons (.ty "list") .nil), ty, kit_tlL, goes⟩
theorem ok_check_fails {P : Program} {w : World} {K : PySem.W.Frag} {mg : Str → Option Value} {base : Heap} {g : Ads} (T : Txt K mg g) : FnG false P w K mg base 3 g.f_check_fails g.d_check_fails ["fails"] (sp_check_fails K g) := (raw_check_fails T).imp pf_check_fails
/-! ### copied: of nothing, or of an empty dict -/
def sp_copied (K : PySem.W.Frag) (g : Ads) : Sp := fun vs H Q E => ∃ v, vs = [v] ∧ (v = .non ∨ ∃ a, v = .ref a ∧ H a = some (.dK [])) ∧ ∀ p H', Same H H' → H p = none → H' p = some (.dK []) → Q (.ref p) H'
theorem sc_copied : FnScope ["table", "key"] ["table"] (defScope s_copied) := ⟨rfl, rfl, rfl, by decide +kernel, rfl, by decide +kernel, by decide +kernel⟩
def R_copied_4 (K : PySem.W.Frag) (g : Ads) (E : XK) : TS :=
  (tRet (tLockE (tDc (iKeys (zVar 0)) (gName 1) tYes (zVar 1) (tDGet (zVar 0) (zVar 1)) [1])))
def R_copied_3 (K : PySem.W.Frag) (g : Ads) (E : XK) : TS :=
  (tSeq (tIfS (zTru K (zIsiT K .dict (zVar 0)))
  (R_copied_4 K g E)
  tNext)
  (tRet (zVar 0)))
def R_copied (K : PySem.W.Frag) (g : Ads) (E : XK) : TS :=
  (tSeq (tIfS (zTest (tOp zIs (zVar 0) (tC .non)))
  (tRet tDNewK)
  tNext)
  (R_copied_3 K g E))
def rw_copied (K : PySem.W.Frag) (g : Ads) : Sp := fun vs H Q E => vs.length = 1 ∧ R_copied K g E { nx := fun _ H' => Q .non H', rt := Q } (start ["table", "key"] vs) H
theorem raw_copied {P : Program} {w : World} {K : PySem.W.Frag} {mg : Str → Option Value} {base : Heap} {g : Ads} (T : Txt K mg g) : FnG false P w K mg base 1 g.f_copied g.d_copied ["table"] (rw_copied K g) := by
  refine okZ T.f_copied sc_copied (fun vs H Q E h => h.1) (fun cdv A outer s H vs Q E hr hgu h => ⟨R_copied K g E, ?_, h.2⟩)
  exact (pss_cons (ps_if (ptz_cmp op_zIs (zv 0) pe_non (nomark _))
  (pss_one (ps_ret pe_dnewK))
  pss_nil)
  (pss_cons (ps_if (ptz_truth (pe_isi (kd := .dict) (zv 0) (by rfl) T.b_isinstance (by decide +kernel) (by rfl) T.b_dict (by decide +kernel)) (by intro _; rfl))
  (pss_one (ps_ret (pe_lock (pe_dc (own := [("key", 1)]) rfl sc_copied.nd (pi_keys (zv 0)) (blkOk_by (own := [("key", 1)]) (N := ["table", "key"]) (sc := defScope s_copied) (by decide +kernel)) (fun _ _ _ _ _ => pg_name (i := 1) sc_copied.nd rfl (Or.inl rfl)) (fun _ _ _ _ _ => pts_nil) (fun _ _ _ _ _ => (zv 1)) (fun _ _ _ _ _ => (pe_dget (hu_of hr) (zv 0) (zv 1) (fun _ _ => rfl)))))))
  pss_nil)
  (pss_one (ps_ret (zv 0)))))
theorem ok_copied {P : Program} {w : World} {K : PySem.W.Frag} {mg : Str → Option Value} {base : Heap} {g : Ads} (T : Txt K mg g) : FnG false P w K mg base 1 g.f_copied g.d_copied ["table"] (sp_copied K g) :=
  (raw_copied T).imp fun vs H Q E ⟨v, e, hv, q⟩ => by
    subst e
    refine ⟨rfl, ?_⟩
    rcases hv with rfl | ⟨a, rfl, ha⟩
    · exact ⟨rfl, fun p hp => q p _ (Same.put hp) hp upd_same⟩
    · refine ⟨rfl, .dict, .inl ⟨_, ha⟩, a, _, ha, trivial, fun od => ?_⟩
      obtain ⟨HL, eL⟩ : ∃ HL, HL = upd H a (.frz od (.dK [])) := ⟨_, rfl⟩
      have la : HL a = some (.frz od (.dK [])) := by rw [eL, upd_same]
      rw [← eL]
      refine ⟨a, od, rfl, .inl ⟨[], la, fun D hD => ?_⟩⟩
      have nD : a ≠ D := ne_of_none la hD
      refine dc_it (walk_keys (kvs := [])) (fun i H' => H' = upd HL D (.dK [])) rfl (fun i H' _ h => by rw [h, upd_ne nD]; exact la) (fun i x H1 H2 hi => absurd hi (Nat.not_lt_zero _)) fun H1 e1 => ?_
      subst e1
      refine ⟨by rw [upd_ne nD]; exact la, ?_⟩
      have hD0 : H D = none := by rw [eL] at hD; rw [upd_ne nD.symm] at hD; exact hD
      exact q D _ (same_unlock ha (by rw [← eL]; exact Same.put hD)) hD0 (by rw [upd_ne nD.symm, upd_same])
end Z
namespace Z
open PySem PySem.Spec PyProof.Rows L2
/-! ### what check_fails answers: the things, or the place of the first that is none -/
def Chk (K : PySem.W.Frag) (H : Hp) (fv : V) (r : Except Int (List V)) : Prop := (NonSq H fv ∧ r = .error (-1)) ∨ ∃ a xs bs, fv = .ref a ∧ Sq K H a xs ∧ Paired (FV K H) xs bs ∧ r = match firstF bs with
  | none => .ok xs
  | some j => .error (j : Int)
theorem Chk.same {K : PySem.W.Frag} {H H' : Hp} {fv : V} {r : Except Int (List V)} (h : Chk K H fv r) (s : Same H H') : Chk K H' fv r :=
  h.imp (fun ⟨h, e⟩ => ⟨h.same s, e⟩) fun ⟨a, xs, bs, e, h1, h2, h3⟩ => ⟨a, xs, bs, e, h1.same s, Paired.mapP h2 (fun _ _ f => f.same s), h3⟩
theorem Chk.use {K : PySem.W.Frag} {g : Ads} {H : Hp} {fv : V} {r : Except Int (List V)} {Q : VK} {E : XK} (h : Chk K H fv r) (q1 : ∀ xs, r = .ok xs → ∀ p H', Same H H' → SqT K H' p xs → Q (.ref p) H') (q2 : ∀ i, r = .error i → ∀ H' dd, Same H H' → H dd = none → H' dd = some (.xd [("index", .int i)]) → E (.ref g.c_BadFail) (some dd) H') :
    sp_check_fails K g [fv] H Q E := by
  refine ⟨fv, rfl, ?_⟩
  rcases h with ⟨hn, e⟩ | ⟨a, xs, bs, e, h1, h2, h3⟩
  · exact .inl ⟨hn, fun H' dd s hd ed => q2 _ e H' dd s hd ed⟩
  · refine .inr ⟨a, xs, bs, e, h1, h2, fun fn p H' s hp => q1 xs ?_ p H' s hp, fun j fj H' dd s hd ed => q2 _ ?_ H' dd s hd ed⟩
    · rw [h3, fn]
    · rw [h3, fj]
def clF (z : Str) (tp ty so fu te : Addr) : List (Str × V) := [("handler", .str z), ("fails", .ref tp), ("typed", .ref ty), ("sources", .ref so), ("functions", .ref fu), ("tests", .ref te)]
def ClAt (K : PySem.W.Frag) (g : Ads) (H : Hp) (o : Addr) (z : Str) (xs : List V) : Prop := ∃ dx tp ty so fu te, H o = some (.ins g.c_Call dx (clF z tp ty so fu te)) ∧ SqT K H tp xs ∧ H ty = some (.dK []) ∧ H so = some (.dK []) ∧ H fu = some (.dK []) ∧ H te = some (.dK [])
theorem ClAt.same {K : PySem.W.Frag} {g : Ads} {H H' : Hp} {o : Addr} {z : Str} {xs : List V} (h : ClAt K g H o z xs) (s : Same H H') : ClAt K g H' o z xs := by
  obtain ⟨dx, tp, ty, so, fu, te, h1, h2, h3, h4, h5, h6⟩ := h
  exact ⟨dx, tp, ty, so, fu, te, s _ _ h1, Z.Same.tup s h2, s _ _ h3, s _ _ h4, s _ _ h5, s _ _ h6⟩
def Emp (H : Hp) (v : V) : Prop := v = .non ∨ ∃ a, v = .ref a ∧ H a = some (.dK [])
theorem Emp.same {H H' : Hp} {v : V} (h : Emp H v) (s : Same H H') : Emp H' v := h.imp id fun ⟨a, e, h⟩ => ⟨a, e, s _ _ h⟩
def sp_Call_init (K : PySem.W.Frag) (g : Ads) : Sp := fun us H Q E => ∃ (o dx : Addr) (z : Str) (t1 t2 t3 t4 fv : V) (r : Except Int (List V)), us = [.ref o, .str z, t1, fv, t2, t3, t4] ∧ H o = some (.ins g.c_Call dx []) ∧ Emp (hid [o] H) t1 ∧ Emp (hid [o] H) t2 ∧ Emp (hid [o] H) t3 ∧ Emp (hid [o] H) t4 ∧ Chk K (hid [o] H) fv r ∧
  (∀ xs, r = .ok xs → ∀ H', But o H H' → ClAt K g H' o z xs → Q .non H') ∧ ∀ i, r = .error i → ∀ H' dd, But o H H' → H dd = none → H' dd = some (.xd [("index", .int i)]) → E (.ref g.c_BadFail) (some dd) H'
theorem sc_Call_init : FnScope ["self", "handler", "typed", "fails", "sources", "functions", "tests"] ["self", "handler", "typed", "fails", "sources", "functions", "tests"] (defScope s_Call_init) := ⟨rfl, rfl, rfl, by decide +kernel, rfl, by decide +kernel, by decide +kernel⟩
def R_Call_init_6 (K : PySem.W.Frag) (g : Ads) (E : XK) : TS :=
  (sFld K (zVar 0) (zCall (sp_copied K g) [] (WE (fun cls d _ H => E cls d H)) (tCons (zVar 6) tNil)) "tests")
def R_Call_init_5 (K : PySem.W.Frag) (g : Ads) (E : XK) : TS :=
  (tSeq (sFld K (zVar 0) (zCall (sp_copied K g) [] (WE (fun cls d _ H => E cls d H)) (tCons (zVar 5) tNil)) "functions")
  (R_Call_init_6 K g E))
def R_Call_init_4 (K : PySem.W.Frag) (g : Ads) (E : XK) : TS :=
  (tSeq (sFld K (zVar 0) (zCall (sp_copied K g) [] (WE (fun cls d _ H => E cls d H)) (tCons (zVar 4) tNil)) "sources")
  (R_Call_init_5 K g E))
def R_Call_init_3 (K : PySem.W.Frag) (g : Ads) (E : XK) : TS :=
  (tSeq (sFld K (zVar 0) (zCall (sp_copied K g) [] (WE (fun cls d _ H => E cls d H)) (tCons (zVar 2) tNil)) "typed")
  (R_Call_init_4 K g E))
def R_Call_init_2 (K : PySem.W.Frag) (g : Ads) (E : XK) : TS :=
  (tSeq (sFld K (zVar 0) (zCall (sp_check_fails K g) [] (WE (fun cls d _ H => E cls d H)) (tCons (zVar 3) tNil)) "fails")
  (R_Call_init_3 K g E))
def R_Call_init (K : PySem.W.Frag) (g : Ads) (E : XK) : TS :=
  (tSeq (sFld K (zVar 0) (zVar 1) "handler")
  (R_Call_init_2 K g E))
def rw_Call_init (K : PySem.W.Frag) (g : Ads) : Sp := fun vs H Q E => vs.length = 7 ∧ R_Call_init K g E { nx := fun _ H' => Q .non H', rt := Q } (start ["self", "handler", "typed", "fails", "sources", "functions", "tests"] vs) H
theorem raw_Call_init {P : Program} {w : World} {K : PySem.W.Frag} {mg : Str → Option Value} {base : Heap} {g : Ads} (T : Txt K mg g) : FnG false P w K mg base 4 g.f_Call_init g.d_Call_init ["self", "handler", "typed", "fails", "sources", "functions", "tests"] (rw_Call_init K g) := by
  refine okZ T.f_Call_init sc_Call_init (fun vs H Q E h => h.1) (fun cdv A outer s H vs Q E hr hgu h => ⟨R_Call_init K g E, ?_, h.2⟩)
  exact (pss_cons (ps_fld (zv 0) (zv 1) rfl)
  (pss_cons (ps_fld (zv 0) (pe_callZ (ok_check_fails T) (hr.mono (by decide)) (fun z => nomatch z) rfl T.g_check_fails T.k_check_fails T.e_check_fails .nil (fun σ => passAt (takes_of rfl rfl rfl rfl) σ) (pa_cons (zv 3) pa_nil)) rfl)
  (pss_cons (ps_fld (zv 0) (pe_callZ (ok_copied T) (hr.mono (by decide)) (fun z => nomatch z) rfl T.g_copied T.k_copied T.e_copied .nil (fun σ => passAt (takes_of rfl rfl rfl rfl) σ) (pa_cons (zv 2) pa_nil)) rfl)
  (pss_cons (ps_fld (zv 0) (pe_callZ (ok_copied T) (hr.mono (by decide)) (fun z => nomatch z) rfl T.g_copied T.k_copied T.e_copied .nil (fun σ => passAt (takes_of rfl rfl rfl rfl) σ) (pa_cons (zv 4) pa_nil)) rfl)
  (pss_cons (ps_fld (zv 0) (pe_callZ (ok_copied T) (hr.mono (by decide)) (fun z => nomatch z) rfl T.g_copied T.k_copied T.e_copied .nil (fun σ => passAt (takes_of rfl rfl rfl rfl) σ) (pa_cons (zv 5) pa_nil)) rfl)
  (pss_one (ps_fld (zv 0) (pe_callZ (ok_copied T) (hr.mono (by decide)) (fun z => nomatch z) rfl T.g_copied T.k_copied T.e_copied .nil (fun σ => passAt (takes_of rfl rfl rfl rfl) σ) (pa_cons (zv 6) pa_nil)) rfl)))))))
theorem pf_Call_init {K : PySem.W.Frag} {mg : Str → Option Value} {g : Ads} (T : Txt K mg g) (us : List V) (H : Hp) (Q : VK) (E : XK) (h : sp_Call_init K g us H Q E) : rw_Call_init K g us H Q E := by
  obtain ⟨o, dx, z, t1, t2, t3, t4, fv, r, rfl, ho, m1, m2, m3, m4, hf, q1, q2⟩ := h
  refine ⟨rfl, ?_⟩
  have keep : ∀ {H'}, But o H H' → Same (hid [o] H) H' := fun b => (hid_but b).trans hid_sub
  obtain ⟨σ, eσ⟩ : ∃ σ : St, σ = [some (.ref o), some (.str z), some t1, some fv, some t2, some t3, some t4] := ⟨_, rfl⟩
  refine ⟨o, _, dx, _, rfl, ho, T.cl_Call, T.na_Call_handler, show 0 < 1000 by decide, ?_⟩
  have b1 : But o H (upd H o (.ins g.c_Call dx [("handler", .str z)])) := But.put
  have e1 := upd_same (H := H) (a := o) (o := .ins g.c_Call dx [("handler", .str z)])
  show R_Call_init_2 K g E { nx := fun _ H' => Q .non H', rt := Q } [some (.ref o), some (.str z), some t1, some fv, some t2, some t3, some t4] (upd H o (.ins g.c_Call dx [("handler", .str z)]))
  generalize upd H o (.ins g.c_Call dx [("handler", .str z)]) = H1 at b1 e1 ⊢
  rcases hf.same (keep b1) with ⟨hn, er⟩ | ⟨fa, xs, bs, efv, h1, h2, h3⟩
  · exact ⟨fv, rfl, .inl ⟨hn, fun H2 dd s2 hd ed => q2 _ er H2 dd (b1.trans (But.same s2)) (but_free b1 e1 hd) ed⟩⟩
  refine ⟨fv, rfl, .inr ⟨fa, xs, bs, efv, h1, h2, fun fn tp H2 s2 htp => ?_, fun j fj H2 dd s2 hd ed => q2 j (by rw [h3, fj]) H2 dd (b1.trans (But.same s2)) (but_free b1 e1 hd) ed⟩⟩
  have er : r = .ok xs := by rw [h3, fn]
  refine ⟨o, _, dx, _, rfl, s2 _ _ e1, T.cl_Call, T.na_Call_fails, show 1 < 1000 by decide, ?_⟩
  have t3' : But o H2 (upd H2 o (.ins g.c_Call dx [("handler", .str z), ("fails", .ref tp)])) := But.put
  have htp3 := t3'.tup2 (s2 _ _ e1) htp
  have b3 := (b1.trans (But.same s2)).trans t3'
  have e3 := upd_same (H := H2) (a := o) (o := .ins g.c_Call dx [("handler", .str z), ("fails", .ref tp)])
  show R_Call_init_3 K g E { nx := fun _ H' => Q .non H', rt := Q } [some (.ref o), some (.str z), some t1, some fv, some t2, some t3, some t4] (upd H2 o (.ins g.c_Call dx [("handler", .str z), ("fails", .ref tp)]))
  generalize upd H2 o (.ins g.c_Call dx [("handler", .str z), ("fails", .ref tp)]) = H3 at t3' htp3 b3 e3 ⊢
  clear t3'
  refine ⟨t1, rfl, m1.same (keep b3), fun ty H4 s4 _ ey => ?_⟩
  refine ⟨o, _, dx, _, rfl, s4 _ _ e3, T.cl_Call, T.na_Call_typed, show 2 < 1000 by decide, ?_⟩
  have ny : ty ≠ o := fun w => by rw [w, s4 _ _ e3] at ey; cases ey
  have t5 : But o H4 (upd H4 o (.ins g.c_Call dx [("handler", .str z), ("fails", .ref tp), ("typed", .ref ty)])) := But.put
  have htp5 := t5.tup2 (s4 _ _ e3) (Z.Same.tup s4 htp3)
  have y5 := t5 _ _ ey ny
  have b5 := (b3.trans (But.same s4)).trans t5
  have e5 := upd_same (H := H4) (a := o) (o := .ins g.c_Call dx [("handler", .str z), ("fails", .ref tp), ("typed", .ref ty)])
  show R_Call_init_4 K g E { nx := fun _ H' => Q .non H', rt := Q } [some (.ref o), some (.str z), some t1, some fv, some t2, some t3, some t4] (upd H4 o (.ins g.c_Call dx [("handler", .str z), ("fails", .ref tp), ("typed", .ref ty)]))
  generalize upd H4 o (.ins g.c_Call dx [("handler", .str z), ("fails", .ref tp), ("typed", .ref ty)]) = H5 at t5 htp5 y5 b5 e5 ⊢
  clear t5
  refine ⟨t2, rfl, m2.same (keep b5), fun so H6 s6 _ es => ?_⟩
  refine ⟨o, _, dx, _, rfl, s6 _ _ e5, T.cl_Call, T.na_Call_sources, show 3 < 1000 by decide, ?_⟩
  have ns : so ≠ o := fun w => by rw [w, s6 _ _ e5] at es; cases es
  have t7 : But o H6 (upd H6 o (.ins g.c_Call dx [("handler", .str z), ("fails", .ref tp), ("typed", .ref ty), ("sources", .ref so)])) := But.put
  have htp7 := t7.tup2 (s6 _ _ e5) (Z.Same.tup s6 htp5)
  have y7 := t7 _ _ (s6 _ _ y5) ny
  have o7 := t7 _ _ es ns
  have b7 := (b5.trans (But.same s6)).trans t7
  have e7 := upd_same (H := H6) (a := o) (o := .ins g.c_Call dx [("handler", .str z), ("fails", .ref tp), ("typed", .ref ty), ("sources", .ref so)])
  show R_Call_init_5 K g E { nx := fun _ H' => Q .non H', rt := Q } [some (.ref o), some (.str z), some t1, some fv, some t2, some t3, some t4] (upd H6 o (.ins g.c_Call dx [("handler", .str z), ("fails", .ref tp), ("typed", .ref ty), ("sources", .ref so)]))
  generalize upd H6 o (.ins g.c_Call dx [("handler", .str z), ("fails", .ref tp), ("typed", .ref ty), ("sources", .ref so)]) = H7 at t7 htp7 y7 o7 b7 e7 ⊢
  clear t7
  refine ⟨t3, rfl, m3.same (keep b7), fun fu H8 s8 _ ef => ?_⟩
  refine ⟨o, _, dx, _, rfl, s8 _ _ e7, T.cl_Call, T.na_Call_functions, show 4 < 1000 by decide, ?_⟩
  have nf : fu ≠ o := fun w => by rw [w, s8 _ _ e7] at ef; cases ef
  have t9 : But o H8 (upd H8 o (.ins g.c_Call dx [("handler", .str z), ("fails", .ref tp), ("typed", .ref ty), ("sources", .ref so), ("functions", .ref fu)])) := But.put
  have htp9 := t9.tup2 (s8 _ _ e7) (Z.Same.tup s8 htp7)
  have y9 := t9 _ _ (s8 _ _ y7) ny
  have o9 := t9 _ _ (s8 _ _ o7) ns
  have f9 := t9 _ _ ef nf
  have b9 := (b7.trans (But.same s8)).trans t9
  have e9 := upd_same (H := H8) (a := o) (o := .ins g.c_Call dx [("handler", .str z), ("fails", .ref tp), ("typed", .ref ty), ("sources", .ref so), ("functions", .ref fu)])
  show R_Call_init_6 K g E { nx := fun _ H' => Q .non H', rt := Q } [some (.ref o), some (.str z), some t1, some fv, some t2, some t3, some t4] (upd H8 o (.ins g.c_Call dx [("handler", .str z), ("fails", .ref tp), ("typed", .ref ty), ("sources", .ref so), ("functions", .ref fu)]))
  generalize upd H8 o (.ins g.c_Call dx [("handler", .str z), ("fails", .ref tp), ("typed", .ref ty), ("sources", .ref so), ("functions", .ref fu)]) = H9 at t9 htp9 y9 o9 f9 b9 e9 ⊢
  clear t9
  refine ⟨t4, rfl, m4.same (keep b9), fun te H10 s10 _ et => ?_⟩
  refine ⟨o, _, dx, _, rfl, s10 _ _ e9, T.cl_Call, T.na_Call_tests, show 5 < 1000 by decide, ?_⟩
  have nt : te ≠ o := fun w => by rw [w, s10 _ _ e9] at et; cases et
  have t11 : But o H10 (upd H10 o (.ins g.c_Call dx (clF z tp ty so fu te))) := But.put
  show Q .non (upd H10 o (.ins g.c_Call dx (clF z tp ty so fu te)))
  exact q1 xs er _ ((b9.trans (But.same s10)).trans t11) ⟨dx, tp, ty, so, fu, te, upd_same, t11.tup2 (s10 _ _ e9) (Z.Same.tup s10 htp9), t11 _ _ (s10 _ _ y9) ny, t11 _ _ (s10 _ _ o9) ns, t11 _ _ (s10 _ _ f9) nf, t11 _ _ et nt⟩
theorem ok_Call_init {P : Program} {w : World} {K : PySem.W.Frag} {mg : Str → Option Value} {base : Heap} {g : Ads} (T : Txt K mg g) : FnG false P w K mg base 4 g.f_Call_init g.d_Call_init ["self", "handler", "typed", "fails", "sources", "functions", "tests"] (sp_Call_init K g) := (raw_Call_init T).imp (pf_Call_init T)
end Z
namespace Z
open PySem PySem.Spec PyProof.Rows L2
theorem sc_law_same : FnScope ["one", "other", "k"] ["one", "other"] (defScope s_law_same) := ⟨rfl, rfl, rfl, by decide +kernel, rfl, by decide +kernel, by decide +kernel⟩
def R_law_same_6 (K : PySem.W.Frag) (g : Ads) (SPR : Sp) (E : XK) : TS :=
  (tRet (tCB (rAll K) (tCons (zLc (iRng1 (tCons (tCB (zLen K) (tCons (zVar 1) tNil)) tNil)) (gName 2) tYes (zCall SPR [] (fun _ => E0) (tCons (tOp (zIx K) (zVar 0) (zVar 2)) (tCons (tOp (zIx K) (zVar 1) (zVar 2)) tNil))) [2]) tNil)))
def R_law_same_4 (K : PySem.W.Frag) (g : Ads) (SPR : Sp) (E : XK) : TS :=
  (tSeq (tIfS (zTest (tOp (zNe K) (zIsiT K .list (zVar 0)) (zIsiT K .list (zVar 1))))
  (tRet (tC (.bl false)))
  tNext)
  (R_law_same_6 K g SPR E))
def R_law_same_2 (K : PySem.W.Frag) (g : Ads) (SPR : Sp) (E : XK) : TS :=
  (tSeq (tIfS (tOr (tNot (zTru K (tCB (rIsiT K) (tCons (zVar 0) (tCons (tTup (tCons (tC (.ty "list")) (tCons (tC (.ty "tuple")) tNil))) tNil))))) (zTest (tOp (zNe K) (tCB (zLen K) (tCons (zVar 0) tNil)) (tCB (zLen K) (tCons (zVar 1) tNil)))))
  (tRet (tC (.bl false)))
  tNext)
  (R_law_same_4 K g SPR E))
def R_law_same_8 (K : PySem.W.Frag) (g : Ads) (SPR : Sp) (E : XK) : TS :=
  (tRet (zAndV (tOp zIs (zVar 0) (tC .non)) (tOp zIs (zVar 1) (tC .non))))
def R_law_same_9 (K : PySem.W.Frag) (g : Ads) (SPR : Sp) (E : XK) : TS :=
  (tRet (zAndV (tCB (rIsiT K) (tCons (zVar 0) (tCons (tTup (tCons (tC (.ty "int")) (tCons (tC (.ty "str")) tNil))) tNil))) (tOp (zEq K) (zVar 0) (zVar 1))))
def R_law_same_7 (K : PySem.W.Frag) (g : Ads) (SPR : Sp) (E : XK) : TS :=
  (tSeq (tIfS (tOr (zTest (tOp zIs (zVar 0) (tC .non))) (tOr (zTest (tOp zIs (zVar 1) (tC .non))) (zTest (tOp (zNe K) (zIsiT K .bool (zVar 0)) (zIsiT K .bool (zVar 1))))))
  (R_law_same_8 K g SPR E)
  tNext)
  (R_law_same_9 K g SPR E))
def R_law_same (K : PySem.W.Frag) (g : Ads) (SPR : Sp) (E : XK) : TS :=
  (tSeq (tIfS (zTru K (tCB (rIsiT K) (tCons (zVar 1) (tCons (tTup (tCons (tC (.ty "list")) (tCons (tC (.ty "tuple")) tNil))) tNil))))
  (R_law_same_2 K g SPR E)
  tNext)
  (R_law_same_7 K g SPR E))
def rw_law_same (K : PySem.W.Frag) (g : Ads) (SPR : Sp) : Sp := fun vs H Q E => vs.length = 2 ∧ R_law_same K g SPR E { nx := fun _ H' => Q .non H', rt := Q } (start ["one", "other", "k"] vs) H
theorem raw_law_same {P : Program} {w : World} {K : PySem.W.Frag} {mg : Str → Option Value} {base : Heap} {g : Ads} (T : Txt K mg g) {k : Nat} {SPR : Sp} (F : FnG false P w K mg base k g.f_law_same g.d_law_same ["one", "other"] SPR) : FnG false P w K mg base (k + 1) g.f_law_same g.d_law_same ["one", "other"] (rw_law_same K g SPR) := by
  refine okZ T.f_law_same sc_law_same (fun vs H Q E h => h.1) (fun cdv A outer s H vs Q E hr hgu h => ⟨R_law_same K g SPR E, ?_, h.2⟩)
  exact (pss_cons (ps_if (ptz_truth (pe_callB call_isiT (by rfl) T.b_isinstance (by decide +kernel) (pa_cons (zv 1) (pa_cons (pe_tup (pa_cons (pe_bltn (by rfl) T.b_list (by decide +kernel) rfl) (pa_cons (pe_bltn (by rfl) T.b_tuple (by decide +kernel) rfl) pa_nil))) pa_nil))) (by intro _; rfl))
  (pss_cons (ps_if (PW.pt (pw_or (pt_not (ptz_truth (pe_callB call_isiT (by rfl) T.b_isinstance (by decide +kernel) (pa_cons (zv 0) (pa_cons (pe_tup (pa_cons (pe_bltn (by rfl) T.b_list (by decide +kernel) rfl) (pa_cons (pe_bltn (by rfl) T.b_tuple (by decide +kernel) rfl) pa_nil))) pa_nil))) (by intro _; rfl))) (pw_or1 (ptz_cmp (op_zNe hr.units) (pe_callB call_lenZ (by rfl) T.b_len (by decide +kernel) (pa_cons (zv 0) pa_nil)) (pe_callB call_lenZ (by rfl) T.b_len (by decide +kernel) (pa_cons (zv 1) pa_nil)) (nomark _)))))
  (pss_one (ps_ret pe_bl))
  pss_nil)
  (pss_cons (ps_if (ptz_cmp (op_zNe hr.units) (pe_isi (kd := .list) (zv 0) (by rfl) T.b_isinstance (by decide +kernel) (by rfl) T.b_list (by decide +kernel)) (pe_isi (kd := .list) (zv 1) (by rfl) T.b_isinstance (by decide +kernel) (by rfl) T.b_list (by decide +kernel)) (nomark _))
  (pss_one (ps_ret pe_bl))
  pss_nil)
  (pss_one (ps_ret (pe_callB (cr_all rfl) (by rfl) T.b_all (by decide +kernel) (pa_cons (pez_lc (own := [("k", 2)]) rfl sc_law_same.nd (pi_range1 rfl T.b_range (pa_cons (pe_callB call_lenZ (by rfl) T.b_len (by decide +kernel) (pa_cons (zv 1) pa_nil)) pa_nil)) (blkOk_by (own := [("k", 2)]) (N := ["one", "other", "k"]) (sc := defScope s_law_same) (by decide +kernel)) (fun _ _ _ _ _ => pg_name (i := 2) sc_law_same.nd rfl (Or.inl rfl)) (fun _ _ _ _ _ => pts_nil) (fun _ _ _ _ _ => (pe_callZ F hr (fun z => nomatch z) rfl T.g_law_same T.k_law_same T.e_law_same .nil passE0 (pa_cons (pe_ix ix_z (zv 0) (zv 2) (fun _ _ => rfl)) (pa_cons (pe_ix ix_z (zv 1) (zv 2) (fun _ _ => rfl)) pa_nil))))) pa_nil))))))
  pss_nil)
  (pss_cons (ps_if (PW.pt (pw_or (ptz_cmp op_zIs (zv 0) pe_non (nomark _)) (pw_or (ptz_cmp op_zIs (zv 1) pe_non (nomark _)) (pw_or1 (ptz_cmp (op_zNe hr.units) (pe_isi (kd := .bool) (zv 0) (by rfl) T.b_isinstance (by decide +kernel) (by rfl) T.b_bool (by decide +kernel)) (pe_isi (kd := .bool) (zv 1) (by rfl) T.b_isinstance (by decide +kernel) (by rfl) T.b_bool (by decide +kernel)) (nomark _))))))
  (pss_one (ps_ret (pez_and (pe_cmpR op_zIs (zv 0) pe_non (nomark _)) (pe_one (pe_cmpR op_zIs (zv 1) pe_non (nomark _))))))
  pss_nil)
  (pss_one (ps_ret (pez_and (pe_callB call_isiT (by rfl) T.b_isinstance (by decide +kernel) (pa_cons (zv 0) (pa_cons (pe_tup (pa_cons (pe_bltn (by rfl) T.b_int (by decide +kernel) rfl) (pa_cons (pe_bltn (by rfl) T.b_str (by decide +kernel) rfl) pa_nil))) pa_nil))) (pe_one (pe_cmpR (op_zEq hr.units) (zv 0) (zv 1) (nomark _))))))))
theorem kit_two {K : PySem.W.Frag} {t a b : String} (ht : t = "NoneType" ∨ t = "bool" ∨ t = "int" ∨ t = "str" ∨ t = "list" ∨ t = "tuple" ∨ t = "dict") (ha : knC a = true) (hb : knC b = true) :
    PySem.W.kitAny K (.type t) [.type a, .type b] = some ((a == t || (a == "int" && t == "bool")) || (b == t || (b == "int" && t == "bool"))) := by
  have e1 := kit_ty (K := K) (kit_tab t a ht ha)
  have e2 := kit_ty (K := K) (kit_tab t b ht hb)
  unfold PySem.W.kitAny
  rw [e1]
  cases (a == t || (a == "int" && t == "bool")) with
  | true => rfl
  | false =>
    unfold PySem.W.kitAny
    rw [e2]
    cases (b == t || (b == "int" && t == "bool")) with
    | true => rfl
    | false => rfl
def ScV (v : V) : Prop := v = .non ∨ (∃ c, v = .bl c) ∨ (∃ n, v = .int n) ∨ ∃ z, v = .str z
/-- alike all the way down -/
def SameD (K : PySem.W.Frag) (H : Hp) : Nat → V → V → Prop
  | 0, x, y => x = y ∧ ScV x
  | d + 1, x, y => (x = y ∧ ScV x) ∨ ∃ a b xs ys, x = .ref a ∧ y = .ref b ∧ ((SqT K H a xs ∧ SqT K H b ys) ∨ (SqL K H a xs ∧ SqL K H b ys)) ∧ xs.length ≤ 1000 ∧ Paired (SameD K H d) xs ys
theorem SameD.same {K : PySem.W.Frag} {H H' : Hp} (s : Same H H') : ∀ {d : Nat} {x y : V}, SameD K H d x y → SameD K H' d x y
  | 0, _, _, h => h
  | d + 1, _, _, h => h.imp id fun ⟨a, b, xs, ys, e1, e2, h12, l, h3⟩ => ⟨a, b, xs, ys, e1, e2, h12.imp (fun h => ⟨Z.Same.tup s h.1, Z.Same.tup s h.2⟩) (fun h => ⟨s.seq h.1, s.seq h.2⟩), l, Paired.mapP h3 fun _ _ q => SameD.same s q⟩
theorem SameD.up {K : PySem.W.Frag} {H : Hp} : ∀ {d : Nat} {x y : V}, SameD K H d x y → SameD K H (d + 1) x y
  | 0, _, _, h => .inl h
  | d + 1, _, _, h => h.imp id fun ⟨a, b, xs, ys, e1, e2, h12, l, h3⟩ => ⟨a, b, xs, ys, e1, e2, h12, l, Paired.mapP h3 fun _ _ q => SameD.up q⟩
def sp_law_sameD (K : PySem.W.Frag) (d : Nat) : Sp := fun vs H Q E => ∃ x y, vs = [x, y] ∧ SameD K H d x y ∧ ∀ H', Same H H' → Q (.bl true) H'
theorem same_sc {K : PySem.W.Frag} {g : Ads} {SPR : Sp} {H : Hp} {Q : VK} {E : XK} {x : V} (h : ScV x) (q : ∀ H', Same H H' → Q (.bl true) H') : rw_law_same K g SPR [x, x] H Q E := by
  refine ⟨rfl, (by decide : 2 ≤ sizeLine), fun p hp => ?_⟩
  have s1 := Same.put (o := .tup [.ty "list", .ty "tuple"]) hp
  have fin : ∀ (t : String) (H1 : Hp), (t = "bool" ∨ t = "int" ∨ t = "str") → (∀ H', TyX K H' x (.type t)) → Same H H1 → scal x x = true → R_law_same_9 K g SPR E { nx := fun _ H' => Q .non H', rt := Q } [some x, some x, none] H1 := by
    intro t H1 ht ty s2 sc
    refine ⟨(by decide : 2 ≤ sizeLine), fun p2 hp2 => ⟨_, p2, _, .type t, _, _, rfl, upd_same, .cons (.ty "int") (.cons (.ty "str") .nil), ty _, kit_two (by rcases ht with h | h | h <;> simp [h]) (by decide +kernel) (by decide +kernel), ?_⟩⟩
    have e : ((("int" : String) == t || (("int" : String) == "int" && t == "bool")) || (("str" : String) == t || (("str" : String) == "int" && t == "bool"))) = true := by
      rcases ht with rfl | rfl | rfl <;> decide
    rw [e]
    refine .inl ⟨sc, ?_⟩
    show Q (.bl (decide (x = x))) _
    rw [decide_eq_true rfl]
    exact q _ (s2.trans (Same.put hp2))
  rcases h with rfl | ⟨c, rfl⟩ | ⟨n, rfl⟩ | ⟨z, rfl⟩
  · refine ⟨_, p, _, .type "NoneType", _, _, rfl, upd_same, .cons (.ty "list") (.cons (.ty "tuple") .nil), .base .non, kit_two (by simp) (by decide +kernel) (by decide +kernel), ?_⟩
    exact ⟨rfl, rfl, rfl, q _ s1⟩
  · refine ⟨_, p, _, .type "bool", _, _, rfl, upd_same, .cons (.ty "list") (.cons (.ty "tuple") .nil), .base (.bl _), kit_two (by simp) (by decide +kernel) (by decide +kernel), ?_⟩
    exact ⟨rfl, rfl, .inl ⟨rfl, fin "bool" _ (by simp) (fun _ => .base (.bl _)) s1 (by cases c <;> rfl)⟩⟩
  · refine ⟨_, p, _, .type "int", _, _, rfl, upd_same, .cons (.ty "list") (.cons (.ty "tuple") .nil), .base (.int _), kit_two (by simp) (by decide +kernel) (by decide +kernel), ?_⟩
    exact ⟨rfl, rfl, .inl ⟨rfl, fin "int" _ (by simp) (fun _ => .base (.int _)) s1 rfl⟩⟩
  · refine ⟨_, p, _, .type "str", _, _, rfl, upd_same, .cons (.ty "list") (.cons (.ty "tuple") .nil), .base (.str _), kit_two (by simp) (by decide +kernel) (by decide +kernel), ?_⟩
    exact ⟨rfl, rfl, .inl ⟨rfl, fin "str" _ (by simp) (fun _ => .base (.str _)) s1 rfl⟩⟩
theorem same_tup {K : PySem.W.Frag} {g : Ads} {d : Nat} {H : Hp} {Q : VK} {E : XK} {a b : Addr} {xs ys : List V} (ha : SqT K H a xs) (hb : SqT K H b ys) (hl : xs.length ≤ 1000) (h : Paired (SameD K H d) xs ys) (q : ∀ H', Same H H' → Q (.bl true) H') : rw_law_same K g (sp_law_sameD K d) [.ref a, .ref b] H Q E := by
  refine ⟨rfl, (by decide : 2 ≤ sizeLine), fun p hp => ?_⟩
  have s1 := Same.put (o := .tup [.ty "list", .ty "tuple"]) hp
  have ep := upd_same (H := H) (a := p) (o := .tup [.ty "list", .ty "tuple"])
  generalize upd H p (.tup [.ty "list", .ty "tuple"]) = H1 at s1 ep
  have a1 := Z.Same.tup s1 ha
  have b1 := Z.Same.tup s1 hb
  have ll := h.length
  refine ⟨_, p, _, .type "tuple", _, _, rfl, ep, .cons (.ty "list") (.cons (.ty "tuple") .nil), (TyR.ty (t := "tuple") (.inr (.inl ⟨rfl, ys, b1⟩))).1, kit_two (by simp) (by decide +kernel) (by decide +kernel), ?_⟩
  refine ⟨(by decide : 2 ≤ sizeLine), fun p2 hp2 => ?_⟩
  have s2 := Same.put (o := .tup [.ty "list", .ty "tuple"]) hp2
  have ep2 := upd_same (H := H1) (a := p2) (o := .tup [.ty "list", .ty "tuple"])
  generalize upd H1 p2 (.tup [.ty "list", .ty "tuple"]) = H2 at s2 ep2
  have a2 := Z.Same.tup s2 a1
  have b2 := Z.Same.tup s2 b1
  refine ⟨_, p2, _, .type "tuple", _, _, rfl, ep2, .cons (.ty "list") (.cons (.ty "tuple") .nil), (TyR.ty (t := "tuple") (.inr (.inl ⟨rfl, xs, a2⟩))).1, kit_two (by simp) (by decide +kernel) (by decide +kernel), ?_⟩
  refine ⟨_, .inr a2, _, .inr b2, .inl ⟨rfl, zite (fun h => absurd h (by simp [ll])) (fun _ => ⟨.tuple, ⟨_, a2⟩, .tuple, ⟨_, b2⟩, .inl ⟨rfl, ?_⟩⟩)⟩⟩
  refine ⟨_, .inr b2, (ys.length : Int), rfl, by omega, by omega, ?_⟩
  refine lc_z (walk_range (n := ys.length)) (fun D i H' => Same H2 H' ∧ H' D = some (.lst ((List.replicate i true).map V.bl))) (fun D hD => ⟨Same.put hD, upd_same⟩) (fun _ _ _ _ _ _ => trivial) ?_ ?_
  · rintro D i x H3 H3' hD hi ⟨s3, e3⟩ ⟨rfl, rfl⟩
    have hx : i < xs.length := by omega
    obtain ⟨y, hy, sxy⟩ := paired_get h (List.getElem?_eq_getElem hx)
    have ei : ∀ {zs : List V} {v : V}, zs[i]? = some v → atI zs (0 + (i : Int)) = some v := fun e => by
      rw [Int.zero_add]
      exact atI_nat e
    refine ⟨rfl, _, xs[i], .inr (Z.Same.tup s3 a2), ei (List.getElem?_eq_getElem hx), _, y, .inr (Z.Same.tup s3 b2), ei hy, _, _, rfl, sxy.same ((s1.trans s2).trans s3), fun H4 s4 => ?_⟩
    refine ⟨_, s4 _ _ e3, ?_, same_new hD (s3.trans s4), ?_⟩
    · rw [List.length_map, List.length_replicate]
      exact Nat.lt_of_lt_of_le (show i < 1000 by omega) (by decide)
    · rw [upd_same, List.replicate_succ', List.map_append]
      rfl
  · rintro D H3 hD ⟨s3, e3⟩
    refine ⟨D, _, rfl, SqL.of e3, ?_⟩
    have e : (List.replicate ys.length true).all id = true := by simp
    rw [e]
    exact q _ ((s1.trans s2).trans s3)
theorem same_lst {K : PySem.W.Frag} {g : Ads} {d : Nat} {H : Hp} {Q : VK} {E : XK} {a b : Addr} {xs ys : List V} (ha : SqL K H a xs) (hb : SqL K H b ys) (hl : xs.length ≤ 1000) (h : Paired (SameD K H d) xs ys) (q : ∀ H', Same H H' → Q (.bl true) H') : rw_law_same K g (sp_law_sameD K d) [.ref a, .ref b] H Q E := by
  refine ⟨rfl, (by decide : 2 ≤ sizeLine), fun p hp => ?_⟩
  have s1 := Same.put (o := .tup [.ty "list", .ty "tuple"]) hp
  have ep := upd_same (H := H) (a := p) (o := .tup [.ty "list", .ty "tuple"])
  generalize upd H p (.tup [.ty "list", .ty "tuple"]) = H1 at s1 ep
  have a1 := s1.seq ha
  have b1 := s1.seq hb
  have ll := h.length
  refine ⟨_, p, _, .type "list", _, _, rfl, ep, .cons (.ty "list") (.cons (.ty "tuple") .nil), (TyR.ty (t := "list") (.inl ⟨rfl, ys, b1⟩)).1, kit_two (by simp) (by decide +kernel) (by decide +kernel), ?_⟩
  refine ⟨(by decide : 2 ≤ sizeLine), fun p2 hp2 => ?_⟩
  have s2 := Same.put (o := .tup [.ty "list", .ty "tuple"]) hp2
  have ep2 := upd_same (H := H1) (a := p2) (o := .tup [.ty "list", .ty "tuple"])
  generalize upd H1 p2 (.tup [.ty "list", .ty "tuple"]) = H2 at s2 ep2
  have a2 := s2.seq a1
  have b2 := s2.seq b1
  refine ⟨_, p2, _, .type "list", _, _, rfl, ep2, .cons (.ty "list") (.cons (.ty "tuple") .nil), (TyR.ty (t := "list") (.inl ⟨rfl, xs, a2⟩)).1, kit_two (by simp) (by decide +kernel) (by decide +kernel), ?_⟩
  refine ⟨_, .inl a2, _, .inl b2, .inl ⟨rfl, zite (fun h => absurd h (by simp [ll])) (fun _ => ⟨.list, ⟨_, a2⟩, .list, ⟨_, b2⟩, .inl ⟨rfl, ?_⟩⟩)⟩⟩
  refine ⟨_, .inl b2, (ys.length : Int), rfl, by omega, by omega, ?_⟩
  refine lc_z (walk_range (n := ys.length)) (fun D i H' => Same H2 H' ∧ H' D = some (.lst ((List.replicate i true).map V.bl))) (fun D hD => ⟨Same.put hD, upd_same⟩) (fun _ _ _ _ _ _ => trivial) ?_ ?_
  · rintro D i x H3 H3' hD hi ⟨s3, e3⟩ ⟨rfl, rfl⟩
    have hx : i < xs.length := by omega
    obtain ⟨y, hy, sxy⟩ := paired_get h (List.getElem?_eq_getElem hx)
    have ei : ∀ {zs : List V} {v : V}, zs[i]? = some v → atI zs (0 + (i : Int)) = some v := fun e => by
      rw [Int.zero_add]
      exact atI_nat e
    refine ⟨rfl, _, xs[i], .inl (s3.seq a2), ei (List.getElem?_eq_getElem hx), _, y, .inl (s3.seq b2), ei hy, _, _, rfl, sxy.same ((s1.trans s2).trans s3), fun H4 s4 => ?_⟩
    refine ⟨_, s4 _ _ e3, ?_, same_new hD (s3.trans s4), ?_⟩
    · rw [List.length_map, List.length_replicate]
      exact Nat.lt_of_lt_of_le (show i < 1000 by omega) (by decide)
    · rw [upd_same, List.replicate_succ', List.map_append]
      rfl
  · rintro D H3 hD ⟨s3, e3⟩
    refine ⟨D, _, rfl, SqL.of e3, ?_⟩
    have e : (List.replicate ys.length true).all id = true := by simp
    rw [e]
    exact q _ ((s1.trans s2).trans s3)
theorem fn_false {gd : Bool} {P : Program} {w : World} {K : PySem.W.Frag} {mg : Str → Option Value} {base : Heap} {k : Nat} {f : Addr} {fd : FuncData} {ps : List Str} : FnG gd P w K mg base k f fd ps (fun _ _ _ _ => False) :=
  ⟨fun _ _ _ _ h => h.elim, fun _ _ _ _ _ _ _ _ _ _ _ _ _ _ h => h.elim⟩
theorem ok_law_sameD {P : Program} {w : World} {K : PySem.W.Frag} {mg : Str → Option Value} {base : Heap} {g : Ads} (T : Txt K mg g) : ∀ d : Nat, FnG false P w K mg base (d + 1) g.f_law_same g.d_law_same ["one", "other"] (sp_law_sameD K d)
  | 0 => (raw_law_same T (k := 0) fn_false).imp fun vs H Q E ⟨x, y, e, h, q⟩ => by
    obtain ⟨rfl, hs⟩ := h
    subst e
    exact same_sc hs q
  | d + 1 => (raw_law_same T (ok_law_sameD T d)).imp fun vs H Q E ⟨x, y, e, h, q⟩ => by
    subst e
    rcases h with ⟨rfl, hs⟩ | ⟨a, b, xs, ys, rfl, rfl, ⟨h1, h2⟩ | ⟨h1, h2⟩, l, h3⟩
    · exact same_sc hs q
    · exact same_tup h1 h2 l h3 q
    · exact same_lst h1 h2 l h3 q
def sp_law_same (K : PySem.W.Frag) (g : Ads) : Sp := sp_law_sameD K 4
theorem ok_law_same {P : Program} {w : World} {K : PySem.W.Frag} {mg : Str → Option Value} {base : Heap} {g : Ads} (T : Txt K mg g) : FnG false P w K mg base 5 g.f_law_same g.d_law_same ["one", "other"] (sp_law_same K g) := ok_law_sameD T 4
end Z
namespace Z
open PySem PySem.Spec PyProof.Rows L2
open LamX (CodeO Tabs TabS TabB ExtN GivesTo tLam lamCx lamEnv LamS lamS_by)
/-! ### right parts make a service -/
theorem NmL.sub {xs ys : List Str} (h : NmL ys) (s : xs.Sublist ys) : NmL xs := ⟨h.1.sublist s, fun n hn => h.2 n (s.subset hn)⟩
theorem NmL.perm {xs ys : List Str} (h : NmL ys) (p : xs.Perm ys) : NmL xs := ⟨p.nodup_iff.mpr h.1, fun n hn => h.2 n (p.mem_iff.mp hn)⟩
theorem dup_none {ns : List Str} (nd : ns.Nodup) : dupOf ns = none := by
  unfold dupOf dupUp
  have e : (List.range ns.length).filter (isDup ns) = [] := List.filter_eq_nil_iff.mpr fun i hi => by
    have hi2 : i < ns.length := by simpa using hi
    have en : ns[i]? = some (ns.getD i "") := by rw [List.getD_eq_getElem?_getD, List.getElem?_eq_getElem hi2]; rfl
    unfold isDup
    rw [decide_eq_false (nodup_take nd en)]
    decide
  rw [e]
  rfl
theorem svOut_ok {cs ss ls fs hn : List Str} (nm : NmL (cs ++ (ss ++ (ls ++ fs)))) (c6 : cs.length ≤ 6) (s4 : ss.length ≤ 4) (l4 : ls.length ≤ 4) (f4 : fs.length ≤ 4) (hd : dupOf hn = none) (h6 : hn.length ≤ 6) :
    svOut (cs.map V.str) (ss.map V.str) (ls.map V.str) (fs.map V.str) hn = .ok := by
  have e : cs.map V.str ++ (ss.map V.str ++ (ls.map V.str ++ fs.map V.str)) = (cs ++ (ss ++ (ls ++ fs))).map V.str := by simp
  have e2 : ((cs ++ (ss ++ (ls ++ fs))).map V.str).map strOf = cs ++ (ss ++ (ls ++ fs)) := by
    rw [List.map_map]
    exact List.map_id _
  unfold svOut
  rw [e]
  have f : ((cs ++ (ss ++ (ls ++ fs))).map V.str).find? (fun v => !isNameV v) = none := List.find?_eq_none.mpr fun v hv => by
    obtain ⟨z, hz, rfl⟩ := List.mem_map.mp hv
    have := nm.2 z hz
    simp [isNameV, this.1.nm this.2]
  simp only [f]
  unfold svOut1
  rw [e, e2, dup_none nm.1]
  simp only []
  unfold svOut2
  rw [List.length_map, List.length_map, List.length_map, List.length_map, if_neg (by omega), if_neg (by omega)]
  unfold svOut3
  rw [hd]
  simp only []
  rw [if_neg (by omega)]
theorem made_ok {K : PySem.W.Frag} {g : Ads} {H : Hp} {Q : VK} {E : XK} {hl ca so sl fi : Addr} {cs ss ls fs : List Str} {hs : List (Addr × Str)} (hh : Sq K H hl (hs.map fun h => V.ref h.1)) (hc : Sq K H ca (cs.map V.str)) (hso : Sq K H so (ss.map V.str)) (hsl : Sq K H sl (ls.map V.str)) (hf : Sq K H fi (fs.map V.str)) (hA : HndsAt K g H hs)
    (nm : NmL (cs ++ (ss ++ (ls ++ fs)))) (c6 : cs.length ≤ 6) (s4 : ss.length ≤ 4) (l4 : ls.length ≤ 4) (f4 : fs.length ≤ 4) (hd : dupOf (hs.map (·.2)) = none) (h6 : hs.length ≤ 6)
    (q : ∀ H' o, Same H H' → H o = none → SvAt K g H' o (cs.map V.str) (ss.map V.str) (ls.map V.str) (fs.map V.str) hs → Q (.ref o) H') : sp_Service_made K g [.ref g.c_Service, .ref hl, .ref ca, .ref so, .ref sl, .ref fi] H Q E := by
  have ok := svOut_ok nm c6 s4 l4 f4 hd (by rw [List.length_map]; exact h6)
  refine ⟨hl, ca, so, sl, fi, _, _, _, _, hs, rfl, hh, hc, hso, hsl, hf, hA, fun v hv => ?_, by rw [List.length_map]; omega, by rw [List.length_map]; omega, by rw [List.length_map]; omega, by rw [List.length_map]; omega, by omega, fun _ => q, fun k v e => by rw [ok] at e; cases e⟩
  have e : cs.map V.str ++ (ss.map V.str ++ (ls.map V.str ++ fs.map V.str)) = (cs ++ (ss ++ (ls ++ fs))).map V.str := by simp
  rw [e] at hv
  obtain ⟨z, hz, rfl⟩ := List.mem_map.mp hv
  have := (nm.2 z hz).1.len
  show z.length ≤ 1000
  omega
theorem wld_add {K : PySem.W.Frag} {H : Hp} {W a0 a1 a2 a3 a4 : Addr} {cs ss ls fs es : List Str} (h : WldAt H W a0 a1 a2 a3 a4 cs ss ls fs es) {σ : St} {w : Nat} (hw : σ[w]? = some (some (.ref W))) (hl : (cs ++ (ls ++ fs)).length ≤ 1000) {Q : VK}
    (q : ∀ p H', Same H H' → H p = none → H' p = some (.lst ((cs ++ (ls ++ fs)).map V.str)) → Q (.ref p) H') :
    tOp zAdd (tOp zAdd (tOp (zIx K) (zVar w) (tC (.int 0))) (tOp (zIx K) (zVar w) (tC (.int 2)))) (tOp (zIx K) (zVar w) (tC (.int 3))) σ H Q := by
  obtain ⟨h0, h1, h2, h3, h4, h5⟩ := h
  have v0 : ∀ (H' : Hp) (Q : VK), Q (.ref W) H' → zVar w σ H' Q := fun H' Q q => by
    unfold zVar
    rw [hw]
    exact q
  have ix : ∀ (H' : Hp) (Q : VK) (j : Nat) (a : Addr), H' W = some (.lst [.ref a0, .ref a1, .ref a2, .ref a3, .ref a4]) → [V.ref a0, .ref a1, .ref a2, .ref a3, .ref a4][j]? = some (.ref a) → Q (.ref a) H' → tOp (zIx K) (zVar w) (tC (.int (j : Nat))) σ H' Q := fun H' Q j a e1 e2 q => v0 _ _ ⟨_, _, .inl (SqL.of e1), atI_nat e2, q⟩
  rw [List.length_append, List.length_append] at hl
  have big : (1000 : Nat) ≤ sizeLine := by decide
  refine ix H _ 0 a0 h0 rfl (ix H _ 2 a2 h0 rfl ⟨_, _, h1, h3, ?_, fun p hp => ix _ _ 3 a3 (Same.put hp _ _ h0) rfl ⟨_, _, upd_same, Same.put hp _ _ h4, ?_, fun p2 hp2 => q p2 _ ((Same.put hp).trans (Same.put hp2)) ?_ ?_⟩⟩)
  · rw [List.length_map, List.length_map]
    omega
  · rw [List.length_append, List.length_map, List.length_map, List.length_map]
    omega
  · exact (Same.put hp).free hp2
  · rw [upd_same, List.map_append, List.map_append, List.append_assoc]
/-! ### a stand of a service: made, or refused -/
theorem stand_new {K : PySem.W.Frag} {g : Ads} {H : Hp} {R : Addr → Hp → Prop} {E : XK} {sv : Addr} {gv : V} {gs : List (Str × V)} {cs ss ls fs : List Str} {hs : List (Addr × Str)} (hsv : SvAt K g H sv (cs.map V.str) (ss.map V.str) (ls.map V.str) (fs.map V.str) hs)
    (hg : (gv = .non ∧ gs = []) ∨ ∃ gd, gv = .ref gd ∧ H gd = some (.dK (dks gs))) (hl : gs.length < 64) (nd : (cs ++ (ls ++ fs)).Nodup) (lp : (cs ++ (ls ++ fs)).length < 64)
    (q : (∀ p ∈ gs, p.1 ∈ cs ++ (ls ++ fs)) → ∀ H' o d, Same H H' → H o = none → H d = none → StdIn g H' o d sv (stK cs (cs ++ (ls ++ fs)) gs) → R o H')
    (qe : ∀ z, BadK (cs ++ (ls ++ fs)) gs z → ∀ H' dd, Same H H' → H dd = none → H' dd = some (.xd [("name", .str z)]) → E (.ref g.c_NoPlace) (some dd) H') :
    ∀ x dx, H x = none → H dx = none → dx ≠ x → sp_Stand_init K g [.ref x, .ref sv, gv] (upd (upd H dx (.own x)) x (.ins g.c_Stand dx [])) (fun v H2 => v = .non ∧ R x H2) E := by
  intro x dx hx hdx ne
  obtain ⟨s1, _⟩ := mk_same (C := g.c_Stand) hx hdx ne
  have m := mk_hid hx s1
  exact ⟨x, dx, sv, gv, gs, cs, ss, ls, fs, hs, rfl, upd_same, svat_same hsv m, hg.imp id fun ⟨gd, e, h⟩ => ⟨gd, e, m _ _ h⟩, hl, nd, lp, fun hin H' d b hd st => ⟨rfl, q hin H' x d (mk_out hx s1 b) hx (s1.free hd) st⟩, fun z hz H' dd b hd ex => qe z hz H' dd (mk_out hx s1 b) (s1.free hd) ex⟩
theorem badK_one {ps : List Str} {gs : List (Str × V)} {y z : Str} (hy : BadK ps gs y) (hz : BadK ps gs z) : y = z := leS_anti (hy.2.2 z hz.1 hz.2.1) (hz.2.2 y hy.1 hy.2.1)
theorem lk_of_mem {gs : List (Str × V)} (nd : (gs.map (·.1)).Nodup) {n : Str} {v : V} (h : (n, v) ∈ gs) : lk gs n = some v := by
  obtain ⟨i, hi, e⟩ := List.mem_iff_getElem.mp h
  exact lk_at nd (List.getElem?_eq_some_iff.mpr ⟨hi, e⟩)
theorem lk_stK {cs ps : List Str} {gs : List (Str × V)} (nd : ps.Nodup) {n : Str} (h : n ∈ ps) : lk (stK cs ps gs) n = some ((lk gs n).getD (if n ∈ cs then .int 0 else .non)) :=
  lk_of_mem (by rw [stK_keys]; exact nd) (List.mem_map.mpr ⟨n, h, rfl⟩)
/-! ### what stays but lists and tables -/
def ExtL (H H' : Hp) : Prop := ∀ b o, H b = some o → (∀ xs, o ≠ .lst xs) → (∀ ps, o ≠ .tbl ps) → H' b = some o
theorem ExtL.ofN {H H' : Hp} (s : ExtN H H') : ExtL H H' := fun b o e _ n => s b o e n
theorem ExtL.but {H H' : Hp} {p : Addr} {xs : List V} (b : But p H H') (e : H p = some (.lst xs)) : ExtL H H' := fun c o ec n _ => b c o ec fun z => by
  rw [z, e] at ec
  injection ec with ec
  exact n _ ec.symm
theorem ExtL.tup {K : PySem.W.Frag} {H H' : Hp} {a : Addr} {xs : List V} (s : ExtL H H') (h : SqT K H a xs) : SqT K H' a xs := by
  rcases h with (h | ⟨q, h⟩) | h
  · exact .inl (.inl (s _ _ h (by simp) (by simp)))
  · exact .inl (.inr ⟨q, s _ _ h (by simp) (by simp)⟩)
  · exact .inr h
theorem SvAt.extL {K : PySem.W.Frag} {g : Ads} {H H' : Hp} {o : Addr} {vc vs vl vf : List V} {hs : List (Addr × Str)} (s : ExtL H H') (h : SvAt K g H o vc vs vl vf hs) : SvAt K g H' o vc vs vl vf hs := by
  obtain ⟨dx, ht, c, so, l, f, pl, cn, h1, h2, h3, h4, h5, h6, h7, h8⟩ := h
  exact ⟨dx, ht, c, so, l, f, pl, cn, s _ _ h1 (by simp) (by simp), s.tup h2, s.tup h3, s.tup h4, s.tup h5, s.tup h6, s.tup h7, s.tup h8⟩
theorem StdAt.extL {g : Ads} {H H' : Hp} {o sv : Addr} {gs : List (Str × V)} (s : ExtL H H') (h : StdAt g H o sv gs) : StdAt g H' o sv gs := by
  obtain ⟨dx, d, h1, h2⟩ := h
  exact ⟨dx, d, s _ _ h1 (by simp) (by simp), s _ _ h2 (by simp) (by simp)⟩
theorem TabS.but {H H' : Hp} {P : Addr} {q : Str} (t : TabS H P q) {p : Addr} {xs : List V} (b : But p H H') (e : H p = some (.lst xs)) : TabS H' P q := by
  obtain ⟨ps, h1, h2, h3⟩ := t
  have n : ∀ {c : Addr} {o : HO}, H c = some o → (∀ xs, o ≠ .lst xs) → c ≠ p := fun ec n z => by
    rw [z, e] at ec
    injection ec with ec
    exact n _ ec.symm
  refine ⟨ps, b _ _ h1 (n h1 (by simp)), h2, fun pos cv hc => ?_⟩
  obtain ⟨c, ec, hc2⟩ := h3 pos cv hc
  exact ⟨c, ec, b _ _ hc2 (n hc2 (by unfold CodeO; simp))⟩
theorem Tabs.but {T : List (Addr × Str)} {H H' : Hp} (t : Tabs T H) {p : Addr} {xs : List V} (b : But p H H') (e : H p = some (.lst xs)) : Tabs T H' := fun q hq => TabS.but (t q hq) b e
theorem DrwAt.ext {H H' : Hp} {p : Addr} {k : Nat} (s : ExtN H H') (h : DrwAt H p k) : DrwAt H' p k := by
  obtain ⟨g1, s1, t1, e1, h1⟩ := h
  exact ⟨g1, s1, t1, s _ _ e1 (by simp), h1⟩
theorem WldAt.ext {H H' : Hp} {W a0 a1 a2 a3 a4 : Addr} {cs ss ls fs es : List Str} (s : ExtN H H') (h : WldAt H W a0 a1 a2 a3 a4 cs ss ls fs es) : WldAt H' W a0 a1 a2 a3 a4 cs ss ls fs es := h.keep fun b xs e _ => s _ _ e (by simp)
/-! ### histories -/
def sp_History_init (K : PySem.W.Frag) (g : Ads) : Sp := fun us H Q E => ∃ (o dx sd : Addr) (xs : List V) (gs : List (Str × V)), us = .ref o :: .ref sd :: xs ∧ xs.length ≤ 1000 ∧ H o = some (.ins g.c_History dx []) ∧ hid [o] H sd = some (.dK (dks gs)) ∧ (gs.map (·.1)).Nodup ∧ gs.length ≤ 64 ∧
  ∀ H' D ct, But o H H' → H D = none → H' o = some (.ins g.c_History dx [("start", .ref D), ("calls", .ref ct)]) → H' D = some (.dK (dks gs)) → H' ct = some (.tup xs) → Q .non H'
theorem sc_History_init : FnScope ["self", "start", "calls", "name"] ["self", "start", "calls"] (defScope s_History_init) := ⟨rfl, rfl, rfl, by decide +kernel, rfl, by decide +kernel, by decide +kernel⟩
def R_History_init (K : PySem.W.Frag) (g : Ads) (E : XK) : TS :=
  (tSeq (sFld K (zVar 0) (tLockE (tDc (iKeys (zVar 1)) (gName 3) tYes (zVar 3) (tDGet (zVar 1) (zVar 3)) [3])) "start")
  (sFld K (zVar 0) (zVar 2) "calls"))
def rw_History_init (K : PySem.W.Frag) (g : Ads) : Sp := fun vs H Q E => vs.length = 3 ∧ R_History_init K g E { nx := fun _ H' => Q .non H', rt := Q } (start ["self", "start", "calls", "name"] vs) H
theorem raw_History_init {P : Program} {w : World} {K : PySem.W.Frag} {mg : Str → Option Value} {base : Heap} {g : Ads} (T : Txt K mg g) : FnR P w K mg base (L2.CX P w) 1 g.f_History_init (spStar 2 (rw_History_init K g)) := by
  refine okStar (ps := ["self", "start"]) (pv := "calls") T.f_History_init sc_History_init (fun kV doc pm an cdv ct => StX.bind_star2 (B := fun l => bindArgs (PySem.W.fnOf "__init__" "History.__init__" (defArgs s_History_init) (defBody s_History_init) (defScope s_History_init) .none kV doc pm an cdv ct) ⟨l, []⟩) (fun _ _ => rfl) (fun _ _ _ _ => rfl)) (fun cdv A outer s H vs Q E hr h => ⟨R_History_init K g E, ?_, h.2⟩)
  exact (pss_cons (ps_fld (zv 0) (pe_lock (pe_dc (own := [("name", 3)]) rfl sc_History_init.nd (pi_keys (zv 1)) (blkOk_by (own := [("name", 3)]) (N := ["self", "start", "calls", "name"]) (sc := defScope s_History_init) (by decide +kernel)) (fun _ _ _ _ _ => pg_name (i := 3) sc_History_init.nd rfl (Or.inl rfl)) (fun _ _ _ _ _ => pts_nil) (fun _ _ _ _ _ => (zv 3)) (fun _ _ _ _ _ => (pe_dget (hu_of hr) (zv 1) (zv 3) (fun _ _ => rfl))))) rfl)
  (pss_one (ps_fld (zv 0) (zv 2) rfl)))
theorem pf_History_init {K : PySem.W.Frag} {mg : Str → Option Value} {g : Ads} (T : Txt K mg g) (us : List V) (H : Hp) (Q : VK) (E : XK) (h : sp_History_init K g us H Q E) : spStar 2 (rw_History_init K g) us H Q E := by
  obtain ⟨o, dx, sd, xs, gs, rfl, lx, ho, hs, nd, hl, q⟩ := h
  refine ⟨[.ref o, .ref sd], xs, rfl, rfl, Nat.le_trans lx (by decide), fun ct hct => ?_⟩
  have s0 := Same.put (o := .tup xs) hct
  have e0 := upd_same (H := H) (a := ct) (o := .tup xs)
  obtain ⟨hn, hd⟩ := hid_of hs
  have nos : sd ≠ o := fun z => hn (by simp [z])
  have q := fun H' D b d => q H' D ct ((But.same s0).trans b) (s0.free d)
  replace hd := s0 _ _ hd
  have nco : ct ≠ o := fun z => by rw [z, ho] at hct; cases hct
  replace ho := s0 _ _ ho
  generalize upd H ct (.tup xs) = H at s0 e0 q hd ho ⊢
  refine ⟨rfl, sd, .dK (dks gs), hd, trivial, fun od => ?_⟩
  have ed := upd_same (H := H) (a := sd) (o := .frz od (.dK (dks gs)))
  obtain ⟨HL, eL⟩ : ∃ HL, HL = upd H sd (.frz od (.dK (dks gs))) := ⟨_, rfl⟩
  rw [← eL] at ed ⊢
  refine ⟨sd, od, rfl, .inl ⟨dks gs, ed, fun D hD => ?_⟩⟩
  have nd2 : sd ≠ D := ne_of_none ed hD
  refine dc_it (walk_keys (kvs := dks gs)) (fun i H' => H' = upd HL D (.dK (dks (gs.take i)))) rfl (fun i H' _ h => by rw [h, upd_ne nd2]; exact ed) ?_ ?_
  · rintro i x H1 H1' hi rfl ⟨rfl, k, v, hk, rfl⟩
    obtain ⟨n, rfl, hn⟩ := dks_get hk
    refine ⟨rfl, sd, v, rfl, .inl ⟨dks gs, .inr n, .inr ⟨od, ?_⟩, rfl, (lk_at nd hn).symm⟩, _, .inr n, rfl, upd_same, ?_, ?_⟩
    · rw [upd_ne nd2]
      exact ed
    · rw [dks_len, List.length_take]
      exact Nat.lt_of_le_of_lt (show _ ≤ 64 by omega) (by decide)
    · rw [dks_take nd hn, upd_upd]
  · rintro H1 rfl
    rw [dks_len, List.take_length]
    refine ⟨by rw [upd_ne nd2]; exact ed, ?_⟩
    have hD0 : H D = none := by rw [eL] at hD; rw [upd_ne nd2.symm] at hD; exact hD
    have s1 := same_unlock hd (by rw [← eL]; exact Same.put (o := .dK (dks gs)) hD)
    have e1 : (upd (upd HL D (.dK (dks gs))) sd (.dK (dks gs))) D = some (.dK (dks gs)) := by rw [upd_ne nd2.symm, upd_same]
    generalize upd (upd HL D (.dK (dks gs))) sd (.dK (dks gs)) = H2 at s1 e1 ⊢
    have nDo : D ≠ o := fun z => by rw [z, ho] at hD0; cases hD0
    refine ⟨o, _, dx, _, rfl, s1 _ _ ho, T.cl_History, T.na_History_start, (by decide : (0 : Nat) < 1000), o, _, dx, _, rfl, upd_same, T.cl_History, T.na_History_calls, (by decide : (1 : Nat) < 1000), ?_⟩
    rw [upd_upd]
    refine q _ D ((But.same s1).trans But.put) hD0 upd_same ?_ ?_
    · rw [upd_ne nDo]
      exact e1
    · rw [upd_ne nco]
      exact s1 _ _ e0
theorem ok_History_init {P : Program} {w : World} {K : PySem.W.Frag} {mg : Str → Option Value} {base : Heap} {g : Ads} (T : Txt K mg g) : FnR P w K mg base (L2.CX P w) 1 g.f_History_init (sp_History_init K g) := (raw_History_init T).imp (pf_History_init T)
end Z
namespace Z
open PySem PySem.Spec PyProof.Rows L2
open LamX (CodeO Tabs TabS TabB ExtN GivesTo tLam lamCx lamEnv LamS lamS_by)
def HisIn (g : Ads) (H : Hp) (o D : Addr) (gs : List (Str × V)) (xs : List V) : Prop := ∃ dx ct, H o = some (.ins g.c_History dx [("start", .ref D), ("calls", .ref ct)]) ∧ H D = some (.dK (dks gs)) ∧ H ct = some (.tup xs)
theorem HisIn.same {g : Ads} {H H' : Hp} {o D : Addr} {gs : List (Str × V)} {xs : List V} (h : HisIn g H o D gs xs) (s : Same H H') : HisIn g H' o D gs xs := by
  obtain ⟨dx, ct, h1, h2, h3⟩ := h
  exact ⟨dx, ct, s _ _ h1, s _ _ h2, s _ _ h3⟩
/-- a history of a start and calls -/
theorem history_new {K : PySem.W.Frag} {g : Ads} {H : Hp} {R : Addr → Hp → Prop} {E : XK} {sd : Addr} {gs : List (Str × V)} {xs : List V} (hs : H sd = some (.dK (dks gs))) (nd : (gs.map (·.1)).Nodup) (hl : gs.length ≤ 64) (lx : xs.length ≤ 1000) (q : ∀ H' o D, Same H H' → H o = none → H D = none → HisIn g H' o D gs xs → R o H') :
    ∀ o dx, H o = none → H dx = none → dx ≠ o → sp_History_init K g (.ref o :: .ref sd :: xs) (upd (upd H dx (.own o)) o (.ins g.c_History dx [])) (fun v H2 => v = .non ∧ R o H2) E := by
  intro o dx ho hdx ne
  obtain ⟨s1, _⟩ := mk_same (C := g.c_History) ho hdx ne
  have m := mk_hid ho s1
  exact ⟨o, dx, sd, xs, gs, rfl, lx, upd_same, m _ _ hs, nd, hl, fun H' D ct b hD e1 e2 e3 => ⟨rfl, q H' o D (mk_out ho s1 b) ho (s1.free hD) ⟨dx, ct, e1, e2, e3⟩⟩⟩
def sp_History_made (K : PySem.W.Frag) (g : Ads) : Sp := fun us H Q E => ∃ (sd cl : Addr) (gs : List (Str × V)) (xs : List V), us = [.ref g.c_History, .ref sd, .ref cl] ∧ H sd = some (.dK (dks gs)) ∧ Sq K H cl xs ∧ (gs.map (·.1)).Nodup ∧ gs.length ≤ 64 ∧ xs.length ≤ 1000 ∧
  ∀ H' o D, Same H H' → H o = none → H D = none → HisIn g H' o D gs xs → Q (.ref o) H'
theorem sc_History_made : FnScope ["cls", "start", "calls"] ["cls", "start", "calls"] (defScope s_History_made) := ⟨rfl, rfl, rfl, by decide +kernel, rfl, by decide +kernel, by decide +kernel⟩
def R_History_made (K : PySem.W.Frag) (g : Ads) (E : XK) : TS :=
  (tRet (zNewS 0 g.c_History (sp_History_init K g) E (tCons (zVar 1) (StX.tStar K (zVar 2) tNil))))
def rw_History_made (K : PySem.W.Frag) (g : Ads) : Sp := fun vs H Q E => vs.length = 3 ∧ R_History_made K g E { nx := fun _ H' => Q .non H', rt := Q } (start ["cls", "start", "calls"] vs) H
theorem raw_History_made {P : Program} {w : World} {K : PySem.W.Frag} {mg : Str → Option Value} {base : Heap} {g : Ads} (T : Txt K mg g) : FnG false P w K mg base 3 g.f_History_made g.d_History_made ["cls", "start", "calls"] (rw_History_made K g) := by
  refine okZ T.f_History_made sc_History_made (fun vs H Q E h => h.1) (fun cdv A outer s H vs Q E hr hgu h => ⟨R_History_made K g E, ?_, h.2⟩)
  exact (pss_one (ps_ret (pe_zNewS (i := 0) T.m_History (ok_History_init T) (hr.mono (by decide)) rfl (Or.inl rfl) (passes_call (takes_of rfl rfl rfl rfl) (fun _ _ _ _ h => h)) (pa_cons (zv 1) (StX.pa_star (zv 2) pa_nil)))))
theorem ok_History_made {P : Program} {w : World} {K : PySem.W.Frag} {mg : Str → Option Value} {base : Heap} {g : Ads} (T : Txt K mg g) : FnG false P w K mg base 3 g.f_History_made g.d_History_made ["cls", "start", "calls"] (sp_History_made K g) :=
  (raw_History_made T).imp fun us H Q E ⟨sd, cl, gs, xs, e, hs, hc, nd, hl, lx, q⟩ => by
    subst e
    refine ⟨rfl, rfl, cl, xs, rfl, hc.sw.symm, fun o dx a b c => ?_⟩
    show sp_History_init K g (V.ref o :: V.ref sd :: (xs ++ [])) _ _ _
    rw [List.append_nil]
    exact history_new hs nd hl lx q o dx a b c
/-! ### twins -/
def twF (sv f c ap : Addr) : List (Str × V) := [("service", .ref sv), ("failing", .ref f), ("clean", .ref c), ("many", .int 0), ("apart", .ref ap)]
def TwAt (g : Ads) (H : Hp) (o sv : Addr) (gs : List (Str × V)) : Prop := ∃ dx f c ap, H o = some (.ins g.c_Twin dx (twF sv f c ap)) ∧ StdAt g H f sv gs ∧ StdAt g H c sv gs ∧ H ap = some (.lst [])
theorem TwAt.same {g : Ads} {H H' : Hp} {o sv : Addr} {gs : List (Str × V)} (h : TwAt g H o sv gs) (s : Same H H') : TwAt g H' o sv gs := by
  obtain ⟨dx, f, c, ap, h1, h2, h3, h4⟩ := h
  exact ⟨dx, f, c, ap, s _ _ h1, h2.same s, h3.same s, s _ _ h4⟩
theorem StdIn.butT {g : Ads} {H H' : Hp} {o d sv t dt : Addr} {gs : List (Str × V)} {fs : List (Str × V)} (h : StdIn g H o d sv gs) (b : But t H H') (e : H t = some (.ins g.c_Twin dt fs)) (no : o ≠ t) : StdIn g H' o d sv gs := by
  obtain ⟨⟨dx, h1⟩, h2⟩ := h
  exact ⟨⟨dx, b _ _ h1 no⟩, b _ _ h2 fun z => by rw [z, e] at h2; cases h2⟩
def TwIn (g : Ads) (H : Hp) (o fd cd sv : Addr) (gs : List (Str × V)) : Prop := ∃ dx f c ap, H o = some (.ins g.c_Twin dx (twF sv f c ap)) ∧ StdIn g H f fd sv gs ∧ StdIn g H c cd sv gs ∧ H ap = some (.lst [])
theorem TwIn.at_ {g : Ads} {H : Hp} {o fd cd sv : Addr} {gs : List (Str × V)} (h : TwIn g H o fd cd sv gs) : TwAt g H o sv gs := by
  obtain ⟨dx, f, c, ap, h1, h2, h3, h4⟩ := h
  exact ⟨dx, f, c, ap, h1, h2.at_, h3.at_, h4⟩
/-- a dict that is not a twin's own may change -/
theorem TwIn.hid {g : Ads} {H : Hp} {o fd cd sv B : Addr} {gs : List (Str × V)} {kvs : List (Key × V)} (h : TwIn g H o fd cd sv gs) (e : H B = some (.dK kvs)) (n1 : fd ≠ B) (n2 : cd ≠ B) : TwAt g (hid [B] H) o sv gs := by
  obtain ⟨dx, f, c, ap, h1, ⟨⟨fx, h2⟩, h3⟩, ⟨⟨cx, h4⟩, h5⟩, h6⟩ := h
  have k : ∀ {b : Addr} {u : HO}, H b = some u → b ≠ B → Z.hid [B] H b = some u := fun e n => hid_at (by simpa using n) e
  have w : ∀ {b : Addr} {u : HO}, H b = some u → (∀ x, u ≠ .dK x) → b ≠ B := fun e' n z => by
    rw [z, e] at e'
    injection e' with e'
    exact n _ e'.symm
  exact ⟨dx, f, c, ap, k h1 (w h1 (by simp)), ⟨fx, fd, k h2 (w h2 (by simp)), k h3 n1⟩, ⟨cx, cd, k h4 (w h4 (by simp)), k h5 n2⟩, k h6 (w h6 (by simp))⟩
def sp_Twin_init (K : PySem.W.Frag) (g : Ads) : Sp := fun us H Q E => ∃ (o dx sv : Addr) (gv : V) (gs : List (Str × V)) (cs ss ls fs : List Str) (hs : List (Addr × Str)), us = [.ref o, .ref sv, gv] ∧ H o = some (.ins g.c_Twin dx []) ∧
  SvAt K g (hid [o] H) sv (cs.map V.str) (ss.map V.str) (ls.map V.str) (fs.map V.str) hs ∧ ((gv = .non ∧ gs = []) ∨ ∃ gd, gv = .ref gd ∧ hid [o] H gd = some (.dK (dks gs))) ∧ gs.length < 64 ∧ (cs ++ (ls ++ fs)).Nodup ∧ (cs ++ (ls ++ fs)).length < 64 ∧
  ((∀ p ∈ gs, p.1 ∈ cs) → ∀ H' fd cd, But o H H' → H fd = none → H cd = none → TwIn g H' o fd cd sv (stK cs (cs ++ (ls ++ fs)) gs) → Q .non H') ∧ ∀ z, BadK cs gs z → ∀ H' dd, But o H H' → H dd = none → H' dd = some (.xd [("name", .str z)]) → E (.ref g.c_NoPlace) (some dd) H'
theorem sc_Twin_init : FnScope ["self", "service", "start", "given", "name"] ["self", "service", "start"] (defScope s_Twin_init) := ⟨rfl, rfl, rfl, by decide +kernel, rfl, by decide +kernel, by decide +kernel⟩
def R_Twin_init_4 (K : PySem.W.Frag) (g : Ads) (E : XK) : TS :=
  (zRaise (fun cls d _ H => E cls d H) g.c_NoPlace (sp_NoPlace_init K g) (tCons (zVar 4) tNil))
def R_Twin_init_3 (K : PySem.W.Frag) (g : Ads) (E : XK) : TS :=
  (tIfS (zTest (tOp (zNin K) (zVar 4) (tFld K (zVar 1) "cells")))
  (R_Twin_init_4 K g E)
  tNext)
def R_Twin_init_8 (K : PySem.W.Frag) (g : Ads) (E : XK) : TS :=
  (tSeq (sFld K (zVar 0) (tC (.int 0)) "many")
  (sFld K (zVar 0) (tLst tNil) "apart"))
def R_Twin_init_7 (K : PySem.W.Frag) (g : Ads) (E : XK) : TS :=
  (tSeq (sFld K (zVar 0) (zMake g.c_Stand (sp_Stand_init K g) [] (WE (fun cls d _ H => E cls d H)) (tCons (zVar 1) (tCons (zVar 3) tNil))) "clean")
  (R_Twin_init_8 K g E))
def R_Twin_init_6 (K : PySem.W.Frag) (g : Ads) (E : XK) : TS :=
  (tSeq (sFld K (zVar 0) (zMake g.c_Stand (sp_Stand_init K g) [] (WE (fun cls d _ H => E cls d H)) (tCons (zVar 1) (tCons (zVar 3) tNil))) "failing")
  (R_Twin_init_7 K g E))
def R_Twin_init_5 (K : PySem.W.Frag) (g : Ads) (E : XK) : TS :=
  (tSeq (sFld K (zVar 0) (zVar 1) "service")
  (R_Twin_init_6 K g E))
def R_Twin_init_2 (K : PySem.W.Frag) (g : Ads) (E : XK) : TS :=
  (tSeq (zFor (iList K (tCB (rSortedS K) (tCons (tCB rListR (tCons (zVar 3) tNil)) tNil))) (gName 4)
  (R_Twin_init_3 K g E))
  (R_Twin_init_5 K g E))
def R_Twin_init (K : PySem.W.Frag) (g : Ads) (E : XK) : TS :=
  (tSeq (tAsg (tIf (zTest (tOp zIs (zVar 2) (tC .non))) tDNewK (zVar 2)) (gName 3))
  (R_Twin_init_2 K g E))
def rw_Twin_init (K : PySem.W.Frag) (g : Ads) : Sp := fun vs H Q E => vs.length = 3 ∧ R_Twin_init K g E { nx := fun _ H' => Q .non H', rt := Q } (start ["self", "service", "start", "given", "name"] vs) H
theorem raw_Twin_init {P : Program} {w : World} {K : PySem.W.Frag} {mg : Str → Option Value} {base : Heap} {g : Ads} (T : Txt K mg g) : FnG false P w K mg base 5 g.f_Twin_init g.d_Twin_init ["self", "service", "start"] (rw_Twin_init K g) := by
  refine okA T.f_Twin_init sc_Twin_init (fun vs H Q E h => h.1) (fun cdv A outer s H vs Q E hr hgu h => ⟨R_Twin_init K g E, ?_, h.2⟩)
  exact (pss_cons (ps_set (i := 3) sc_Twin_init.nd rfl (Or.inl rfl) (pe_ifExp (ptz_cmp op_zIs (zv 2) pe_non (nomark _)) pe_dnewK (zv 2)))
  (pss_cons (psz_for PassesOwn.leaving rfl (pi_list (pe_callB cr_sortedS (by rfl) T.b_sorted (by decide +kernel) (pa_cons (pe_callTy (call_list_rd rfl) (by rfl) T.b_list (by decide +kernel) (pa_cons (zv 3) pa_nil)) pa_nil))) (pg_name (i := 4) sc_Twin_init.nd rfl (Or.inl rfl))
  (pss_one (ps_if (ptz_cmp op_zNin (zv 4) (pe_fld (zv 1) rfl) (by rfl))
  (pss_one (ps_raise rfl (takes_of rfl rfl rfl rfl) (pmk_ZB T.o_NoPlace T.i_NoPlace T.t_NoPlace (ok_NoPlace_init T) (hr.mono (by decide)) (fun z => nomatch z) T.e_NoPlace_init rfl T.g_NoPlace (by exact (pa_cons (zv 4) pa_nil)))))
  pss_nil)))
  (pss_cons (ps_fld (zv 0) (zv 1) rfl)
  (pss_cons (ps_fld (zv 0) (pe_makeZ T.m_Stand (ok_Stand_init T) (hr.mono (by decide)) (fun z => nomatch z) rfl T.g_Stand T.ef_Stand_init .nil (fun σ => passAt (takes_of rfl rfl rfl rfl) σ) (pa_cons (zv 1) (pa_cons (zv 3) pa_nil))) rfl)
  (pss_cons (ps_fld (zv 0) (pe_makeZ T.m_Stand (ok_Stand_init T) (hr.mono (by decide)) (fun z => nomatch z) rfl T.g_Stand T.ef_Stand_init .nil (fun σ => passAt (takes_of rfl rfl rfl rfl) σ) (pa_cons (zv 1) (pa_cons (zv 3) pa_nil))) rfl)
  (pss_cons (ps_fld (zv 0) pe_int rfl)
  (pss_one (ps_fld (zv 0) (pe_lst pa_nil) rfl))))))))
theorem pf_Twin_init {K : PySem.W.Frag} {mg : Str → Option Value} {g : Ads} (T : Txt K mg g) (us : List V) (H : Hp) (Q : VK) (E : XK) (h : sp_Twin_init K g us H Q E) : rw_Twin_init K g us H Q E := by
  obtain ⟨o, dx, sv, gv, gs, cs, ss, ls, fs, hs, rfl, ho, hsv, hg, hl, nd, lp, q, qe⟩ := h
  refine ⟨rfl, ?_⟩
  have go : ∀ gd H1, Same H H1 → hid [o] H1 gd = some (.dK (dks gs)) → R_Twin_init_2 K g E { nx := fun _ H' => Q .non H', rt := Q } [some (.ref o), some (.ref sv), some gv, some (.ref gd), none] H1 := by
    intro gd H1 s1 eg
    have sv1 : SvAt K g (hid [o] H1) sv (cs.map V.str) (ss.map V.str) (ls.map V.str) (fs.map V.str) hs := svat_same hsv (hid_same fun c u e _ => s1 _ _ e)
    have ho1 := s1 _ _ ho
    have sv1' := sv1
    obtain ⟨sdx, ht, c, s_, l, f, pl, cn, h1, h2, h3, h4, h5, h6, h7, h8⟩ := sv1
    have keep : ∀ {H'}, But o H1 H' → Same (hid [o] H1) H' := fun b => (hid_but b).trans hid_sub
    have k1 := keep (But.refl o H1)
    refine ⟨gd, dks gs, rfl, .inl (k1 _ _ eg), fun q0 hq0 => ⟨q0, gs.map (·.1), rfl, SqL.of (by rw [upd_same, dks_keys]), by rw [List.length_map]; exact hl, fun ys p pm sr hp => ⟨p, rfl, ⟨_, SqL.of upd_same⟩, ?_⟩⟩⟩
    have s2 := (Same.put (o := .lst ((dks gs).map fun kv => kV kv.1)) hq0).trans (Same.put (o := .lst (ys.map V.str)) hp)
    have ep := upd_same (H := upd H1 q0 (.lst ((dks gs).map fun kv => kV kv.1))) (a := p) (o := .lst (ys.map V.str))
    generalize upd (upd H1 q0 (.lst ((dks gs).map fun kv => kV kv.1))) p (.lst (ys.map V.str)) = H2 at s2 ep ⊢
    refine for_z (walk_list (xs := ys.map V.str)) (fun i σ H' => H' = H2 ∧ (∀ y ∈ ys.take i, y ∈ cs) ∧ ∃ v4, σ = [some (.ref o), some (.ref sv), some gv, some (.ref gd), v4]) ⟨rfl, (fun y hy => absurd hy (by simp)), _, rfl⟩ (fun i σ H' _ h => SqL.of (h.1 ▸ ep)) ?_ ?_
    · rintro i x σ H3 H3' hi ⟨rfl, tk, v4, rfl⟩ ⟨rfl, hx⟩
      have hx0 := hx
      obtain ⟨rfl, li, hm⟩ := get_strs hx
      have en : ys[i]? = some (ys.getD i "") := by rw [List.getD_eq_getElem?_getD, List.getElem?_eq_getElem li]; rfl
      generalize ys.getD i "" = n at hm en ⊢
      have kk := k1.trans s2
      refine ⟨_, _, _, _, _, rfl, kk _ _ h1, T.cl_Service, T.na_Service_cells, rfl, .inr ⟨c, _, rfl, .inr (Z.Same.tup kk h2), rfl, all_flat _, ?_⟩⟩
      show if (!inV (.str n) (cs.map V.str)) = true then _ else _
      rw [inV_strs]
      by_cases hm2 : n ∈ cs
      · rw [decide_eq_true hm2, Bool.not_true, if_neg (by decide)]
        refine ⟨rfl, fun y hy => ?_, _, rfl⟩
        rw [List.take_add_one, en] at hy
        rcases List.mem_append.mp hy with h | h
        · exact tk y h
        · obtain rfl : y = n := by simpa using h
          exact hm2
      · rw [decide_eq_false hm2, Bool.not_false, if_pos rfl]
        refine raise_at fun d hd => ?_
        have b3 := But.same (p := o) (s2.trans (Same.put (o := .xd [("name", .str n)]) hd))
        refine qe n ⟨pm.mem_iff.mp hm, hm2, fun y hy hny => ?_⟩ _ d ((But.same s1).trans b3) (s1.free (s2.free hd)) upd_same
        have hy2 := pm.mem_iff.mpr hy
        obtain ⟨k, hk, rfl⟩ := List.mem_iff_getElem.mp hy2
        have pw := sorted_pw sr
        have hi2 : ys[i]'li = n := (List.getElem?_eq_some_iff.mp en).2
        rcases Nat.lt_trichotomy i k with h | h | h
        · rw [← hi2]
          exact List.pairwise_iff_getElem.mp pw i k li hk h
        · subst h
          rw [hi2]
          exact List.le_refl _
        · exact absurd (tk _ (List.mem_take_iff_getElem.mpr ⟨k, by omega, rfl⟩)) hny
    rintro σ H3 ⟨rfl, tk, v4, rfl⟩
    rw [List.length_map, List.take_length] at tk
    have hin : ∀ p ∈ gs, p.1 ∈ cs := fun p hp => tk _ (pm.mem_iff.mpr (List.mem_map_of_mem hp))
    have q := q hin
    have ho2 := s2 _ _ ho1
    have no : ∀ z, ¬ BadK (cs ++ (ls ++ fs)) gs z := fun z hz => by
      obtain ⟨x, hx, e⟩ := List.mem_map.mp hz.1
      exact hz.2.1 (List.mem_append_left _ (e ▸ hin x hx))
    refine ⟨o, _, _, _, rfl, ho2, T.cl_Twin, T.na_Twin_service, (by decide : (0 : Nat) < 1000), ?_⟩
    have b4 : But o H1 (upd H3 o (.ins g.c_Twin dx [("service", .ref sv)])) := (But.same s2).trans But.put
    have e4 := upd_same (H := H3) (a := o) (o := .ins g.c_Twin dx [("service", .ref sv)])
    show R_Twin_init_6 K g E { nx := fun _ H' => Q .non H', rt := Q } [some (.ref o), some (.ref sv), some gv, some (.ref gd), v4] (upd H3 o (.ins g.c_Twin dx [("service", .ref sv)]))
    generalize upd H3 o (.ins g.c_Twin dx [("service", .ref sv)]) = H4 at b4 e4 ⊢
    refine stand_new (svat_same sv1' (keep b4)) (.inr ⟨gd, rfl, keep b4 _ _ eg⟩) hl nd lp (fun _ H5 f5 d5 s5 hf5 hd5 st5 => ?_) (fun z hz => absurd hz (no z))
    have fr5 := but_free b4 e4 hd5
    have e5 := s5 _ _ e4
    have n5 : f5 ≠ o := fun z => by rw [z, e4] at hf5; cases hf5
    refine ⟨o, _, _, _, rfl, e5, T.cl_Twin, T.na_Twin_failing, (by decide : (1 : Nat) < 1000), ?_⟩
    have t6 : But o H5 (upd H5 o (.ins g.c_Twin dx [("service", .ref sv), ("failing", .ref f5)])) := But.put
    have b6 : But o H1 (upd H5 o (.ins g.c_Twin dx [("service", .ref sv), ("failing", .ref f5)])) := (b4.trans (But.same s5)).trans t6
    have e6 := upd_same (H := H5) (a := o) (o := .ins g.c_Twin dx [("service", .ref sv), ("failing", .ref f5)])
    have f6 := st5.butT t6 e5 n5
    show R_Twin_init_7 K g E { nx := fun _ H' => Q .non H', rt := Q } [some (.ref o), some (.ref sv), some gv, some (.ref gd), v4] (upd H5 o (.ins g.c_Twin dx [("service", .ref sv), ("failing", .ref f5)]))
    generalize upd H5 o (.ins g.c_Twin dx [("service", .ref sv), ("failing", .ref f5)]) = H6 at t6 b6 e6 f6 ⊢
    refine stand_new (svat_same sv1' (keep b6)) (.inr ⟨gd, rfl, keep b6 _ _ eg⟩) hl nd lp (fun _ H7 c7 d7 s7 hc7 hd7 st7 => ?_) (fun z hz => absurd hz (no z))
    have fr7 := but_free b6 e6 hd7
    have e7 := s7 _ _ e6
    have n7 : c7 ≠ o := fun z => by rw [z, e6] at hc7; cases hc7
    refine ⟨o, _, _, _, rfl, e7, T.cl_Twin, T.na_Twin_clean, (by decide : (2 : Nat) < 1000), ?_⟩
    have t8 : But o H7 (upd H7 o (.ins g.c_Twin dx [("service", .ref sv), ("failing", .ref f5), ("clean", .ref c7)])) := But.put
    have b8 : But o H1 (upd H7 o (.ins g.c_Twin dx [("service", .ref sv), ("failing", .ref f5), ("clean", .ref c7)])) := (b6.trans (But.same s7)).trans t8
    have e8 := upd_same (H := H7) (a := o) (o := .ins g.c_Twin dx [("service", .ref sv), ("failing", .ref f5), ("clean", .ref c7)])
    have f8 := (f6.same s7).butT t8 e7 n5
    have c8 := st7.butT t8 e7 n7
    show R_Twin_init_8 K g E { nx := fun _ H' => Q .non H', rt := Q } [some (.ref o), some (.ref sv), some gv, some (.ref gd), v4] (upd H7 o (.ins g.c_Twin dx [("service", .ref sv), ("failing", .ref f5), ("clean", .ref c7)]))
    generalize upd H7 o (.ins g.c_Twin dx [("service", .ref sv), ("failing", .ref f5), ("clean", .ref c7)]) = H8 at t8 b8 e8 f8 c8 ⊢
    refine ⟨o, _, _, _, rfl, e8, T.cl_Twin, T.na_Twin_many, (by decide : (3 : Nat) < 1000), (by decide : 0 ≤ sizeLine), fun ap hap => ?_⟩
    have t9 : But o H8 (upd H8 o (.ins g.c_Twin dx [("service", .ref sv), ("failing", .ref f5), ("clean", .ref c7), ("many", .int 0)])) := But.put
    have b9 : But o H1 (upd H8 o (.ins g.c_Twin dx [("service", .ref sv), ("failing", .ref f5), ("clean", .ref c7), ("many", .int 0)])) := b8.trans t9
    have e9 := upd_same (H := H8) (a := o) (o := .ins g.c_Twin dx [("service", .ref sv), ("failing", .ref f5), ("clean", .ref c7), ("many", .int 0)])
    have f9 := f8.butT t9 e8 n5
    have c9 := c8.butT t9 e8 n7
    change (upd H8 o (.ins g.c_Twin dx [("service", .ref sv), ("failing", .ref f5), ("clean", .ref c7), ("many", .int 0)])) ap = none at hap
    have s10 := Same.put (o := .lst []) hap
    have e10 := s10 _ _ e9
    have ea := upd_same (H := upd H8 o (.ins g.c_Twin dx [("service", .ref sv), ("failing", .ref f5), ("clean", .ref c7), ("many", .int 0)])) (a := ap) (o := .lst [])
    have na : ap ≠ o := fun z => by rw [z, e9] at hap; cases hap
    refine ⟨o, _, _, _, rfl, e10, T.cl_Twin, T.na_Twin_apart, (by decide : (4 : Nat) < 1000), ?_⟩
    have t11 : But o (upd (upd H8 o (.ins g.c_Twin dx [("service", .ref sv), ("failing", .ref f5), ("clean", .ref c7), ("many", .int 0)])) ap (.lst [])) (upd (upd (upd H8 o (.ins g.c_Twin dx [("service", .ref sv), ("failing", .ref f5), ("clean", .ref c7), ("many", .int 0)])) ap (.lst [])) o (.ins g.c_Twin dx (twF sv f5 c7 ap))) := But.put
    exact q _ d5 d7 ((But.same s1).trans ((b9.trans (But.same s10)).trans t11)) (s1.free fr5) (s1.free fr7) ⟨dx, f5, c7, ap, upd_same, (f9.same s10).butT t11 e10 n5, (c9.same s10).butT t11 e10 n7, t11 _ _ ea na⟩
  refine ⟨rfl, zite (fun hc => ?_) (fun hc => ?_)⟩
  · rcases hg with ⟨rfl, rfl⟩ | ⟨gd, rfl, eg⟩
    · exact fun p hp => go p _ (Same.put hp) (hid_at (by simpa using (ne_of_none ho hp).symm) upd_same)
    · exact absurd (of_decide_eq_true hc) (by simp)
  · rcases hg with ⟨rfl, rfl⟩ | ⟨gd, rfl, eg⟩
    · exact absurd rfl (of_decide_eq_false hc)
    · exact go gd H (Same.refl H) eg
theorem ok_Twin_init {P : Program} {w : World} {K : PySem.W.Frag} {mg : Str → Option Value} {base : Heap} {g : Ads} (T : Txt K mg g) : FnG false P w K mg base 5 g.f_Twin_init g.d_Twin_init ["self", "service", "start"] (sp_Twin_init K g) := (raw_Twin_init T).imp (pf_Twin_init T)
/-- a twin: made, or refused -/
theorem twin_new {K : PySem.W.Frag} {g : Ads} {H : Hp} {R : Addr → Hp → Prop} {E : XK} {sv : Addr} {gv : V} {gs : List (Str × V)} {cs ss ls fs : List Str} {hs : List (Addr × Str)} (hsv : SvAt K g H sv (cs.map V.str) (ss.map V.str) (ls.map V.str) (fs.map V.str) hs)
    (hg : (gv = .non ∧ gs = []) ∨ ∃ gd, gv = .ref gd ∧ H gd = some (.dK (dks gs))) (hl : gs.length < 64) (nd : (cs ++ (ls ++ fs)).Nodup) (lp : (cs ++ (ls ++ fs)).length < 64)
    (q : (∀ p ∈ gs, p.1 ∈ cs) → ∀ H' o fd cd, Same H H' → H o = none → H fd = none → H cd = none → TwIn g H' o fd cd sv (stK cs (cs ++ (ls ++ fs)) gs) → R o H')
    (qe : ∀ z, BadK cs gs z → ∀ H' dd, Same H H' → H dd = none → H' dd = some (.xd [("name", .str z)]) → E (.ref g.c_NoPlace) (some dd) H') :
    ∀ x dx, H x = none → H dx = none → dx ≠ x → sp_Twin_init K g [.ref x, .ref sv, gv] (upd (upd H dx (.own x)) x (.ins g.c_Twin dx [])) (fun v H2 => v = .non ∧ R x H2) E := by
  intro x dx hx hdx ne
  obtain ⟨s1, _⟩ := mk_same (C := g.c_Twin) hx hdx ne
  have m := mk_hid hx s1
  exact ⟨x, dx, sv, gv, gs, cs, ss, ls, fs, hs, rfl, upd_same, svat_same hsv m, hg.imp id fun ⟨gd, e, h⟩ => ⟨gd, e, m _ _ h⟩, hl, nd, lp, fun hin H' fd cd b hfd hcd st => ⟨rfl, q hin H' x fd cd (mk_out hx s1 b) hx (s1.free hfd) (s1.free hcd) st⟩, fun z hz H' dd b hd ex => qe z hz H' dd (mk_out hx s1 b) (s1.free hd) ex⟩
end Z
namespace Z
open PySem PySem.Spec PyProof.Rows L2
open LamX (CodeO Tabs TabS TabB ExtN GivesTo tLam lamCx lamEnv LamS lamS_by)
def PV (v : V) : Prop := v = .non ∨ ∃ i, v = .int i
/-! ### dicts compared -/
theorem eqV_pv {v y : V} (hv : PV v) (hy : PV y) : eqV v y = decide (v = y) := by
  rcases hv with rfl | ⟨i, rfl⟩ <;> rcases hy with rfl | ⟨j, rfl⟩
  · rfl
  · rfl
  · rfl
  · show (i == j) = _
    by_cases h : i = j
    · subst h
      simp
    · have : V.int i ≠ V.int j := fun z => h (by injection z)
      rw [decide_eq_false this]
      simpa using h
theorem PV.flat {v : V} (h : PV v) : flatV v = true := by rcases h with rfl | ⟨i, rfl⟩ <;> rfl
theorem hits_true {gs ls : List (Str × V)} (h : ∀ p ∈ gs, lk ls p.1 = some p.2 ∧ PV p.2) : hitsB (dks ls) (dks gs) = true := by
  induction gs with
  | nil => rfl
  | cons p r ih =>
    obtain ⟨h1, h2⟩ := h p List.mem_cons_self
    show (match lk ls p.1 with | none => false | some y => eqV p.2 y && hitsB (dks ls) (dks r)) = true
    rw [h1]
    show (eqV p.2 p.2 && hitsB (dks ls) (dks r)) = true
    rw [eqV_pv h2 h2, decide_eq_true rfl, ih fun q hq => h q (List.mem_cons_of_mem _ hq)]
    rfl
theorem dEq_true {gs ls : List (Str × V)} (l : gs.length = ls.length) (h : ∀ p ∈ gs, lk ls p.1 = some p.2 ∧ PV p.2) : dEq (dks gs) (dks ls) = true := by
  unfold dEq
  rw [dks_len, dks_len, l, hits_true h]
  simp
theorem PV.sc {v : V} (h : PV v) : ScV v := h.imp id fun ⟨i, e⟩ => .inr (.inl ⟨i, e⟩)
theorem paired_self {K : PySem.W.Frag} {H : Hp} {d : Nat} : ∀ {xs : List V}, (∀ x ∈ xs, ScV x) → Paired (SameD K H (d + 1)) xs xs
  | [], _ => .nil
  | x :: _, h => .cons (.inl ⟨rfl, h x List.mem_cons_self⟩) (paired_self fun y hy => h y (List.mem_cons_of_mem _ hy))
theorem strs_sm (ns : List Str) : ∀ v ∈ ns.map V.str, SmV v := fun v hv => by
  obtain ⟨z, _, rfl⟩ := List.mem_map.mp hv
  exact .inr (.inr (.inr (.inl ⟨z, rfl⟩)))
def sp_law_is_begun (K : PySem.W.Frag) (g : Ads) : Sp := fun us H Q E => ∃ (tw sv dd : Addr) (gs : List (Str × V)) (vc vs vl vf : List V) (hs : List (Addr × Str)), us = [.ref tw, .ref sv, .ref dd] ∧ TwAt g H tw sv gs ∧ SvAt K g H sv vc vs vl vf hs ∧ H dd = some (.dK (dks gs)) ∧ (gs.map (·.1)).Nodup ∧ gs.length < 64 ∧ (∀ p ∈ gs, PV p.2) ∧ ∀ H', Same H H' → Q (.bl true) H'
theorem sc_law_is_begun : FnScope ["twin", "service", "due", "names", "told", "name"] ["twin", "service", "due"] (defScope s_law_is_begun) := ⟨rfl, rfl, rfl, by decide +kernel, rfl, by decide +kernel, by decide +kernel⟩
def R_law_is_begun_7 (K : PySem.W.Frag) (g : Ads) (E : XK) : TS :=
  (tIfS (tNot (zTru K (zCall (sp_law_same K g) [] (WE (fun cls d _ H => E cls d H)) (tCons (zLc (iList K (zVar 3)) (gName 5) tYes (tDGet (zVar 4) (zVar 5)) [5]) (tCons (zLc (iList K (zVar 3)) (gName 5) tYes (tDGet (zVar 2) (zVar 5)) [5]) tNil)))))
  (tRet (tC (.bl false)))
  tNext)
def R_law_is_begun_5 (K : PySem.W.Frag) (g : Ads) (E : XK) : TS :=
  (tSeq (tIfS (zTest (tOp (zNeE K) (tCB (rSortedS K) (tCons (tCB rListR (tCons (zVar 4) tNil)) tNil)) (tCB (rSortedS K) (tCons (zVar 3) tNil))))
  (tRet (tC (.bl false)))
  tNext)
  (R_law_is_begun_7 K g E))
def R_law_is_begun_9 (K : PySem.W.Frag) (g : Ads) (E : XK) : TS :=
  (tRet (tOp (zEqA K g.c_Stand (sp_Stand_eq K g)) (tFld K (zVar 0) "failing") (tFld K (zVar 0) "clean")))
def R_law_is_begun_4 (K : PySem.W.Frag) (g : Ads) (E : XK) : TS :=
  (tSeq (zFor (iList K (tLst (tCons (tProp g.c_Stand (sp_Stand_held K g) [] (fun _ _ _ => False) (tFld K (zVar 0) "failing")) (tCons (tProp g.c_Stand (sp_Stand_held K g) [] (fun _ _ _ => False) (tFld K (zVar 0) "clean")) tNil)))) (gName 4)
  (R_law_is_begun_5 K g E))
  (R_law_is_begun_9 K g E))
def R_law_is_begun_3 (K : PySem.W.Frag) (g : Ads) (E : XK) : TS :=
  (tSeq (tAsg (tCB rListR (tCons (zVar 2) tNil)) (gName 3))
  (R_law_is_begun_4 K g E))
def R_law_is_begun (K : PySem.W.Frag) (g : Ads) (E : XK) : TS :=
  (tSeq (tIfS (tOr (tNot (zTest (tOp (zEqA K g.c_Service (sp_Service_eq K g)) (tFld K (zVar 0) "service") (zVar 1)))) (tNot (zTru K (zCall (sp_law_same K g) [] (WE (fun cls d _ H => E cls d H)) (tCons (tLst (tCons (tFld K (zVar 0) "many") (tCons (tCB (rListOf K) (tCons (tFld K (zVar 0) "apart") tNil)) tNil))) (tCons (tLst (tCons (tC (.int 0)) (tCons (tLst tNil) tNil))) tNil))))))
  (tRet (tC (.bl false)))
  tNext)
  (R_law_is_begun_3 K g E))
def rw_law_is_begun (K : PySem.W.Frag) (g : Ads) : Sp := fun vs H Q E => vs.length = 3 ∧ R_law_is_begun K g E { nx := fun _ H' => Q .non H', rt := Q } (start ["twin", "service", "due", "names", "told", "name"] vs) H
theorem raw_law_is_begun {P : Program} {w : World} {K : PySem.W.Frag} {mg : Str → Option Value} {base : Heap} {g : Ads} (T : Txt K mg g) : FnG false P w K mg base 6 g.f_law_is_begun g.d_law_is_begun ["twin", "service", "due"] (rw_law_is_begun K g) := by
  refine okZ T.f_law_is_begun sc_law_is_begun (fun vs H Q E h => h.1) (fun cdv A outer s H vs Q E hr hgu h => ⟨R_law_is_begun K g E, ?_, h.2⟩)
  exact (pss_cons (ps_if (PW.pt (pw_or (pt_not (ptz_cmp (op_zEqA ((ok_Service_eq T).raw T.e_Service_eq) T.eq_Service T.i_Service_eq (hr.mono (by decide))) (pe_fld (zv 0) rfl) (zv 1) (nomark _))) (pw_or1 (pt_not (ptz_truth (pe_callZ (ok_law_same T) (hr.mono (by decide)) (fun z => nomatch z) rfl T.g_law_same T.k_law_same T.e_law_same .nil (fun σ => passAt (takes_of rfl rfl rfl rfl) σ) (pa_cons (pe_lst (pa_cons (pe_fld (zv 0) rfl) (pa_cons (pe_callTy call_listZ (by rfl) T.b_list (by decide +kernel) (pa_cons (pe_fld (zv 0) rfl) pa_nil)) pa_nil))) (pa_cons (pe_lst (pa_cons pe_int (pa_cons (pe_lst pa_nil) pa_nil))) pa_nil))) (by intro _; rfl))))))
  (pss_one (ps_ret pe_bl))
  pss_nil)
  (pss_cons (ps_set (i := 3) sc_law_is_begun.nd rfl (Or.inl rfl) (pe_callTy (call_list_rd rfl) (by rfl) T.b_list (by decide +kernel) (pa_cons (zv 2) pa_nil)))
  (pss_cons (psz_for PassesOwn.leaving rfl (pi_list (pe_lst (pa_cons (pe_prop (pe_fld (zv 0) rfl) T.cl_Stand T.pp_Stand_held (ok_Stand_held T).ok (hr.mono (by decide)) T.e_Stand_held .nil passN rfl) (pa_cons (pe_prop (pe_fld (zv 0) rfl) T.cl_Stand T.pp_Stand_held (ok_Stand_held T).ok (hr.mono (by decide)) T.e_Stand_held .nil passN rfl) pa_nil)))) (pg_name (i := 4) sc_law_is_begun.nd rfl (Or.inr rfl))
  (pss_cons (ps_if (ptz_cmp (op_zNeE hr.units) (pe_callB cr_sortedS (by rfl) T.b_sorted (by decide +kernel) (pa_cons (pe_callTy (call_list_rd rfl) (by rfl) T.b_list (by decide +kernel) (pa_cons (zv 4) pa_nil)) pa_nil)) (pe_callB cr_sortedS (by rfl) T.b_sorted (by decide +kernel) (pa_cons (zv 3) pa_nil)) (nomark _))
  (pss_one (ps_ret pe_bl))
  pss_nil)
  (pss_one (ps_if (pt_not (ptz_truth (pe_callZ (ok_law_same T) (hr.mono (by decide)) (fun z => nomatch z) rfl T.g_law_same T.k_law_same T.e_law_same .nil (fun σ => passAt (takes_of rfl rfl rfl rfl) σ) (pa_cons (pez_lc (own := [("name", 5)]) rfl sc_law_is_begun.nd (pi_list (zv 3)) (blkOk_by (own := [("name", 5)]) (N := ["twin", "service", "due", "names", "told", "name"]) (sc := defScope s_law_is_begun) (by decide +kernel)) (fun _ _ _ _ _ => pg_name (i := 5) sc_law_is_begun.nd rfl (Or.inl rfl)) (fun _ _ _ _ _ => pts_nil) (fun _ _ _ _ _ => (pe_dget (hu_of hr) (zv 4) (zv 5) (fun _ _ => rfl)))) (pa_cons (pez_lc (own := [("name", 5)]) rfl sc_law_is_begun.nd (pi_list (zv 3)) (blkOk_by (own := [("name", 5)]) (N := ["twin", "service", "due", "names", "told", "name"]) (sc := defScope s_law_is_begun) (by decide +kernel)) (fun _ _ _ _ _ => pg_name (i := 5) sc_law_is_begun.nd rfl (Or.inl rfl)) (fun _ _ _ _ _ => pts_nil) (fun _ _ _ _ _ => (pe_dget (hu_of hr) (zv 2) (zv 5) (fun _ _ => rfl)))) pa_nil))) (by intro _; rfl)))
  (pss_one (ps_ret pe_bl))
  pss_nil))))
  (pss_one (ps_ret (pe_cmpR (op_zEqA ((ok_Stand_eq T).raw T.e_Stand_eq) T.eq_Stand T.i_Stand_eq (hr.mono (by decide))) (pe_fld (zv 0) rfl) (pe_fld (zv 0) rfl) (nomark _)))))))
theorem pf_law_is_begun {K : PySem.W.Frag} {mg : Str → Option Value} {g : Ads} (T : Txt K mg g) (us : List V) (H : Hp) (Q : VK) (E : XK) (h : sp_law_is_begun K g us H Q E) : rw_law_is_begun K g us H Q E := by
  obtain ⟨tw, sv, dd, gs, vc, vs, vl, vf, hs, rfl, ht, hsv, hd, nd, hl, pv, q⟩ := h
  obtain ⟨dx, f, c, ap, h1, h2, h3, h4⟩ := id ht
  obtain ⟨sdx, ht', ac, as_, al, af, pl, cn, v1, _⟩ := id hsv
  refine ⟨rfl, ?_⟩
  refine ⟨_, _, _, _, _, rfl, h1, T.cl_Twin, T.na_Twin_service, rfl, sv, sdx, _, rfl, v1, .inr (.inr ⟨sv, sdx, _, rfl, v1⟩), sv, sdx, ht', ac, as_, al, af, pl, cn, rfl, v1, fun H1 s1 => ⟨true, rfl, zite (fun h => absurd h (by decide)) (fun _ => ?_)⟩⟩
  refine ⟨_, _, _, _, _, rfl, s1 _ _ h1, T.cl_Twin, T.na_Twin_many, rfl, _, _, _, _, _, rfl, s1 _ _ h1, T.cl_Twin, T.na_Twin_apart, rfl, [], .inl (SqL.of (s1 _ _ h4)), fun l1 hl1 => ⟨(by decide : 2 ≤ sizeLine), fun l2 hl2 => ⟨(by decide : 0 ≤ sizeLine), fun l3 hl3 => ⟨(by decide : 2 ≤ sizeLine), fun l4 hl4 => ?_⟩⟩⟩⟩
  have t1 := Same.put (o := .lst []) hl1
  have e1 := upd_same (H := H1) (a := l1) (o := .lst [])
  change (upd H1 l1 (.lst [])) l2 = none at hl2
  change (upd (upd H1 l1 (.lst [])) l2 (.lst [.int 0, .ref l1])) l3 = none at hl3
  change (upd (upd (upd H1 l1 (.lst [])) l2 (.lst [.int 0, .ref l1])) l3 (.lst [])) l4 = none at hl4
  show sp_law_same K g [.ref l2, .ref l4] (upd (upd (upd (upd H1 l1 (.lst [])) l2 (.lst [.int 0, .ref l1])) l3 (.lst [])) l4 (.lst [.int 0, .ref l3])) _ _
  generalize upd H1 l1 (.lst []) = H2 at t1 e1 hl2 hl3 hl4 ⊢
  have t2 := Same.put (o := .lst [.int 0, .ref l1]) hl2
  have e2 := upd_same (H := H2) (a := l2) (o := .lst [.int 0, .ref l1])
  replace e1 := t2 _ _ e1
  generalize upd H2 l2 (.lst [.int 0, .ref l1]) = H3 at t2 e1 e2 hl3 hl4 ⊢
  have t3 := Same.put (o := .lst []) hl3
  have e3 := upd_same (H := H3) (a := l3) (o := .lst [])
  replace e1 := t3 _ _ e1
  replace e2 := t3 _ _ e2
  generalize upd H3 l3 (.lst []) = H4 at t3 e1 e2 e3 hl4 ⊢
  have t4 := Same.put (o := .lst [.int 0, .ref l3]) hl4
  have e4 := upd_same (H := H4) (a := l4) (o := .lst [.int 0, .ref l3])
  replace e1 := t4 _ _ e1
  replace e2 := t4 _ _ e2
  replace e3 := t4 _ _ e3
  generalize upd H4 l4 (.lst [.int 0, .ref l3]) = H5 at t4 e1 e2 e3 e4 ⊢
  refine ⟨_, _, rfl, .inr ⟨l2, l4, _, _, rfl, rfl, .inr ⟨SqL.of e2, SqL.of e4⟩, (by decide : 2 ≤ 1000), .cons (.inl ⟨rfl, .inr (.inr (.inl ⟨_, rfl⟩))⟩) (.cons (.inr ⟨l1, l3, _, _, rfl, rfl, .inr ⟨SqL.of e1, SqL.of e3⟩, (by decide : 0 ≤ 1000), .nil⟩) .nil)⟩, fun H6 s6 => zite (fun h => absurd h (by decide)) (fun _ => ?_)⟩
  have sA := ((((s1.trans t1).trans t2).trans t3).trans t4).trans s6
  refine ⟨dd, dks gs, rfl, .inl (sA _ _ hd), fun nm hnm => ?_⟩
  have s7 := sA.trans (Same.put (o := .lst ((dks gs).map fun kv => kV kv.1)) hnm)
  have enm := upd_same (H := H6) (a := nm) (o := .lst ((dks gs).map fun kv => kV kv.1))
  show R_law_is_begun_4 K g E { nx := fun _ H' => Q .non H', rt := Q } [some (.ref tw), some (.ref sv), some (.ref dd), some (.ref nm), none, none] (upd H6 nm (.lst ((dks gs).map fun kv => kV kv.1)))
  rw [dks_keys] at enm s7 ⊢
  generalize upd H6 nm (.lst ((gs.map (·.1)).map V.str)) = H7 at s7 enm ⊢
  obtain ⟨fdx, fd, hf, hfd⟩ := id h2
  obtain ⟨cdx, cd, hc, hcd⟩ := id h3
  refine ⟨_, _, _, _, _, rfl, s7 _ _ h1, T.cl_Twin, T.na_Twin_failing, rfl, f, fdx, _, rfl, s7 _ _ hf, f, sv, gs, rfl, h2.same s7, nd, by omega, fun p1 H8 s8 hp1 ep1 => ?_⟩
  have s78 := s7.trans s8
  refine ⟨_, _, _, _, _, rfl, s78 _ _ h1, T.cl_Twin, T.na_Twin_clean, rfl, c, cdx, _, rfl, s78 _ _ hc, c, sv, gs, rfl, h3.same s78, nd, by omega, fun p2 H9 s9 hp2 ep2 => ⟨(by decide : 2 ≤ sizeLine), fun LL hLL => ⟨LL, rfl, ⟨_, SqL.of upd_same⟩, ?_⟩⟩⟩
  have s10 := Same.put (o := .lst [.ref p1, .ref p2]) hLL
  have eLL := upd_same (H := H9) (a := LL) (o := .lst [.ref p1, .ref p2])
  have ep1 := s10 _ _ (s9 _ _ ep1)
  have ep2 := s10 _ _ ep2
  have enm := s10 _ _ (s9 _ _ (s8 _ _ enm))
  have s7 := (s78.trans s9).trans s10
  clear s10
  generalize upd H9 LL (.lst [.ref p1, .ref p2]) = Hb at s7 eLL ep1 ep2 enm ⊢
  have lnm : (gs.map (·.1)).length = gs.length := List.length_map ..
  refine for_z (walk_list (xs := [.ref p1, .ref p2])) (fun i σ H' => Same Hb H' ∧ ∃ v4, σ = [some (.ref tw), some (.ref sv), some (.ref dd), some (.ref nm), v4, none]) ⟨Same.refl _, _, rfl⟩ (fun i σ H' _ h => SqL.of (h.1 _ _ eLL)) ?_ ?_
  · rintro i x σ Hc Hc' hi ⟨sc, v4, rfl⟩ ⟨rfl, hx⟩
    obtain ⟨pj, rfl, epj⟩ : ∃ pj, x = .ref pj ∧ Hb pj = some (.dK (dks gs)) := by
      match i, hi with
      | 0, _ => exact ⟨p1, (Option.some.inj hx).symm, ep1⟩
      | 1, _ => exact ⟨p2, (Option.some.inj hx).symm, ep2⟩
    refine ⟨pj, dks gs, rfl, .inl (sc _ _ epj), fun q0 hq0 => ⟨q0, gs.map (·.1), rfl, SqL.of (by rw [upd_same, dks_keys]), by rw [lnm]; exact hl, fun ys p pm sr hp => ?_⟩⟩
    have sd := (Same.put (o := .lst ((dks gs).map fun kv => kV kv.1)) hq0).trans (Same.put (o := .lst (ys.map V.str)) hp)
    have ep := upd_same (H := upd Hc' q0 (.lst ((dks gs).map fun kv => kV kv.1))) (a := p) (o := .lst (ys.map V.str))
    generalize upd (upd Hc' q0 (.lst ((dks gs).map fun kv => kV kv.1))) p (.lst (ys.map V.str)) = Hd at sd ep ⊢
    have scd := sc.trans sd
    refine ⟨nm, gs.map (·.1), rfl, SqL.of (scd _ _ enm), by rw [lnm]; exact hl, fun zs p' pm' sr' hp' => ?_⟩
    have se := Same.put (o := .lst (zs.map V.str)) hp'
    have ep' := upd_same (H := Hd) (a := p') (o := .lst (zs.map V.str))
    have ep := se _ _ ep
    have sce := scd.trans se
    clear se
    generalize upd Hd p' (.lst (zs.map V.str)) = He at sce ep ep' ⊢
    obtain rfl := sorted_one pm pm' sr sr'
    refine .inr (.inr (.inr (.inl ⟨p, p', _, rfl, rfl, SqL.of ep, SqL.of ep', strs_sm ys, zite (fun h => absurd h (by decide)) (fun _ => ?_)⟩)))
    -- the values
    have vals : ∀ {i : Nat} {x : V}, i < ((gs.map (·.1)).map V.str).length → ((gs.map (·.1)).map V.str)[i]? = some x → ∃ n v, x = .str n ∧ gs[i]? = some (n, v) ∧ (gs.map (·.2)).getD i .non = v := fun {i x} hi hx => by
      rw [List.length_map, lnm] at hi
      refine ⟨gs[i].1, gs[i].2, ?_, List.getElem?_eq_getElem hi, ?_⟩
      · rw [List.getElem?_map, List.getElem?_map, List.getElem?_eq_getElem hi] at hx
        exact (Option.some.inj hx).symm
      · rw [List.getD_eq_getElem?_getD, List.getElem?_map, List.getElem?_eq_getElem hi]
        rfl
    have ml : ((gs.map (·.1)).map V.str).length ≤ 64 := by rw [List.length_map, lnm]; omega
    refine ⟨nm, rfl, ⟨_, SqL.of (sce _ _ enm)⟩, lc_map (walk_list (xs := (gs.map (·.1)).map V.str)) (fun i => (gs.map (·.2)).getD i .non) (Nat.le_trans ml (by decide)) (fun H' s => SqL.of (s _ _ (sce _ _ enm))) (fun i x Hf Hf' hi sf y => ?_) (fun A hA => ?_)⟩
    · obtain ⟨rfl, hx⟩ := y
      obtain ⟨n, v, rfl, hg, ev⟩ := vals hi hx
      exact ⟨rfl, _, fun R r => r, rfl, fun R r => r, fun R r => ⟨pj, v, rfl, .inl ⟨dks gs, .inr n, .inl (sf _ _ (sce _ _ epj)), rfl, (lk_at nd hg).symm⟩, ev ▸ r⟩⟩
    have sg := Same.put (o := .lst ((List.range ((gs.map (·.1)).map V.str).length).map fun i => (gs.map (·.2)).getD i .non)) hA
    have eA := upd_same (H := He) (a := A) (o := .lst ((List.range ((gs.map (·.1)).map V.str).length).map fun i => (gs.map (·.2)).getD i .non))
    have scg := sce.trans sg
    clear sg
    generalize upd He A (.lst ((List.range ((gs.map (·.1)).map V.str).length).map fun i => (gs.map (·.2)).getD i .non)) = Hg at scg eA ⊢
    refine ⟨nm, rfl, ⟨_, SqL.of (scg _ _ enm)⟩, lc_map (walk_list (xs := (gs.map (·.1)).map V.str)) (fun i => (gs.map (·.2)).getD i .non) (Nat.le_trans ml (by decide)) (fun H' s => SqL.of (s _ _ (scg _ _ enm))) (fun i x Hf Hf' hi sf y => ?_) (fun B hB => ?_)⟩
    · obtain ⟨rfl, hx⟩ := y
      obtain ⟨n, v, rfl, hg, ev⟩ := vals hi hx
      exact ⟨rfl, _, fun R r => r, rfl, fun R r => r, fun R r => ⟨dd, v, rfl, .inl ⟨dks gs, .inr n, .inl (sf _ _ (scg _ _ (s7 _ _ hd))), rfl, (lk_at nd hg).symm⟩, ev ▸ r⟩⟩
    have sh := Same.put (o := .lst ((List.range ((gs.map (·.1)).map V.str).length).map fun i => (gs.map (·.2)).getD i .non)) hB
    refine ⟨_, _, rfl, .inr ⟨A, B, _, _, rfl, rfl, .inr ⟨SqL.of (sh _ _ eA), SqL.of upd_same⟩, ?_, paired_self ?_⟩, fun Hi si => zite (fun h => absurd h (by decide)) (fun _ => ⟨(scg.trans sh).trans si, _, rfl⟩)⟩
    · rw [List.length_map, List.length_range]
      exact Nat.le_trans ml (by decide)
    · intro x hx
      obtain ⟨i, hi, rfl⟩ := List.mem_map.mp hx
      rw [List.mem_range, List.length_map, lnm] at hi
      rw [List.getD_eq_getElem?_getD, List.getElem?_map, List.getElem?_eq_getElem hi]
      exact (pv _ (List.getElem_mem hi)).sc
  · rintro σ Hc ⟨sc, v4, rfl⟩
    have sz := s7.trans sc
    have fl : ∀ p ∈ gs, flatV p.2 = true := fun p hp => (pv p hp).flat
    refine ⟨_, _, _, _, _, rfl, sz _ _ h1, T.cl_Twin, T.na_Twin_failing, rfl, _, _, _, _, _, rfl, sz _ _ h1, T.cl_Twin, T.na_Twin_clean, rfl, f, fdx, _, rfl, sz _ _ hf, .inr (.inr ⟨c, cdx, _, rfl, sz _ _ hc⟩), f, sv, gs, _, rfl, h2.same sz, fl, .inr (.inr ⟨c, sv, gs, rfl, h3.same sz, fl, _, rfl, ?_⟩)⟩
    rw [dEq_true rfl fun p hp => ⟨?_, pv p hp⟩]
    · exact q _ sz
    · obtain ⟨i, hi, e⟩ := List.mem_iff_getElem.mp hp
      exact lk_at nd (List.getElem?_eq_some_iff.mpr ⟨hi, e⟩)
theorem ok_law_is_begun {P : Program} {w : World} {K : PySem.W.Frag} {mg : Str → Option Value} {base : Heap} {g : Ads} (T : Txt K mg g) : FnG false P w K mg base 6 g.f_law_is_begun g.d_law_is_begun ["twin", "service", "due"] (sp_law_is_begun K g) := (raw_law_is_begun T).imp (pf_law_is_begun T)
end Z
namespace Z
open PySem PySem.Spec PyProof.Rows L2
open LamX (CodeO Tabs TabS TabB ExtN GivesTo tLam lamCx lamEnv LamS lamS_by)
def ClR (g : Ads) (H : Hp) (as : List (Addr × Str)) : Prop := ∀ a ∈ as, ∃ dx tp ty so fu te, H a.1 = some (.ins g.c_Call dx (clF a.2 tp ty so fu te))
theorem ClR.of {g : Ads} {H H' : Hp} {as : List (Addr × Str)} (h : ClR g H as) (k : ∀ b o, H b = some o → (∃ C dx fs, o = .ins C dx fs) → H' b = some o) : ClR g H' as := fun a ha => by
  obtain ⟨dx, tp, ty, so, fu, te, e⟩ := h a ha
  exact ⟨dx, tp, ty, so, fu, te, k _ _ e ⟨_, _, _, rfl⟩⟩
def sp_law_are_histories (K : PySem.W.Frag) (g : Ads) : Sp := fun us H Q E => ∃ (bd cl : Addr) (gs : List (Str × V)) (as : List (Addr × Str)), us = [.ref bd, .ref cl] ∧ H bd = some (.dK (dks gs)) ∧ (gs.map (·.1)).Nodup ∧ gs.length < 64 ∧ (∀ p ∈ gs, PV p.2) ∧ H cl = some (.lst (as.map fun a => V.ref a.1)) ∧ ClR g H as ∧ as.length ≤ 20 ∧ ∀ H', Same H H' → Q (.bl true) H'
theorem sc_law_are_histories : FnScope ["begun", "calls", "handed", "name", "row", "found", "one", "call"] ["begun", "calls"] (defScope s_law_are_histories) := ⟨rfl, rfl, rfl, by decide +kernel, rfl, by decide +kernel, by decide +kernel⟩
def R_law_are_histories_3 (K : PySem.W.Frag) (g : Ads) (E : XK) : TS :=
  (sDPut (zVar 2) (zVar 3) (tDGet (zVar 0) (zVar 3)))
def R_law_are_histories_7 (K : PySem.W.Frag) (g : Ads) (E : XK) : TS :=
  (tDrop (tBM K "list" rAppend (zVar 5) (tCons (StX.tMakeR g.c_History (sp_History_init K g) (fun _ _ _ => False) (tCons (zVar 2) (tCons (tOp (zIx K) (zVar 4) (tC (.int 0))) (tCons (tOp (zIx K) (zVar 4) (tC (.int 1))) tNil)))) tNil)))
def R_law_are_histories_9 (K : PySem.W.Frag) (g : Ads) (E : XK) : TS :=
  (tDrop (tBM K "list" rAppend (zVar 5) (tCons (StX.tMakeR g.c_History (sp_History_init K g) (fun _ _ _ => False) (tCons (zVar 2) tNil)) tNil)))
def R_law_are_histories_17 (K : PySem.W.Frag) (g : Ads) (E : XK) : TS :=
  (tIfS (zTest (tOp (zNeE K) (zLc (iTup K (tFld K (zVar 6) "calls")) (gName 7) tYes (tFld K (zVar 7) "handler") [7]) (zLc (iList K (zVar 1)) (gName 7) tYes (tFld K (zVar 7) "handler") [7])))
  (tRet (tC (.bl false)))
  tNext)
def R_law_are_histories_15 (K : PySem.W.Frag) (g : Ads) (E : XK) : TS :=
  (tSeq (tIfS (tOr (tNot (zTru K (zIsiT K .dict (tFld K (zVar 6) "start")))) (tOr (zTest (tOp (zNeE K) (tFld K (zVar 6) "start") (zVar 0))) (tNot (zTru K (zIsiT K .tuple (tFld K (zVar 6) "calls"))))))
  (tRet (tC (.bl false)))
  tNext)
  (R_law_are_histories_17 K g E))
def R_law_are_histories_14 (K : PySem.W.Frag) (g : Ads) (E : XK) : TS :=
  (tSeq (zFor (iList K (zVar 5)) (gName 6)
  (R_law_are_histories_15 K g E))
  (tRet (tC (.bl true))))
def R_law_are_histories_13 (K : PySem.W.Frag) (g : Ads) (E : XK) : TS :=
  (tSeq (tDrop (tBM K "list" rAppend (zVar 4) (tCons (tC .non) tNil)))
  (R_law_are_histories_14 K g E))
def R_law_are_histories_12 (K : PySem.W.Frag) (g : Ads) (E : XK) : TS :=
  (tSeq (sDPut (zVar 2) (tC (.str "later")) (tC (.int 3)))
  (R_law_are_histories_13 K g E))
def R_law_are_histories_10 (K : PySem.W.Frag) (g : Ads) (E : XK) : TS :=
  (tSeq (tLock (zFor (iKeys (zVar 0)) (gName 3)
  (sDPut (zVar 2) (zVar 3) (tC (.int 3)))))
  (R_law_are_histories_12 K g E))
def R_law_are_histories_8 (K : PySem.W.Frag) (g : Ads) (E : XK) : TS :=
  (tSeq (tIfS (zTest (tOp (zEqE K) (zVar 4) (tLst tNil)))
  (R_law_are_histories_9 K g E)
  tNext)
  (R_law_are_histories_10 K g E))
def R_law_are_histories_6 (K : PySem.W.Frag) (g : Ads) (E : XK) : TS :=
  (tSeq (tIfS (zTest (tOp (zEqE K) (tCB (zLen K) (tCons (zVar 4) tNil)) (tC (.int 2))))
  (R_law_are_histories_7 K g E)
  tNext)
  (R_law_are_histories_8 K g E))
def R_law_are_histories_5 (K : PySem.W.Frag) (g : Ads) (E : XK) : TS :=
  (tSeq (tAsg (tLst (tCons (ClX.tCMeth g.c_History (sp_History_made K g) (fun _ _ _ => False) (tC (.ref g.c_History)) (tCons (zVar 2) (tCons (zVar 4) tNil))) (tCons (ClX.tCMeth g.c_History (sp_History_made K g) (fun _ _ _ => False) (tC (.ref g.c_History)) (tCons (zVar 2) (tCons (tCB (zTupOf K) (tCons (zVar 4) tNil)) tNil))) tNil))) (gName 5))
  (R_law_are_histories_6 K g E))
def R_law_are_histories_4 (K : PySem.W.Frag) (g : Ads) (E : XK) : TS :=
  (tSeq (tAsg (tCB (rListOf K) (tCons (zVar 1) tNil)) (gName 4))
  (R_law_are_histories_5 K g E))
def R_law_are_histories_2 (K : PySem.W.Frag) (g : Ads) (E : XK) : TS :=
  (tSeq (tLock (zFor (iKeys (zVar 0)) (gName 3)
  (R_law_are_histories_3 K g E)))
  (R_law_are_histories_4 K g E))
def R_law_are_histories (K : PySem.W.Frag) (g : Ads) (E : XK) : TS :=
  (tSeq (tAsg tDNewK (gName 2))
  (R_law_are_histories_2 K g E))
def rw_law_are_histories (K : PySem.W.Frag) (g : Ads) : Sp := fun vs H Q E => vs.length = 2 ∧ R_law_are_histories K g E { nx := fun _ H' => Q .non H', rt := Q } (start ["begun", "calls", "handed", "name", "row", "found", "one", "call"] vs) H
theorem raw_law_are_histories {P : Program} {w : World} {K : PySem.W.Frag} {mg : Str → Option Value} {base : Heap} {g : Ads} (T : Txt K mg g) : FnG false P w K mg base 4 g.f_law_are_histories g.d_law_are_histories ["begun", "calls"] (rw_law_are_histories K g) := by
  refine okZ T.f_law_are_histories sc_law_are_histories (fun vs H Q E h => h.1) (fun cdv A outer s H vs Q E hr hgu h => ⟨R_law_are_histories K g E, ?_, h.2⟩)
  exact (pss_cons (ps_set (i := 2) sc_law_are_histories.nd rfl (Or.inl rfl) pe_dnewK)
  (pss_cons (ps_lock (psz_for PassesOwn.leaving rfl (pi_keys (zv 0)) (pg_name (i := 3) sc_law_are_histories.nd rfl (Or.inl rfl))
  (pss_one (ps_dput (hu_of hr) (zv 2) (zv 3) (pe_dget (hu_of hr) (zv 0) (zv 3) (fun _ _ => rfl)) (by rfl)))))
  (pss_cons (ps_set (i := 4) sc_law_are_histories.nd rfl (Or.inl rfl) (pe_callTy call_listZ (by rfl) T.b_list (by decide +kernel) (pa_cons (zv 1) pa_nil)))
  (pss_cons (ps_set (i := 5) sc_law_are_histories.nd rfl (Or.inl rfl) (pe_lst (pa_cons (ClX.pe_cmeth (pe_glob rfl T.g_History rfl) T.cr_History T.cm_History_made ((ok_History_made T).raw T.e_History_made) (hr.mono (by decide)) passN (pa_cons (zv 2) (pa_cons (zv 4) pa_nil))) (pa_cons (ClX.pe_cmeth (pe_glob rfl T.g_History rfl) T.cr_History T.cm_History_made ((ok_History_made T).raw T.e_History_made) (hr.mono (by decide)) passN (pa_cons (zv 2) (pa_cons (pe_callTy call_tupZ (by rfl) T.b_tuple (by decide +kernel) (pa_cons (zv 4) pa_nil)) pa_nil))) pa_nil))))
  (pss_cons (ps_if (ptz_cmp (op_zEqE hr.units) (pe_callB call_lenZ (by rfl) T.b_len (by decide +kernel) (pa_cons (zv 4) pa_nil)) pe_int (nomark _))
  (pss_one (ps_expr (pe_bm PySem.F.plainAttrs_list PySem.F.slot_list_append PySem.F.type_list_append mt_append (zv 5) (pa_cons (StX.pe_makeR T.m_History (ok_History_init T) (hr.mono (by decide)) rfl T.g_History passN (pa_cons (zv 2) (pa_cons (pe_ix ix_z (zv 4) pe_int (fun _ _ => rfl)) (pa_cons (pe_ix ix_z (zv 4) pe_int (fun _ _ => rfl)) pa_nil)))) pa_nil))))
  pss_nil)
  (pss_cons (ps_if (ptz_cmp (op_zEqE hr.units) (zv 4) (pe_lst pa_nil) (nomark _))
  (pss_one (ps_expr (pe_bm PySem.F.plainAttrs_list PySem.F.slot_list_append PySem.F.type_list_append mt_append (zv 5) (pa_cons (StX.pe_makeR T.m_History (ok_History_init T) (hr.mono (by decide)) rfl T.g_History passN (pa_cons (zv 2) pa_nil)) pa_nil))))
  pss_nil)
  (pss_cons (ps_lock (psz_for PassesOwn.leaving rfl (pi_keys (zv 0)) (pg_name (i := 3) sc_law_are_histories.nd rfl (Or.inl rfl))
  (pss_one (ps_dput (hu_of hr) (zv 2) (zv 3) pe_int (by rfl)))))
  (pss_cons (ps_dput (hu_of hr) (zv 2) pe_str pe_int (by rfl))
  (pss_cons (ps_expr (pe_bm PySem.F.plainAttrs_list PySem.F.slot_list_append PySem.F.type_list_append mt_append (zv 4) (pa_cons pe_non pa_nil)))
  (pss_cons (psz_for PassesOwn.leaving rfl (pi_list (zv 5)) (pg_name (i := 6) sc_law_are_histories.nd rfl (Or.inl rfl))
  (pss_cons (ps_if (PW.pt (pw_or (pt_not (ptz_truth (pe_isi (kd := .dict) (pe_fld (zv 6) rfl) (by rfl) T.b_isinstance (by decide +kernel) (by rfl) T.b_dict (by decide +kernel)) (by intro _; rfl))) (pw_or (ptz_cmp (op_zNeE hr.units) (pe_fld (zv 6) rfl) (zv 0) (nomark _)) (pw_or1 (pt_not (ptz_truth (pe_isi (kd := .tuple) (pe_fld (zv 6) rfl) (by rfl) T.b_isinstance (by decide +kernel) (by rfl) T.b_tuple (by decide +kernel)) (by intro _; rfl)))))))
  (pss_one (ps_ret pe_bl))
  pss_nil)
  (pss_one (ps_if (ptz_cmp (op_zNeE hr.units) (pez_lc (own := [("call", 7)]) rfl sc_law_are_histories.nd (pi_tup (pe_fld (zv 6) rfl)) (blkOk_by (own := [("call", 7)]) (N := ["begun", "calls", "handed", "name", "row", "found", "one", "call"]) (sc := defScope s_law_are_histories) (by decide +kernel)) (fun _ _ _ _ _ => pg_name (i := 7) sc_law_are_histories.nd rfl (Or.inl rfl)) (fun _ _ _ _ _ => pts_nil) (fun _ _ _ _ _ => (pe_fld (zv 7) rfl))) (pez_lc (own := [("call", 7)]) rfl sc_law_are_histories.nd (pi_list (zv 1)) (blkOk_by (own := [("call", 7)]) (N := ["begun", "calls", "handed", "name", "row", "found", "one", "call"]) (sc := defScope s_law_are_histories) (by decide +kernel)) (fun _ _ _ _ _ => pg_name (i := 7) sc_law_are_histories.nd rfl (Or.inl rfl)) (fun _ _ _ _ _ => pts_nil) (fun _ _ _ _ _ => (pe_fld (zv 7) rfl))) (nomark _))
  (pss_one (ps_ret pe_bl))
  pss_nil))))
  (pss_one (ps_ret pe_bl))))))))))))
/-- a loop over a dict that fills another one -/
theorem lock_but {H H1 H' : Hp} {bd hd : Addr} {u : HO} {od : Obj} (s : Same H H1) (n : H hd = none) (e : H1 bd = some u) (b : But hd (upd H1 bd (.frz od u)) H') : Same H (upd H' bd u) := fun c o ec => by
  have hc : c ≠ hd := fun z => by rw [z, n] at ec; cases ec
  by_cases z : c = bd
  · subst z
    rw [upd_same]
    have := s _ _ ec
    rw [e] at this
    exact this
  · rw [upd_ne z]
    exact b _ _ (by rw [upd_ne z]; exact s _ _ ec) hc
/-- what is kept while a dict and a list are changed -/
def ButD (hd rw : Addr) (H H' : Hp) : Prop := ∀ b o, H b = some o → b ≠ hd → b ≠ rw → H' b = some o
theorem HisIn.but {g : Ads} {H H' : Hp} {o D hd rw : Addr} {gs : List (Str × V)} {xs ys : List V} {kvs : List (Key × V)} (h : HisIn g H o D gs xs) (b : ButD hd rw H H') (e1 : H hd = some (.dK kvs)) (e2 : H rw = some (.lst ys)) (n : D ≠ hd) : HisIn g H' o D gs xs := by
  obtain ⟨dx, ct, h1, h2, h3⟩ := h
  exact ⟨dx, ct, b _ _ h1 (fun z => by rw [z, e1] at h1; cases h1) (fun z => by rw [z, e2] at h1; cases h1), b _ _ h2 n (fun z => by rw [z, e2] at h2; cases h2), b _ _ h3 (fun z => by rw [z, e1] at h3; cases h3) (fun z => by rw [z, e2] at h3; cases h3)⟩
section
variable {K : PySem.W.Frag} {mg : Str → Option Value} {g : Ads} {H0 H H' : Hp} {bd cl hd rw F : Addr} {gs : List (Str × V)} {as : List (Addr × Str)} {os : List (Addr × Addr)} {E : XK} {D : Ends} {v3 v6 : Option V}
structure F34 (g : Ads) (H0 H : Hp) (bd cl : Addr) (gs : List (Str × V)) (as : List (Addr × Str)) (F : Addr) (os : List (Addr × Addr)) : Prop where
  s0 : Same H0 H
  eb : H bd = some (.dK (dks gs))
  nd : (gs.map (·.1)).Nodup
  lg : gs.length < 64
  pv : ∀ p ∈ gs, PV p.2
  ec : H cl = some (.lst (as.map fun a => V.ref a.1))
  ca : ClR g H as
  la : as.length ≤ 20
  eF : H F = some (.lst (os.map fun o => V.ref o.1))
  ho : ∀ o ∈ os, HisIn g H o.1 o.2 gs (as.map fun a => V.ref a.1)
theorem F34.same (c : F34 g H0 H bd cl gs as F os) (s : Same H H') : F34 g H0 H' bd cl gs as F os := ⟨c.s0.trans s, s _ _ c.eb, c.nd, c.lg, c.pv, s _ _ c.ec, c.ca.of fun b o e _ => s _ _ e, c.la, s _ _ c.eF, fun o h => (c.ho o h).same s⟩
theorem h14 (T : Txt K mg g) (c : F34 g H0 H bd cl gs as F os) (q : ∀ H', Same H0 H' → D.rt (.bl true) H') :
    R_law_are_histories_14 K g E D [some (.ref bd), some (.ref cl), some (.ref hd), v3, some (.ref rw), some (.ref F), v6, none] H := by
  refine ⟨F, rfl, ⟨_, SqL.of c.eF⟩, for_z (walk_list (xs := os.map fun o => V.ref o.1)) (fun i σ H' => F34 g H0 H' bd cl gs as F os ∧ ∃ v6, σ = [some (.ref bd), some (.ref cl), some (.ref hd), v3, some (.ref rw), some (.ref F), v6, none]) ⟨c, _, rfl⟩ (fun i σ H' _ h => SqL.of h.1.eF) ?_ ?_⟩
  · rintro i x σ H1 H1' hi ⟨c1, v6, rfl⟩ ⟨rfl, hx⟩
    rw [List.length_map] at hi
    have ex : x = .ref os[i].1 := by
      rw [List.getElem?_map, List.getElem?_eq_getElem hi] at hx
      exact (Option.some.inj hx).symm
    subst ex
    have h1 := c1.ho _ (List.getElem_mem hi)
    generalize os[i] = od at h1
    obtain ⟨o, Dd⟩ := od
    obtain ⟨dx, ct, e1, e2, e3⟩ := h1
    have fl : ∀ p ∈ dks gs, flatV p.2 = true := dks_flat fun p hp => (c1.pv p hp).flat
    have lx : ((as.map fun a => V.ref a.1)).length = as.length := List.length_map ..
    refine ⟨_, _, _, _, _, rfl, e1, T.cl_History, T.na_History_start, rfl, .dict, .inl ⟨_, e2⟩, zite (fun h => absurd h (by decide)) (fun _ => ?_)⟩
    refine ⟨_, _, _, _, _, rfl, e1, T.cl_History, T.na_History_start, rfl, .inr (.inr (.inl ⟨Dd, bd, dks gs, dks gs, rfl, rfl, .inl e2, .inl c1.eb, fl, fl, ?_⟩))⟩
    rw [dEq_true rfl fun p hp => ⟨by
      obtain ⟨j, hj, e⟩ := List.mem_iff_getElem.mp hp
      exact lk_at c1.nd (List.getElem?_eq_some_iff.mpr ⟨hj, e⟩), c1.pv p hp⟩]
    refine zite (fun h => absurd h (by decide)) (fun _ => ?_)
    refine ⟨_, _, _, _, _, rfl, e1, T.cl_History, T.na_History_calls, rfl, .tuple, ⟨_, SqT.of e3⟩, zite (fun h => absurd h (by decide)) (fun _ => ?_)⟩
    -- the handlers
    have hand : ∀ {i : Nat} {x : V} {H2 : Hp}, ClR g H2 as → i < (as.map fun a => V.ref a.1).length → (as.map fun a => V.ref a.1)[i]? = some x → ∃ a dx tp ty so fu te, x = .ref a ∧ H2 a = some (.ins g.c_Call dx (clF ((as.map (·.2)).getD i "") tp ty so fu te)) := fun {i x H2} hc hi hx => by
      rw [lx] at hi
      rw [List.getElem?_map, List.getElem?_eq_getElem hi] at hx
      obtain ⟨dx, tp, ty, so, fu, te, e⟩ := hc _ (List.getElem_mem hi)
      refine ⟨as[i].1, dx, tp, ty, so, fu, te, (Option.some.inj hx).symm, ?_⟩
      rw [List.getD_eq_getElem?_getD, List.getElem?_map, List.getElem?_eq_getElem hi]
      exact e
    have ml : (as.map fun a => V.ref a.1).length ≤ 20 := by rw [lx]; exact c1.la
    refine ⟨_, _, _, _, _, rfl, e1, T.cl_History, T.na_History_calls, rfl, ct, rfl, ⟨_, SqT.of e3⟩, lc_map (walk_tup (xs := as.map fun a => V.ref a.1)) (fun i => .str ((as.map (·.2)).getD i "")) (Nat.le_trans ml (by decide)) (fun H' s => SqT.of (s _ _ e3)) (fun i x Hf Hf' hi sf y => ?_) (fun A hA => ?_)⟩
    · obtain ⟨rfl, hx⟩ := y
      obtain ⟨a, dx2, tp, ty, so, fu, te, rfl, ea⟩ := hand (c1.ca.of fun b o e _ => sf _ _ e) hi hx
      exact ⟨rfl, _, fun R r => r, rfl, fun R r => r, fun R r => ⟨_, _, _, _, _, rfl, ea, T.cl_Call, T.na_Call_handler, rfl, r⟩⟩
    have sg := Same.put (o := .lst ((List.range (as.map fun a => V.ref a.1).length).map fun i => V.str ((as.map (·.2)).getD i ""))) hA
    have eA := upd_same (H := H1') (a := A) (o := .lst ((List.range (as.map fun a => V.ref a.1).length).map fun i => V.str ((as.map (·.2)).getD i "")))
    have c2 := c1.same sg
    generalize upd H1' A (.lst ((List.range (as.map fun a => V.ref a.1).length).map fun i => V.str ((as.map (·.2)).getD i ""))) = Hg at sg eA c2 ⊢
    refine ⟨cl, rfl, ⟨_, SqL.of c2.ec⟩, lc_map (walk_list (xs := as.map fun a => V.ref a.1)) (fun i => .str ((as.map (·.2)).getD i "")) (Nat.le_trans ml (by decide)) (fun H' s => SqL.of (s _ _ c2.ec)) (fun i x Hf Hf' hi sf y => ?_) (fun B hB => ?_)⟩
    · obtain ⟨rfl, hx⟩ := y
      obtain ⟨a, dx2, tp, ty, so, fu, te, rfl, ea⟩ := hand (c2.ca.of fun b o e _ => sf _ _ e) hi hx
      exact ⟨rfl, _, fun R r => r, rfl, fun R r => r, fun R r => ⟨_, _, _, _, _, rfl, ea, T.cl_Call, T.na_Call_handler, rfl, r⟩⟩
    have sh := Same.put (o := .lst ((List.range (as.map fun a => V.ref a.1).length).map fun i => V.str ((as.map (·.2)).getD i ""))) hB
    refine .inr (.inr (.inr (.inl ⟨A, B, _, rfl, rfl, SqL.of (sh _ _ eA), SqL.of upd_same, fun v hv => ?_, zite (fun h => absurd h (by decide)) (fun _ => ⟨c2.same sh, _, rfl⟩)⟩)))
    obtain ⟨j, _, rfl⟩ := List.mem_map.mp hv
    exact .inr (.inr (.inr (.inl ⟨_, rfl⟩)))
  · rintro σ H1 ⟨c1, v6, rfl⟩
    exact q _ c1.s0
end
end Z
namespace Z
open PySem PySem.Spec PyProof.Rows L2
open LamX (CodeO Tabs TabS TabB ExtN GivesTo tLam lamCx lamEnv LamS lamS_by)
theorem lock_but2 {H H' : Hp} {bd hd : Addr} {u : HO} {od : Obj} (e : H bd = some u) (b : But hd (upd H bd (.frz od u)) H') : But hd H (upd H' bd u) := fun c o ec nc => by
  by_cases z : c = bd
  · subst z
    rw [upd_same]
    rw [e] at ec
    exact ec
  · rw [upd_ne z]
    exact b _ _ (by rw [upd_ne z]; exact ec) nc
theorem HisIn.butL {g : Ads} {H H' : Hp} {o D F : Addr} {gs : List (Str × V)} {xs ys : List V} (h : HisIn g H o D gs xs) (b : But F H H') (e : H F = some (.lst ys)) : HisIn g H' o D gs xs := by
  obtain ⟨dx, ct, h1, h2, h3⟩ := h
  exact ⟨dx, ct, b _ _ h1 (fun z => by rw [z, e] at h1; cases h1), b _ _ h2 (fun z => by rw [z, e] at h2; cases h2), b _ _ h3 (fun z => by rw [z, e] at h3; cases h3)⟩
section
variable {K : PySem.W.Frag} {mg : Str → Option Value} {g : Ads} {H0 H H' : Hp} {bd cl hd rw F : Addr} {gs : List (Str × V)} {as : List (Addr × Str)} {os : List (Addr × Addr)} {E : XK} {D : Ends} {v3 v5 v6 : Option V}
structure G34 (g : Ads) (H0 H : Hp) (bd cl hd rw : Addr) (gs : List (Str × V)) (as : List (Addr × Str)) (F : Addr) (os : List (Addr × Addr)) : Prop where
  c : F34 g H0 H bd cl gs as F os
  eh : H hd = some (.dK (dks gs))
  er : H rw = some (.lst (as.map fun a => V.ref a.1))
  nh : H0 hd = none
  nr : H0 rw = none
  nF : H0 F = none
  hF : F ≠ rw
  b0 : H0 bd = some (.dK (dks gs))
  c0 : H0 cl = some (.lst (as.map fun a => V.ref a.1))
  od : ∀ o ∈ os, o.2 ≠ hd
  lo : os.length ≤ 8
theorem G34.same (k : G34 g H0 H bd cl hd rw gs as F os) (s : Same H H') : G34 g H0 H' bd cl hd rw gs as F os := ⟨k.c.same s, s _ _ k.eh, s _ _ k.er, k.nh, k.nr, k.nF, k.hF, k.b0, k.c0, k.od, k.lo⟩
theorem G34.app (k : G34 g H0 H bd cl hd rw gs as F os) {o : Addr × Addr} (h : HisIn g H o.1 o.2 gs (as.map fun a => V.ref a.1)) (n : o.2 ≠ hd) (l : os.length ≤ 7) : G34 g H0 (upd H F (.lst ((os ++ [o]).map fun o => V.ref o.1))) bd cl hd rw gs as F (os ++ [o]) := by
  have b : But F H (upd H F (.lst ((os ++ [o]).map fun o => V.ref o.1))) := But.put
  have eF := k.c.eF
  have nb : bd ≠ F := fun z => by have := k.b0; rw [z, k.nF] at this; cases this
  have nc : cl ≠ F := fun z => by have := k.c0; rw [z, k.nF] at this; cases this
  refine ⟨⟨fun x u e => b _ _ (k.c.s0 _ _ e) (ne_of_none e k.nF), b _ _ k.c.eb nb, k.c.nd, k.c.lg, k.c.pv, b _ _ k.c.ec nc, k.c.ca.of fun x u e ⟨C, dx, fs, eu⟩ => b _ _ e (fun z => by rw [z, eF, eu] at e; cases e), k.c.la, upd_same, fun p hp => ?_⟩, b _ _ k.eh fun z => ?_, b _ _ k.er k.hF.symm, k.nh, k.nr, k.nF, k.hF, k.b0, k.c0, fun p hp => ?_, ?_⟩
  · rcases List.mem_append.mp hp with h' | h'
    · exact (k.c.ho p h').butL b eF
    · rw [List.mem_singleton.mp h']
      exact h.butL b eF
  · have := k.eh
    rw [z, eF] at this
    cases this
  · rcases List.mem_append.mp hp with h' | h'
    · exact k.od p h'
    · rw [List.mem_singleton.mp h']
      exact n
  · rw [List.length_append]
    show os.length + 1 ≤ 8
    omega
theorem h10 (T : Txt K mg g) (k : G34 g H0 H bd cl hd rw gs as F os) (q : ∀ H', Same H0 H' → D.rt (.bl true) H') :
    R_law_are_histories_10 K g E D [some (.ref bd), some (.ref cl), some (.ref hd), v3, some (.ref rw), some (.ref F), v6, none] H := by
  have nbd : bd ≠ hd := fun z => by have := k.b0; rw [z, k.nh] at this; cases this
  refine ⟨bd, .dK (dks gs), k.c.eb, trivial, fun od => ⟨bd, od, rfl, .inl ⟨dks gs, upd_same, for_z walk_keys (fun i σ H' => But hd (upd H bd (.frz od (.dK (dks gs)))) H' ∧ (∃ kvs, H' hd = some (.dK kvs) ∧ kvs.length ≤ 64 + i) ∧ ∃ v3, σ = [some (.ref bd), some (.ref cl), some (.ref hd), v3, some (.ref rw), some (.ref F), v6, none])
    ⟨But.refl _ _, ⟨dks gs, by rw [upd_ne nbd.symm]; exact k.eh, by rw [dks_len]; have := k.c.lg; omega⟩, _, rfl⟩ (fun i σ H' _ h => h.1 _ _ upd_same nbd) ?_ ?_⟩⟩⟩
  · rintro i x σ H1 H1' hi ⟨b1, ⟨kvs, e1, l1⟩, v3, rfl⟩ ⟨rfl, kk, v, hk, rfl⟩
    obtain ⟨n, rfl, hn⟩ := dks_get hk
    have hi2 : i < 64 := by rw [dks_len] at hi; have := k.c.lg; omega
    refine ⟨hd, _, rfl, .inl ⟨kvs, .inr n, e1, rfl, Nat.lt_of_le_of_lt (show kvs.length ≤ 128 by omega) (by decide), rfl⟩, b1.trans But.put, ⟨_, upd_same, Nat.le_trans (length_putK _ _ _) (by omega)⟩, _, rfl⟩
  · rintro σ H1 ⟨b1, ⟨kvs, e1, l1⟩, v3, rfl⟩
    refine ⟨b1 _ _ upd_same nbd, ?_⟩
    have b2 := lock_but2 k.c.eb b1
    have e2 : (upd H1 bd (.dK (dks gs))) hd = some (.dK kvs) := by rw [upd_ne nbd.symm]; exact e1
    generalize upd H1 bd (.dK (dks gs)) = H2 at b2 e2 ⊢
    rw [dks_len] at l1
    have hl2 : kvs.length ≤ 128 := by have := k.c.lg; omega
    refine ⟨hd, _, rfl, .inl ⟨kvs, .inr "later", e2, rfl, Nat.lt_of_le_of_lt hl2 (by decide), rfl⟩, ?_⟩
    have b3 : But hd H (upd H2 hd (.dK (putK kvs (.inr "later") (.int 3)))) := b2.trans But.put
    have e3 := upd_same (H := H2) (a := hd) (o := .dK (putK kvs (.inr "later") (.int 3)))
    generalize upd H2 hd (.dK (putK kvs (.inr "later") (.int 3))) = H3 at b3 e3 ⊢
    have nrh : rw ≠ hd := fun z => by have := k.er; rw [z, k.eh] at this; cases this
    have nFh : F ≠ hd := fun z => by have := k.c.eF; rw [z, k.eh] at this; cases this
    have er3 := b3 _ _ k.er nrh
    have la := k.c.la
    refine ⟨.inl ⟨rfl, _, SqL.of er3⟩, rw, _, _, rfl, rfl, er3, ?_, ?_⟩
    · rw [List.length_map]
      exact Nat.lt_of_le_of_lt la (by decide)
    have b4 : ButD hd rw H (upd H3 rw (.lst ((as.map fun a => V.ref a.1) ++ [.non]))) := fun c o e n1 n2 => by rw [upd_ne n2]; exact b3 _ _ e n1
    generalize upd H3 rw (.lst ((as.map fun a => V.ref a.1) ++ [.non])) = H4 at b4 ⊢
    have nb : bd ≠ rw := fun z => by have := k.b0; rw [z, k.nr] at this; cases this
    have nch : cl ≠ hd := fun z => by have := k.c0; rw [z, k.nh] at this; cases this
    have nc : cl ≠ rw := fun z => by have := k.c0; rw [z, k.nr] at this; cases this
    exact h14 T ⟨fun x u e => b4 _ _ (k.c.s0 _ _ e) (ne_of_none e k.nh) (ne_of_none e k.nr), b4 _ _ k.c.eb nbd nb, k.c.nd, k.c.lg, k.c.pv, b4 _ _ k.c.ec nch nc, k.c.ca.of fun x u e ⟨C, dx, fs, eu⟩ => b4 _ _ e (fun z => by rw [z, k.eh, eu] at e; cases e) (fun z => by rw [z, k.er, eu] at e; cases e), la, b4 _ _ k.c.eF nFh k.hF, fun p hp => (k.c.ho p hp).but b4 k.eh k.er (k.od p hp)⟩ q
theorem h8 (T : Txt K mg g) (k : G34 g H0 H bd cl hd rw gs as F os) (l : os.length ≤ 7) (q : ∀ H', Same H0 H' → D.rt (.bl true) H') :
    R_law_are_histories_8 K g E D [some (.ref bd), some (.ref cl), some (.ref hd), v3, some (.ref rw), some (.ref F), v6, none] H := by
  refine ⟨(by decide : 0 ≤ sizeLine), fun n hn => .inl ⟨rw, n, _, rfl, rfl, SqL.of (Same.put hn _ _ k.er), SqL.of upd_same, ?_⟩⟩
  have k1 := k.same (Same.put (o := .lst []) hn)
  generalize upd H n (.lst []) = H1 at k1 ⊢
  refine zite (fun he => ?_) (fun _ => h10 T k1 q)
  have ha : as = [] := by
    cases as with
    | nil => rfl
    | cons x r => cases he
  have lg := k.c.lg
  refine ⟨.inl ⟨rfl, _, SqL.of k1.c.eF⟩, history_new (xs := ([] : List V)) k1.eh k1.c.nd (by omega) (by decide) (fun H2 o D2 s2 ho hD his => ?_)⟩
  have k2 := k1.same s2
  have his' : HisIn g H2 o D2 gs (as.map fun a => V.ref a.1) := by rw [ha]; exact his
  have nD : D2 ≠ hd := fun z => by rw [z, k1.eh] at hD; cases hD
  refine ⟨F, _, _, rfl, rfl, k2.c.eF, ?_, ?_⟩
  · rw [List.length_map]
    exact Nat.lt_of_le_of_lt l (by decide)
  have k3 := k2.app (o := (o, D2)) his' nD l
  rw [List.map_append] at k3
  exact h10 T k3 q
theorem h6 (T : Txt K mg g) (k : G34 g H0 H bd cl hd rw gs as F os) (l : os.length ≤ 6) (q : ∀ H', Same H0 H' → D.rt (.bl true) H') :
    R_law_are_histories_6 K g E D [some (.ref bd), some (.ref cl), some (.ref hd), v3, some (.ref rw), some (.ref F), v6, none] H := by
  have lg := k.c.lg
  refine ⟨_, .inl (SqL.of k.er), .inr (.inr (.inr (.inl ⟨rfl, zite (fun he => ?_) (fun _ => h8 T k (by omega) q)⟩)))⟩
  have h2 : as.length = 2 := by
    have := of_decide_eq_true he
    injection this with this
    rw [List.length_map] at this
    omega
  obtain ⟨x, y, rfl⟩ : ∃ x y, as = [x, y] := by
    match as, h2 with
    | [a, b], _ => exact ⟨a, b, rfl⟩
  refine ⟨.inl ⟨rfl, _, SqL.of k.c.eF⟩, _, _, .inl (SqL.of k.er), atI_nat (j := 0) rfl, _, _, .inl (SqL.of k.er), atI_nat (j := 1) rfl, history_new (xs := [.ref x.1, .ref y.1]) k.eh k.c.nd (by omega) (show 2 ≤ 1000 by decide) (fun H2 o D2 s2 ho hD his => ?_)⟩
  have k2 := k.same s2
  have nD : D2 ≠ hd := fun z => by have := k.eh; rw [z] at hD; rw [hD] at this; cases this
  refine ⟨F, _, _, rfl, rfl, k2.c.eF, ?_, ?_⟩
  · rw [List.length_map]
    exact Nat.lt_of_le_of_lt l (by decide)
  have k3 := k2.app (o := (o, D2)) his nD (by omega)
  have l3 : (os ++ [(o, D2)]).length ≤ 7 := by
    rw [List.length_append]
    show os.length + 1 ≤ 7
    omega
  rw [List.map_append] at k3
  exact h8 T k3 l3 q
end
theorem pf_law_are_histories {K : PySem.W.Frag} {mg : Str → Option Value} {g : Ads} (T : Txt K mg g) (us : List V) (H : Hp) (Q : VK) (E : XK) (h : sp_law_are_histories K g us H Q E) : rw_law_are_histories K g us H Q E := by
  obtain ⟨bd, cl, gs, as, rfl, hb, nd, lg, pv, hc, ca, la, q⟩ := h
  refine ⟨rfl, fun hd hhd => ?_⟩
  have s1 := Same.put (o := .dK []) hhd
  have e1 := upd_same (H := H) (a := hd) (o := .dK [])
  show R_law_are_histories_2 K g E { nx := fun _ H' => Q .non H', rt := Q } [some (.ref bd), some (.ref cl), some (.ref hd), none, none, none, none, none] (upd H hd (.dK []))
  generalize upd H hd (.dK []) = H1 at s1 e1 ⊢
  have nbd : bd ≠ hd := ne_of_none hb hhd
  have hb1 := s1 _ _ hb
  refine ⟨bd, .dK (dks gs), hb1, trivial, fun od => ⟨bd, od, rfl, .inl ⟨dks gs, upd_same, for_z walk_keys (fun i σ H' => But hd (upd H1 bd (.frz od (.dK (dks gs)))) H' ∧ H' hd = some (.dK (dks (gs.take i))) ∧ ∃ v3, σ = [some (.ref bd), some (.ref cl), some (.ref hd), v3, none, none, none, none])
    ⟨But.refl _ _, by rw [upd_ne nbd.symm]; exact e1, _, rfl⟩ (fun i σ H' _ h => h.1 _ _ upd_same nbd) ?_ ?_⟩⟩⟩
  · rintro i x σ H2 H2' hi ⟨b2, e2, v3, rfl⟩ ⟨rfl, kk, v, hk, rfl⟩
    obtain ⟨n, rfl, hn⟩ := dks_get hk
    refine ⟨bd, v, rfl, .inl ⟨dks gs, .inr n, .inr ⟨od, b2 _ _ upd_same nbd⟩, rfl, (lk_at nd hn).symm⟩, hd, _, rfl, .inl ⟨_, .inr n, e2, rfl, ?_, rfl⟩, b2.trans But.put, ?_, _, rfl⟩
    · rw [dks_len, List.length_take]
      exact Nat.lt_of_le_of_lt (show _ ≤ 64 by omega) (by decide)
    · rw [upd_same, dks_take nd hn]
  · rintro σ H2 ⟨b2, e2, v3, rfl⟩
    refine ⟨b2 _ _ upd_same nbd, ?_⟩
    rw [dks_len, List.take_length] at e2
    have b3 := lock_but2 hb1 b2
    have e3 : (upd H2 bd (.dK (dks gs))) hd = some (.dK (dks gs)) := by rw [upd_ne nbd.symm]; exact e2
    generalize upd H2 bd (.dK (dks gs)) = H3 at b3 e3 ⊢
    have s3 : Same H H3 := fun c o e => b3 _ _ (s1 _ _ e) (ne_of_none e hhd)
    refine ⟨_, .inl (SqL.of (s3 _ _ hc)), fun rw hrw => ?_⟩
    have s4 := Same.put (o := .lst (as.map fun a => V.ref a.1)) hrw
    have e4 := upd_same (H := H3) (a := rw) (o := .lst (as.map fun a => V.ref a.1))
    have nr : H rw = none := s3.free hrw
    show R_law_are_histories_5 K g E { nx := fun _ H' => Q .non H', rt := Q } [some (.ref bd), some (.ref cl), some (.ref hd), v3, some (.ref rw), none, none, none] (upd H3 rw (.lst (as.map fun a => V.ref a.1)))
    generalize upd H3 rw (.lst (as.map fun a => V.ref a.1)) = H4 at s4 e4 ⊢
    have lx : (as.map fun a => V.ref a.1).length ≤ 1000 := by rw [List.length_map]; omega
    refine ⟨rfl, hd, rw, gs, _, rfl, s4 _ _ e3, .inr (SqL.of e4), nd, by omega, lx, fun H5 o1 D1 s5 n1 m1 his1 => ⟨rfl, _, .inl ⟨SqL.of (s5 _ _ e4), fun l hl => ?_⟩⟩⟩
    have s6 := Same.put (o := .tup (as.map fun a => V.ref a.1)) hl
    have e6 := upd_same (H := H5) (a := l) (o := .tup (as.map fun a => V.ref a.1))
    generalize upd H5 l (.tup (as.map fun a => V.ref a.1)) = H6 at s6 e6 ⊢
    have eh6 := s6 _ _ (s5 _ _ (s4 _ _ e3))
    refine ⟨hd, l, gs, _, rfl, eh6, .inl (SqT.of e6), nd, by omega, lx, fun H7 o2 D2 s7 n2 m2 his2 => ⟨(by decide : 2 ≤ sizeLine), fun F hF => ?_⟩⟩
    have s8 := Same.put (o := .lst [.ref o1, .ref o2]) hF
    have e8 := upd_same (H := H7) (a := F) (o := .lst [.ref o1, .ref o2])
    have nFr : F ≠ rw := fun z => by rw [z, s7 _ _ (s6 _ _ (s5 _ _ e4))] at hF; cases hF
    have s48 := (((s4.trans s5).trans s6).trans s7)
    have nF : H F = none := (s3.trans s48).free hF
    generalize upd H7 F (.lst [.ref o1, .ref o2]) = H8 at s8 e8 ⊢
    have sA := (s3.trans s48).trans s8
    have nD1 : D1 ≠ hd := fun z => by rw [z, s4 _ _ e3] at m1; cases m1
    have nD2 : D2 ≠ hd := fun z => by rw [z, eh6] at m2; cases m2
    refine h6 (os := [(o1, D1), (o2, D2)]) T ⟨⟨sA, sA _ _ hb, nd, lg, pv, sA _ _ hc, ca.of fun b o e _ => sA _ _ e, la, e8, fun p hp => ?_⟩, s8 _ _ (s7 _ _ eh6), s8 _ _ (s7 _ _ (s6 _ _ (s5 _ _ e4))), hhd, nr, nF, nFr, hb, hc, fun p hp => ?_, (by decide : 2 ≤ 8)⟩ (by decide : 2 ≤ 6) q
    · simp only [List.mem_cons, List.not_mem_nil, or_false] at hp
      rcases hp with rfl | rfl
      · exact his1.same ((s6.trans s7).trans s8)
      · exact his2.same s8
    · simp only [List.mem_cons, List.not_mem_nil, or_false] at hp
      rcases hp with rfl | rfl
      · exact nD1
      · exact nD2
theorem ok_law_are_histories {P : Program} {w : World} {K : PySem.W.Frag} {mg : Str → Option Value} {base : Heap} {g : Ads} (T : Txt K mg g) : FnG false P w K mg base 4 g.f_law_are_histories g.d_law_are_histories ["begun", "calls"] (sp_law_are_histories K g) := (raw_law_are_histories T).imp (pf_law_are_histories T)
end Z
namespace Z
open PySem PySem.Spec PyProof.Rows L2
open LamX (CodeO Tabs TabS TabB ExtN GivesTo tLam lamCx lamEnv LamS lamS_by)
theorem stK_pv {cs ps : List Str} {gs : List (Str × V)} (h : ∀ x ∈ gs, PV x.2) : ∀ x ∈ stK cs ps gs, PV x.2 := fun x hx => by
  obtain ⟨n, _, rfl⟩ := List.mem_map.mp hx
  show PV ((lk gs n).getD _)
  cases e : lk gs n with
  | some v => exact h _ (lk_mem e)
  | none =>
    show PV (if n ∈ cs then .int 0 else .non)
    split
    · exact .inr ⟨0, rfl⟩
    · exact .inl rfl
theorem stK_len {cs ps : List Str} {gs : List (Str × V)} : (stK cs ps gs).length = ps.length := by
  unfold stK
  rw [List.length_map]
/-! ### dicts by texts, put and dropped -/
def putS (gs : List (Str × V)) (n : Str) (v : V) : List (Str × V) := if (gs.any fun p => decide (p.1 = n)) = true then gs.map (fun p => if p.1 = n then (p.1, v) else p) else gs ++ [(n, v)]
def dropS (gs : List (Str × V)) (n : Str) : List (Str × V) := gs.filter fun p => decide (p.1 ≠ n)
theorem dks_put (gs : List (Str × V)) (n : Str) (v : V) : putK (dks gs) (.inr n) v = dks (putS gs n v) := by
  have e : ∀ p : Str × V, decide ((Sum.inr p.1 : Key) = .inr n) = decide (p.1 = n) := fun p => by
    by_cases h : p.1 = n
    · simp [h]
    · have : ¬ (Sum.inr p.1 : Key) = .inr n := fun z => h (by injection z)
      simp [h]
  have a : ((dks gs).any fun kv => decide (kv.1 = .inr n)) = gs.any fun p => decide (p.1 = n) := by
    unfold dks
    rw [List.any_map]
    congr 1
    funext p
    exact e p
  unfold putK putS
  rw [a]
  by_cases h : (gs.any fun p => decide (p.1 = n)) = true
  · rw [if_pos h, if_pos h]
    unfold dks
    rw [List.map_map, List.map_map]
    congr 1
    funext p
    by_cases hp : p.1 = n
    · simp [hp]
    · have : ¬ (Sum.inr p.1 : Key) = .inr n := fun z => hp (by injection z)
      simp [hp]
  · rw [if_neg h, if_neg h]
    simp [dks]
theorem dks_drop (gs : List (Str × V)) (n : Str) : dropK (dks gs) (.inr n) = dks (dropS gs n) := by
  unfold dropK dropS dks
  rw [List.filter_map]
  congr 1
  congr 1
  funext p
  by_cases h : p.1 = n
  · simp [h]
  · have : ¬ (Sum.inr p.1 : Key) = .inr n := fun z => h (by injection z)
    simp [h]
theorem putS_keys (gs : List (Str × V)) (n : Str) (v : V) : (putS gs n v).map (·.1) = if n ∈ gs.map (·.1) then gs.map (·.1) else gs.map (·.1) ++ [n] := by
  unfold putS
  by_cases h : n ∈ gs.map (·.1)
  · have a : (gs.any fun p => decide (p.1 = n)) = true := by
      obtain ⟨p, hp, e⟩ := List.mem_map.mp h
      exact List.any_eq_true.mpr ⟨p, hp, decide_eq_true e⟩
    rw [if_pos a, if_pos h, List.map_map]
    congr 1
    funext p
    by_cases hp : p.1 = n <;> simp [hp]
  · have a : ¬ (gs.any fun p => decide (p.1 = n)) = true := fun z => by
      obtain ⟨p, hp, e⟩ := List.any_eq_true.mp z
      exact h (List.mem_map.mpr ⟨p, hp, of_decide_eq_true e⟩)
    rw [if_neg a, if_neg h, List.map_append]
    rfl
theorem putS_nodup {gs : List (Str × V)} (n : Str) (v : V) (h : (gs.map (·.1)).Nodup) : ((putS gs n v).map (·.1)).Nodup := by
  rw [putS_keys]
  split
  · exact h
  · rename_i hn
    rw [List.nodup_append]
    exact ⟨h, by simp, fun a ha b hb e => hn (by rw [← List.mem_singleton.mp hb, ← e]; exact ha)⟩
theorem putS_key {gs : List (Str × V)} {n z : Str} {v : V} : z ∈ (putS gs n v).map (·.1) ↔ z ∈ gs.map (·.1) ∨ z = n := by
  rw [putS_keys]
  split
  · rename_i hn
    exact ⟨.inl, fun h => h.elim id fun e => e ▸ hn⟩
  · rw [List.mem_append, List.mem_singleton]
theorem putS_mem {gs : List (Str × V)} {n : Str} {v : V} {x : Str × V} (h : x ∈ putS gs n v) : x ∈ gs ∨ x = (n, v) := by
  unfold putS at h
  split at h
  · obtain ⟨p, hp, rfl⟩ := List.mem_map.mp h
    by_cases e : p.1 = n
    · rw [if_pos e]
      exact .inr (by rw [e])
    · rw [if_neg e]
      exact .inl hp
  · rcases List.mem_append.mp h with h | h
    · exact .inl h
    · exact .inr (List.mem_singleton.mp h)
theorem putS_len (gs : List (Str × V)) (n : Str) (v : V) : (putS gs n v).length ≤ gs.length + 1 := by
  unfold putS
  split
  · rw [List.length_map]
    omega
  · rw [List.length_append]
    exact Nat.le_refl _
/-! ### what stays but dicts -/
def ExtD (H H' : Hp) : Prop := ∀ b o, H b = some o → (∀ x, o ≠ .dK x) → H' b = some o
theorem ExtD.but {H H' : Hp} {B : Addr} {kvs : List (Key × V)} (b : But B H H') (e : H B = some (.dK kvs)) : ExtD H H' := fun c o ec n => b c o ec fun z => by
  rw [z, e] at ec
  injection ec with ec
  exact n _ ec.symm
theorem ExtD.tup {K : PySem.W.Frag} {H H' : Hp} {a : Addr} {xs : List V} (s : ExtD H H') (h : SqT K H a xs) : SqT K H' a xs := by
  rcases h with (h | ⟨q, h⟩) | h
  · exact .inl (.inl (s _ _ h (by simp)))
  · exact .inl (.inr ⟨q, s _ _ h (by simp)⟩)
  · exact .inr h
theorem SvAt.extD {K : PySem.W.Frag} {g : Ads} {H H' : Hp} {o : Addr} {vc vs vl vf : List V} {hs : List (Addr × Str)} (s : ExtD H H') (h : SvAt K g H o vc vs vl vf hs) : SvAt K g H' o vc vs vl vf hs := by
  obtain ⟨dx, ht, c, so, l, f, pl, cn, h1, h2, h3, h4, h5, h6, h7, h8⟩ := h
  exact ⟨dx, ht, c, so, l, f, pl, cn, s _ _ h1 (by simp), s.tup h2, s.tup h3, s.tup h4, s.tup h5, s.tup h6, s.tup h7, s.tup h8⟩
theorem Tabs.butK {T : List (Addr × Str)} {H H' : Hp} (t : Tabs T H) {B : Addr} {kvs : List (Key × V)} (b : But B H H') (e : H B = some (.dK kvs)) : Tabs T H' := fun q hq => by
  obtain ⟨ps, h1, h2, h3⟩ := t q hq
  have s := ExtD.but b e
  refine ⟨ps, s _ _ h1 (by simp), h2, fun pos cv hc => ?_⟩
  obtain ⟨c, ec, hc2⟩ := h3 pos cv hc
  exact ⟨c, ec, s _ _ hc2 (by unfold CodeO; simp)⟩
theorem sc_law : FnScope ["script", "at", "draws", "world", "service", "wrong", "left", "begun", "expected", "name", "due", "calls", "twin", "bare", "zeros", "turn"] ["script"] (defScope s_law) := ⟨rfl, rfl, rfl, by decide +kernel, rfl, by decide +kernel, by decide +kernel⟩
def R_law_8 (K : PySem.W.Frag) (g : Ads) (E : XK) : TS :=
  (sDPut (zVar 7) (tBM K "list" rPopAt (zVar 6) (tCons (zCall (sp_law_draw K g) [] (WE (fun cls d _ H => E cls d H)) (tCons (zVar 2) (tCons (tCB (zLen K) (tCons (zVar 6) tNil)) tNil))) tNil)) (zCall (sp_law_value K g) [] (WE (fun cls d _ H => E cls d H)) (tCons (zVar 2) tNil)))
def R_law_13 (K : PySem.W.Frag) (g : Ads) (E : XK) : TS :=
  (tDrop (tDPop2 (zVar 7) (zVar 9) (tC .non)))
def R_law_16 (K : PySem.W.Frag) (g : Ads) (E : XK) : TS :=
  (sDPut (zVar 10) (zVar 9) (tDGet2 (zVar 7) (zVar 9) (tIf (zTest (tOp (zIn K) (zVar 9) (tOp (zIx K) (zVar 3) (tC (.int 0))))) (tC (.int 0)) (tC .non))))
def R_law_26 (K : PySem.W.Frag) (g : Ads) (E : XK) : TS :=
  (sDPut (zVar 14) (zVar 9) (tIf (zTest (tOp (zIn K) (zVar 9) (tOp (zIx K) (zVar 3) (tC (.int 0))))) (tC (.int 0)) (tC .non)))
def R_law_27 (K : PySem.W.Frag) (g : Ads) (E : XK) : TS :=
  (tIfS (tOr (tNot (zTru K (zCall (sp_law_is_begun K g) [] (WE (fun cls d _ H => E cls d H)) (tCons (zVar 12) (tCons (zVar 4) (tCons (zVar 10) tNil)))))) (tNot (zTru K (zCall (sp_law_is_begun K g) [] (WE (fun cls d _ H => E cls d H)) (tCons (zVar 13) (tCons (zVar 4) (tCons (zVar 14) tNil)))))))
  (tRet (tC (.bl false)))
  tNext)
def R_law_25 (K : PySem.W.Frag) (g : Ads) (E : XK) : TS :=
  (tSeq (tLock (zFor (iKeys (zVar 10)) (gName 9)
  (R_law_26 K g E)))
  (R_law_27 K g E))
def R_law_24 (K : PySem.W.Frag) (g : Ads) (E : XK) : TS :=
  (tSeq (tAsg tDNewK (gName 14))
  (R_law_25 K g E))
def R_law_22 (K : PySem.W.Frag) (g : Ads) (E : XK) : TS :=
  (tSeq (zFor (iList K (tOp (zIx K) (zVar 3) (tC (.int 0)))) (gName 9)
  (sDPut (zVar 7) (zVar 9) (tC (.int 5))))
  (R_law_24 K g E))
def R_law_21 (K : PySem.W.Frag) (g : Ads) (E : XK) : TS :=
  (tSeq (tAsg (tIf (zTest (tOp (zEqE K) (zCall (sp_law_draw K g) [] (WE (fun cls d _ H => E cls d H)) (tCons (zVar 2) (tCons (tC (.int 2)) tNil))) (tC (.int 0)))) (zMake g.c_Twin (sp_Twin_init K g) [] (WE (fun cls d _ H => E cls d H)) (tCons (zVar 4) (tCons tDNewK tNil))) (zMake g.c_Twin (sp_Twin_init K g) [] (WE (fun cls d _ H => E cls d H)) (tCons (zVar 4) (tCons (tC .non) tNil)))) (gName 13))
  (R_law_22 K g E))
def R_law_20 (K : PySem.W.Frag) (g : Ads) (E : XK) : TS :=
  (tSeq (tAsg (tIf (zTest (tOp (zEqE K) (zVar 7) tDNewK)) (zMake g.c_Twin (sp_Twin_init K g) [.non] (WE (fun cls d _ H => E cls d H)) (tCons (zVar 4) tNil)) (zMake g.c_Twin (sp_Twin_init K g) [] (WE (fun cls d _ H => E cls d H)) (tCons (zVar 4) (tCons (zVar 7) tNil)))) (gName 12))
  (R_law_21 K g E))
def R_law_18 (K : PySem.W.Frag) (g : Ads) (E : XK) : TS :=
  (tSeq (tIfS (tNot (zTru K (zCall (sp_law_are_histories K g) [] (WE (fun cls d _ H => E cls d H)) (tCons (zVar 7) (tCons (zVar 11) tNil)))))
  (tRet (tC (.bl false)))
  tNext)
  (R_law_20 K g E))
def R_law_17 (K : PySem.W.Frag) (g : Ads) (E : XK) : TS :=
  (tSeq (tAsg (zLc (iList K (zCall (sp_law_drawn_names K g) [] (WE (fun cls d _ H => E cls d H)) (tCons (zVar 2) (tCons (zCall (sp_law_draw K g) [] (WE (fun cls d _ H => E cls d H)) (tCons (zVar 2) (tCons (tC (.int 6)) tNil))) tNil)))) (gName 9) tYes (zMakeK g.c_Call 1 0 (sp_Call_init K g) (fun us _ => us ++ [.non, .ref g.t_Call_init_fails, .non, .non, .non]) (fun _ => E0) (tCons (zVar 9) tNil) tNil) [9]) (gName 11))
  (R_law_18 K g E))
def R_law_15 (K : PySem.W.Frag) (g : Ads) (E : XK) : TS :=
  (tSeq (zFor (iList K (tOp zAdd (tOp zAdd (tOp (zIx K) (zVar 3) (tC (.int 0))) (tOp (zIx K) (zVar 3) (tC (.int 2)))) (tOp (zIx K) (zVar 3) (tC (.int 3))))) (gName 9)
  (R_law_16 K g E))
  (R_law_17 K g E))
def R_law_14 (K : PySem.W.Frag) (g : Ads) (E : XK) : TS :=
  (tSeq (tAsg tDNewK (gName 10))
  (R_law_15 K g E))
def R_law_12 (K : PySem.W.Frag) (g : Ads) (E : XK) : TS :=
  (tSeq (zFor (iList K (zVar 5)) (gName 9)
  (R_law_13 K g E))
  (R_law_14 K g E))
def R_law_10 (K : PySem.W.Frag) (g : Ads) (E : XK) : TS :=
  (tSeq (tIfS (zTest (tOp (zNeE K) (tLam [(g.tb_law, "law.<locals>.<lambda>")] (TT_law_error K g "law.<locals>.<lambda>") (fun Eb => (zMake g.c_Twin (sp_Twin_init K g) [] (WE (fun cls d _ H => Eb cls d H)) (tCons (zVar 4) (tCons (zVar 7) tNil))))) (zVar 8)))
  (tRet (tC (.bl false)))
  tNext)
  (R_law_12 K g E))
def R_law_9 (K : PySem.W.Frag) (g : Ads) (E : XK) : TS :=
  (tSeq (tAsg (tIf (zTest (tOp (zNeE K) (zVar 5) (tLst tNil))) (tTup (tCons (tCB (rMinS K) (tCons (zVar 5) tNil)) (tCons (tC (.bl true)) tNil))) (tTup tNil)) (gName 8))
  (R_law_10 K g E))
def R_law_7 (K : PySem.W.Frag) (g : Ads) (E : XK) : TS :=
  (tSeq (tWhile (zTest (tOp (zNeE K) (zVar 6) (tLst tNil)))
  (R_law_8 K g E))
  (R_law_9 K g E))
def R_law_6 (K : PySem.W.Frag) (g : Ads) (E : XK) : TS :=
  (tSeq (tAsg (tTup (tCons (tOp zAdd (zLc (iList K (tOp (zIx K) (zVar 3) (tC (.int 0)))) (gName 9) (zTest (tOp (zEqE K) (zCall (sp_law_draw K g) [] (fun _ => E0) (tCons (zVar 2) (tCons (tC (.int 2)) tNil))) (tC (.int 0)))) (zVar 9) [9]) (zVar 5)) (tCons tDNewK tNil))) (gTup K 2 (gCons (gName 6) (gCons (gName 7) gNil))))
  (R_law_7 K g E))
def R_law_5 (K : PySem.W.Frag) (g : Ads) (E : XK) : TS :=
  (tSeq (tAsg (zLc (iRng1 (tCons (zCall (sp_law_draw K g) [] (WE (fun cls d _ H => E cls d H)) (tCons (zVar 2) (tCons (tC (.int 4)) tNil))) tNil)) (gName 15) tYes (zCall (sp_law_choice K g) [] (fun _ => E0) (tCons (zVar 2) (tCons (tOp zAdd (tOp zAdd (tOp zAdd (tOp (zIx K) (zVar 3) (tC (.int 1))) (tOp (zIx K) (zVar 3) (tC (.int 2)))) (tOp (zIx K) (zVar 3) (tC (.int 3)))) (tOp (zIx K) (zVar 3) (tC (.int 4)))) tNil))) [15]) (gName 5))
  (R_law_6 K g E))
def R_law_4 (K : PySem.W.Frag) (g : Ads) (E : XK) : TS :=
  (tSeq (tAsg (zCMethK g.c_Service 1 4 (sp_Service_made K g) (fun us ws => us ++ ws) (WE (fun cls d _ H => E cls d H)) (tC (.ref g.c_Service)) (tCons (tLst tNil) tNil) (tCons (tOp (zIx K) (zVar 3) (tC (.int 0))) (tCons (tOp (zIx K) (zVar 3) (tC (.int 1))) (tCons (tOp (zIx K) (zVar 3) (tC (.int 2))) (tCons (tOp (zIx K) (zVar 3) (tC (.int 3))) tNil))))) (gName 4))
  (R_law_5 K g E))
def R_law_3 (K : PySem.W.Frag) (g : Ads) (E : XK) : TS :=
  (tSeq (tAsg (zCall (sp_law_drawn_places K g) [] (WE (fun cls d _ H => E cls d H)) (tCons (zVar 2) tNil)) (gName 3))
  (R_law_4 K g E))
def R_law_2 (K : PySem.W.Frag) (g : Ads) (E : XK) : TS :=
  (tSeq (tAsg (zCall (sp_law_digits K g) [] (WE (fun cls d _ H => E cls d H)) (tCons (zVar 0) (tCons (zVar 1) tNil))) (gName 2))
  (R_law_3 K g E))
def R_law (K : PySem.W.Frag) (g : Ads) (E : XK) : TS :=
  (tSeq (zFor (iRng1 (tCons (tCB rMx2 (tCons (tC (.int 1)) (tCons (tCB rMn2 (tCons (tC (.int 12)) (tCons (tCB (zLen K) (tCons (zVar 0) tNil)) tNil))) tNil))) tNil)) (gName 1)
  (R_law_2 K g E))
  (tRet (tC (.bl true))))
def rw_law (K : PySem.W.Frag) (g : Ads) : Sp := fun vs H Q E => vs.length = 1 ∧ R_law K g E { nx := fun _ H' => Q .non H', rt := Q } (start ["script", "at", "draws", "world", "service", "wrong", "left", "begun", "expected", "name", "due", "calls", "twin", "bare", "zeros", "turn"] vs) H
theorem raw_law {P : Program} {w : World} {K : PySem.W.Frag} {mg : Str → Option Value} {base : Heap} {g : Ads} (T : Txt K mg g) (TB : TabB base mg g.co_law g.tb_law) : FnG false P w K mg base 11 g.f_law g.d_law ["script"] (rw_law K g) := by
  refine okL T.f_law sc_law (fun vs H Q E h => h.1) (fun A outer s H vs Q E hr hgu h => ⟨R_law K g E, ?_, h.2⟩)
  exact (pss_cons (psz_for PassesOwn.leaving rfl (pi_range1 rfl T.b_range (pa_cons (pe_callB (call_mx2 rfl) (by rfl) T.b_max (by decide +kernel) (pa_cons pe_int (pa_cons (pe_callB (call_mn2 rfl) (by rfl) T.b_min (by decide +kernel) (pa_cons pe_int (pa_cons (pe_callB call_lenZ (by rfl) T.b_len (by decide +kernel) (pa_cons (zv 0) pa_nil)) pa_nil))) pa_nil))) pa_nil)) (pg_name (i := 1) sc_law.nd rfl (Or.inl rfl))
  (pss_cons (ps_set (i := 2) sc_law.nd rfl (Or.inr rfl) (pe_callZ (ok_law_digits T) (hr.mono (by decide)) (fun z => nomatch z) rfl T.g_law_digits T.k_law_digits T.e_law_digits .nil (fun σ => passAt (takes_of rfl rfl rfl rfl) σ) (pa_cons (zv 0) (pa_cons (zv 1) pa_nil))))
  (pss_cons (ps_set (i := 3) sc_law.nd rfl (Or.inr rfl) (pe_callZ (ok_law_drawn_places T) (hr.mono (by decide)) (fun z => nomatch z) rfl T.g_law_drawn_places T.k_law_drawn_places T.e_law_drawn_places .nil (fun σ => passAt (takes_of rfl rfl rfl rfl) σ) (pa_cons (zv 2) pa_nil)))
  (pss_cons (ps_set (i := 4) sc_law.nd rfl (Or.inr rfl) (pe_cmethK (ks := ["cells", "sources", "slots", "fields"]) (pe_glob rfl T.g_Service rfl) T.cr_Service T.cm_Service_made (ok_Service_made T) (hr.mono (by decide)) (fun z => nomatch z) T.kc_0 (fun σ => passAt (takes_of rfl rfl rfl rfl) σ) (pa_cons (pe_lst pa_nil) pa_nil) (pk_cons (pe_ix ix_z (zv 3) pe_int (fun _ _ => rfl)) (pk_cons (pe_ix ix_z (zv 3) pe_int (fun _ _ => rfl)) (pk_cons (pe_ix ix_z (zv 3) pe_int (fun _ _ => rfl)) (pk_cons (pe_ix ix_z (zv 3) pe_int (fun _ _ => rfl)) pk_nil))))))
  (pss_cons (psz_setLc (i := 5) (own := [("turn", 15)]) rfl sc_law.nd rfl rfl (sw_true rfl rfl rfl (by decide +kernel)) (pi_range1 rfl T.b_range (pa_cons (pe_callZ (ok_law_draw T) (hr.mono (by decide)) (fun z => nomatch z) rfl T.g_law_draw T.k_law_draw T.e_law_draw .nil (fun σ => passAt (takes_of rfl rfl rfl rfl) σ) (pa_cons (zv 2) (pa_cons pe_int pa_nil))) pa_nil)) (blkOk_by (own := [("turn", 15)]) (N := ["script", "at", "draws", "world", "service", "wrong", "left", "begun", "expected", "name", "due", "calls", "twin", "bare", "zeros", "turn"]) (sc := defScope s_law) (by decide +kernel)) (fun _ _ _ _ _ => pg_name (i := 15) sc_law.nd rfl (Or.inl rfl)) (fun _ _ _ _ _ => pts_nil) (fun _ _ _ _ _ => (pe_callZ (ok_law_choice T) (hr.mono (by decide)) (fun z => nomatch z) rfl T.g_law_choice T.k_law_choice T.e_law_choice .nil passE0 (pa_cons (zv 2) (pa_cons (pe_op op_zAdd (pe_op op_zAdd (pe_op op_zAdd (pe_ix ix_z (zv 3) pe_int (fun _ _ => rfl)) (pe_ix ix_z (zv 3) pe_int (fun _ _ => rfl))) (pe_ix ix_z (zv 3) pe_int (fun _ _ => rfl))) (pe_ix ix_z (zv 3) pe_int (fun _ _ => rfl))) pa_nil)))))
  (pss_cons (ps_asg (pe_tup (pa_cons (pe_op op_zAdd (pez_lc (own := [("name", 9)]) rfl sc_law.nd (pi_list (pe_ix ix_z (zv 3) pe_int (fun _ _ => rfl))) (blkOk_by (own := [("name", 9)]) (N := ["script", "at", "draws", "world", "service", "wrong", "left", "begun", "expected", "name", "due", "calls", "twin", "bare", "zeros", "turn"]) (sc := defScope s_law) (by decide +kernel)) (fun _ _ _ _ _ => pg_name (i := 9) sc_law.nd rfl (Or.inl rfl)) (fun _ _ _ _ _ => pts_one (ptz_cmp (op_zEqE hr.units) (pe_callZ (ok_law_draw T) (hr.mono (by decide)) (fun z => nomatch z) rfl T.g_law_draw T.k_law_draw T.e_law_draw .nil passE0 (pa_cons (zv 2) (pa_cons pe_int pa_nil))) pe_int (nomark _))) (fun _ _ _ _ _ => (zv 9))) (zv 5)) (pa_cons pe_dnewK pa_nil))) (pg_tup rfl (pgs_cons (pg_name (i := 6) sc_law.nd rfl (Or.inl rfl)) (pgs_cons (pg_name (i := 7) sc_law.nd rfl (Or.inr rfl)) pgs_nil))))
  (pss_cons (ps_while PassesOwn.leaving (ptz_cmp (op_zNeE hr.units) (zv 6) (pe_lst pa_nil) (nomark _))
  (pss_one (ps_dput (hu_of hr) (zv 7) (pe_bm PySem.F.plainAttrs_list PySem.F.slot_list_pop PySem.F.type_list_pop mt_popAt (zv 6) (pa_cons (pe_callZ (ok_law_draw T) (hr.mono (by decide)) (fun z => nomatch z) rfl T.g_law_draw T.k_law_draw T.e_law_draw .nil (fun σ => passAt (takes_of rfl rfl rfl rfl) σ) (pa_cons (zv 2) (pa_cons (pe_callB call_lenZ (by rfl) T.b_len (by decide +kernel) (pa_cons (zv 6) pa_nil)) pa_nil))) pa_nil)) (pe_callZ (ok_law_value T) (hr.mono (by decide)) (fun z => nomatch z) rfl T.g_law_value T.k_law_value T.e_law_value .nil (fun σ => passAt (takes_of rfl rfl rfl rfl) σ) (pa_cons (zv 2) pa_nil)) (by rfl))))
  (pss_cons (ps_set (i := 8) sc_law.nd rfl (Or.inl rfl) (pe_ifExp (ptz_cmp (op_zNeE hr.units) (zv 5) (pe_lst pa_nil) (nomark _)) (pe_tup (pa_cons (pe_callB (call_minS rfl) (by rfl) T.b_min (by decide +kernel) (pa_cons (zv 5) pa_nil)) (pa_cons pe_bl pa_nil))) (pe_tup pa_nil)))
  (pss_cons (ps_if (ptz_cmp (op_zNeE hr.units) (pe_lam (k := 8) T.f_law_error rfl T.g_law_error T.k_law_error T.e_law_error sc_law_error rfl (.inl rfl) (fun cdv => gives_law_error T) TB rfl (List.mem_singleton.mpr rfl) (fun p hp _ => by rw [List.mem_singleton.mp hp]; rfl) (hr.mono (by decide)) (lamS_by (show LamX.lamSB (defScope s_law) _ = true by decide +kernel)) rfl (fun _ _ _ _ _ => rfl) (fun A outer s H Eb f c' hr => (pe_makeZ T.m_Twin (ok_Twin_init T) (hr.mono (by decide)) (fun z => nomatch z) rfl T.g_Twin T.ef_Twin_init .nil (fun σ => passAt (takes_of rfl rfl rfl rfl) σ) (pa_cons (zv 4) (pa_cons (zv 7) pa_nil))))) (zv 8) (nomark _))
  (pss_one (ps_ret pe_bl))
  pss_nil)
  (pss_cons (psz_for PassesOwn.leaving rfl (pi_list (zv 5)) (pg_name (i := 9) sc_law.nd rfl (Or.inl rfl))
  (pss_one (ps_expr (pe_dpop2 (zv 7) (zv 9) pe_non ⟨by rfl, by rfl, by rfl, by rfl⟩))))
  (pss_cons (ps_set (i := 10) sc_law.nd rfl (Or.inl rfl) pe_dnewK)
  (pss_cons (psz_for PassesOwn.leaving rfl (pi_list (pe_op op_zAdd (pe_op op_zAdd (pe_ix ix_z (zv 3) pe_int (fun _ _ => rfl)) (pe_ix ix_z (zv 3) pe_int (fun _ _ => rfl))) (pe_ix ix_z (zv 3) pe_int (fun _ _ => rfl)))) (pg_name (i := 9) sc_law.nd rfl (Or.inl rfl))
  (pss_one (ps_dput (hu_of hr) (zv 10) (zv 9) (pe_dget2 (hu_of hr) (zv 7) (zv 9) (pe_ifExp (ptz_cmp op_zIn (zv 9) (pe_ix ix_z (zv 3) pe_int (fun _ _ => rfl)) (by rfl)) pe_int pe_non) ⟨by rfl, by rfl, by rfl, by rfl⟩) (by rfl))))
  (pss_cons (psz_setLc (i := 11) (own := [("name", 9)]) rfl sc_law.nd rfl rfl (sw_true rfl rfl rfl (by decide +kernel)) (pi_list (pe_callZ (ok_law_drawn_names T) (hr.mono (by decide)) (fun z => nomatch z) rfl T.g_law_drawn_names T.k_law_drawn_names T.e_law_drawn_names .nil (fun σ => passAt (takes_of rfl rfl rfl rfl) σ) (pa_cons (zv 2) (pa_cons (pe_callZ (ok_law_draw T) (hr.mono (by decide)) (fun z => nomatch z) rfl T.g_law_draw T.k_law_draw T.e_law_draw .nil (fun σ => passAt (takes_of rfl rfl rfl rfl) σ) (pa_cons (zv 2) (pa_cons pe_int pa_nil))) pa_nil)))) (blkOk_by (own := [("name", 9)]) (N := ["script", "at", "draws", "world", "service", "wrong", "left", "begun", "expected", "name", "due", "calls", "twin", "bare", "zeros", "turn"]) (sc := defScope s_law) (by decide +kernel)) (fun _ _ _ _ _ => pg_name (i := 9) sc_law.nd rfl (Or.inl rfl)) (fun _ _ _ _ _ => pts_nil) (fun _ _ _ _ _ => (pe_makeZK (ks := []) T.m_Call (ok_Call_init T) (hr.mono (by decide)) (fun z => nomatch z) rfl T.g_Call T.kz_0 passE0 (pa_cons (zv 9) pa_nil) pk_nil)))
  (pss_cons (ps_if (pt_not (ptz_truth (pe_callZ (ok_law_are_histories T) (hr.mono (by decide)) (fun z => nomatch z) rfl T.g_law_are_histories T.k_law_are_histories T.e_law_are_histories .nil (fun σ => passAt (takes_of rfl rfl rfl rfl) σ) (pa_cons (zv 7) (pa_cons (zv 11) pa_nil))) (by intro _; rfl)))
  (pss_one (ps_ret pe_bl))
  pss_nil)
  (pss_cons (ps_set (i := 12) sc_law.nd rfl (Or.inl rfl) (pe_ifExp (ptz_cmp (op_zEqE hr.units) (zv 7) pe_dnewK (nomark _)) (pe_makeZ T.m_Twin (ok_Twin_init T) (hr.mono (by decide)) (fun z => nomatch z) rfl T.g_Twin T.e_Twin_init (.cons rfl .nil) (fun σ => passAt (takes_of rfl rfl rfl rfl) σ) (pa_cons (zv 4) pa_nil)) (pe_makeZ T.m_Twin (ok_Twin_init T) (hr.mono (by decide)) (fun z => nomatch z) rfl T.g_Twin T.ef_Twin_init .nil (fun σ => passAt (takes_of rfl rfl rfl rfl) σ) (pa_cons (zv 4) (pa_cons (zv 7) pa_nil)))))
  (pss_cons (ps_set (i := 13) sc_law.nd rfl (Or.inl rfl) (pe_ifExp (ptz_cmp (op_zEqE hr.units) (pe_callZ (ok_law_draw T) (hr.mono (by decide)) (fun z => nomatch z) rfl T.g_law_draw T.k_law_draw T.e_law_draw .nil (fun σ => passAt (takes_of rfl rfl rfl rfl) σ) (pa_cons (zv 2) (pa_cons pe_int pa_nil))) pe_int (nomark _)) (pe_makeZ T.m_Twin (ok_Twin_init T) (hr.mono (by decide)) (fun z => nomatch z) rfl T.g_Twin T.ef_Twin_init .nil (fun σ => passAt (takes_of rfl rfl rfl rfl) σ) (pa_cons (zv 4) (pa_cons pe_dnewK pa_nil))) (pe_makeZ T.m_Twin (ok_Twin_init T) (hr.mono (by decide)) (fun z => nomatch z) rfl T.g_Twin T.ef_Twin_init .nil (fun σ => passAt (takes_of rfl rfl rfl rfl) σ) (pa_cons (zv 4) (pa_cons pe_non pa_nil)))))
  (pss_cons (psz_for PassesOwn.leaving rfl (pi_list (pe_ix ix_z (zv 3) pe_int (fun _ _ => rfl))) (pg_name (i := 9) sc_law.nd rfl (Or.inl rfl))
  (pss_one (ps_dput (hu_of hr) (zv 7) (zv 9) pe_int (by rfl))))
  (pss_cons (ps_set (i := 14) sc_law.nd rfl (Or.inl rfl) pe_dnewK)
  (pss_cons (ps_lock (psz_for PassesOwn.leaving rfl (pi_keys (zv 10)) (pg_name (i := 9) sc_law.nd rfl (Or.inl rfl))
  (pss_one (ps_dput (hu_of hr) (zv 14) (zv 9) (pe_ifExp (ptz_cmp op_zIn (zv 9) (pe_ix ix_z (zv 3) pe_int (fun _ _ => rfl)) (by rfl)) pe_int pe_non) (by rfl)))))
  (pss_one (ps_if (PW.pt (pw_or (pt_not (ptz_truth (pe_callZ (ok_law_is_begun T) (hr.mono (by decide)) (fun z => nomatch z) rfl T.g_law_is_begun T.k_law_is_begun T.e_law_is_begun .nil (fun σ => passAt (takes_of rfl rfl rfl rfl) σ) (pa_cons (zv 12) (pa_cons (zv 4) (pa_cons (zv 10) pa_nil)))) (by intro _; rfl))) (pw_or1 (pt_not (ptz_truth (pe_callZ (ok_law_is_begun T) (hr.mono (by decide)) (fun z => nomatch z) rfl T.g_law_is_begun T.k_law_is_begun T.e_law_is_begun .nil (fun σ => passAt (takes_of rfl rfl rfl rfl) σ) (pa_cons (zv 13) (pa_cons (zv 4) (pa_cons (zv 14) pa_nil)))) (by intro _; rfl))))))
  (pss_one (ps_ret pe_bl))
  pss_nil)))))))))))))))))))))
  (pss_one (ps_ret pe_bl)))
abbrev TL (g : Ads) : List (Addr × Str) := [(g.tb_law, "law.<locals>.<lambda>")]
structure Wd where
  p : Addr
  W : Addr
  a0 : Addr
  a1 : Addr
  a2 : Addr
  a3 : Addr
  a4 : Addr
  sv : Addr
  cs : List Str
  ss : List Str
  ls : List Str
  fs : List Str
  es : List Str
abbrev Wd.ps (d : Wd) : List Str := d.cs ++ (d.ls ++ d.fs)
structure C34 (K : PySem.W.Frag) (g : Ads) (d : Wd) (H0 H : Hp) (k : Nat) : Prop where
  s0 : ExtN H0 H
  np : H0 d.p = none
  t : Tabs (TL g) H
  dr : DrwAt H d.p k
  w : WldAt H d.W d.a0 d.a1 d.a2 d.a3 d.a4 d.cs d.ss d.ls d.fs d.es
  nm : NmL (d.cs ++ (d.ss ++ (d.ls ++ (d.fs ++ d.es))))
  c6 : d.cs.length ≤ 6
  s4 : d.ss.length ≤ 4
  l4 : d.ls.length ≤ 4
  f4 : d.fs.length ≤ 4
  e6 : d.es.length = 6
  sv : SvAt K g H d.sv (d.cs.map V.str) (d.ss.map V.str) (d.ls.map V.str) (d.fs.map V.str) []
def Goes34 (g : Ads) (H0 : Hp) (a : Addr) (D : Ends) : Prop := ∀ H' w1 w2 w3 w4 w5 w6 w7 w8 w9 w10 w11 w12 w13 w14, ExtN H0 H' → Tabs (TL g) H' → D.nx [some (.ref a), w1, w2, w3, w4, w5, w6, w7, w8, w9, w10, w11, w12, w13, w14, none] H'
section
variable {K : PySem.W.Frag} {mg : Str → Option Value} {g : Ads} {d : Wd} {H0 H H' : Hp} {a F L B Du du cl tw ba ze : Addr} {E : XK} {D : Ends} {b : Bool} {r : Option V} {v : V} {v1 v2 v3 v4 v5 v6 v7 v8 v9 v10 v11 v12 v13 v14 : Option V} {k k' : Nat} {gs : List (Str × V)} {ws : List Str} {as : List (Addr × Str)}
theorem C34.ext (c : C34 K g d H0 H k) (s : ExtN H H') (t : Tabs (TL g) H') : C34 K g d H0 H' k :=
  ⟨c.s0.trans s, c.np, t, c.dr.ext s, c.w.ext s, c.nm, c.c6, c.s4, c.l4, c.f4, c.e6, c.sv.extL (.ofN s)⟩
theorem C34.same (c : C34 K g d H0 H k) (s : Same H H') : C34 K g d H0 H' k := c.ext (ExtN.of s) (c.t.ext s)
theorem C34.draw (c : C34 K g d H0 H k) (b : But d.p H H') (D : DrwAt H' d.p k') : C34 K g d H0 H' k' := by
  obtain ⟨g0, s0, t0, e0, _⟩ := id c.dr
  exact ⟨fun y o e n => b _ _ (c.s0 y o e n) (fun z => by rw [z, c.np] at e; cases e), c.np, Tabs.but c.t b e0, D, c.w.but c.dr b, c.nm, c.c6, c.s4, c.l4, c.f4, c.e6, c.sv.extL (.but b e0)⟩
theorem C34.butK (c : C34 K g d H0 H k) {kvs : List (Key × V)} (b : But B H H') (e : H B = some (.dK kvs)) (n : H0 B = none) : C34 K g d H0 H' k := by
  obtain ⟨g0, s0, t0, e0, h0⟩ := id c.dr
  have s := ExtD.but b e
  exact ⟨fun y o ey ny => b _ _ (c.s0 y o ey ny) (fun z => by rw [z, n] at ey; cases ey), c.np, Tabs.butK c.t b e, ⟨g0, s0, t0, s _ _ e0 (by simp), h0⟩, c.w.keep fun x xs ex _ => s _ _ ex (by simp), c.nm, c.c6, c.s4, c.l4, c.f4, c.e6, c.sv.extD s⟩
theorem C34.up (c : C34 K g d H0 H k) (h : k ≤ k') : C34 K g d H0 H k' := { c with dr := c.dr.up h }
theorem C34.sub (c : C34 K g d H0 H k) : NmL d.ps := c.nm.sub ((List.Sublist.refl _).append ((List.Sublist.append (List.Sublist.refl _) (List.sublist_append_left _ _)).trans (List.sublist_append_right _ _)))
theorem C34.lp (c : C34 K g d H0 H k) : (d.cs ++ (d.ls ++ d.fs)).length ≤ 14 := by
  have := c.c6; have := c.l4; have := c.f4
  simp only [List.length_append]
  omega
/-- a draw leaves a twin as it is -/
theorem TwAt.draw {o sv p : Addr} (h : TwAt g (hid [B] H) o sv gs) (dr : DrwAt H p k) (b : But p H H') : TwAt g (hid [B] H') o sv gs := by
  obtain ⟨g0, s0, t0, e0, _⟩ := dr
  have w : ∀ {x : Addr} {u : HO}, Z.hid [B] H x = some u → u ≠ .lst [V.int g0, .int s0, .int t0] → Z.hid [B] H' x = some u := fun {x u} e n => hid_at (hid_of e).1 (b _ _ (hid_of e).2 fun z => n (by
    have := (hid_of e).2
    rw [z, e0] at this
    injection this with this
    exact this.symm))
  obtain ⟨dx, f, c, ap, h1, ⟨fx, fd, h2, h3⟩, ⟨cx, cd, h4, h5⟩, h6⟩ := h
  exact ⟨dx, f, c, ap, w h1 (by simp), ⟨fx, fd, w h2 (by simp), w h3 (by simp)⟩, ⟨cx, cd, w h4 (by simp), w h5 (by simp)⟩, w h6 (by simp)⟩
theorem TwAt.sameH {o sv : Addr} (h : TwAt g (hid [B] H) o sv gs) (s : Same H H') : TwAt g (hid [B] H') o sv gs := h.same (hid_same fun b o e _ => s _ _ e)
theorem st27 (T : Txt K mg g) (c : C34 K g d H0 H k) (h1 : TwAt g H tw d.sv (stK d.cs d.ps gs)) (h2 : TwAt g H ba d.sv (stK d.cs d.ps [])) (e1 : H du = some (.dK (dks (stK d.cs d.ps gs)))) (e2 : H ze = some (.dK (dks (stK d.cs d.ps [])))) (pv : ∀ x ∈ gs, PV x.2) (Gs : Goes34 g H0 a D) :
    R_law_27 K g E D [some (.ref a), v1, v2, v3, some (.ref d.sv), v5, v6, v7, v8, v9, some (.ref du), v11, some (.ref tw), some (.ref ba), some (.ref ze), none] H := by
  have lp := c.lp
  have nd : ∀ gs, ((stK d.cs d.ps gs).map (·.1)).Nodup := fun gs => by rw [stK_keys]; exact c.sub.1
  have ll : ∀ gs, (stK d.cs d.ps gs).length < 64 := fun gs => by rw [stK_len]; show (d.cs ++ (d.ls ++ d.fs)).length < 64; omega
  refine ⟨tw, d.sv, du, _, _, _, _, _, [], rfl, h1, c.sv, e1, nd _, ll _, stK_pv pv, fun H1 s1 => zite (fun h => absurd h (by decide)) (fun _ => ?_)⟩
  refine ⟨ba, d.sv, ze, _, _, _, _, _, [], rfl, h2.same s1, (c.same s1).sv, s1 _ _ e2, nd _, ll _, stK_pv (fun x hx => (nomatch hx)), fun H2 s2 => zite (fun h => absurd h (by decide)) (fun _ => ?_)⟩
  have c2 := c.same (s1.trans s2)
  exact Gs _ _ _ _ _ _ _ _ _ _ _ _ _ _ _ c2.s0 c2.t
theorem st24 (T : Txt K mg g) (c : C34 K g d H0 H k) (h1 : TwAt g H tw d.sv (stK d.cs d.ps gs)) (h2 : TwAt g H ba d.sv (stK d.cs d.ps [])) (e1 : H du = some (.dK (dks (stK d.cs d.ps gs)))) (pv : ∀ x ∈ gs, PV x.2) (Gs : Goes34 g H0 a D) :
    R_law_24 K g E D [some (.ref a), v1, v2, some (.ref d.W), some (.ref d.sv), v5, v6, v7, v8, v9, some (.ref du), v11, some (.ref tw), some (.ref ba), v14, none] H := by
  have lp := c.lp
  refine fun ze hze => ?_
  have s1 := Same.put (o := .dK []) hze
  have e3 := upd_same (H := H) (a := ze) (o := .dK [])
  show R_law_25 K g E D [some (.ref a), v1, v2, some (.ref d.W), some (.ref d.sv), v5, v6, v7, v8, v9, some (.ref du), v11, some (.ref tw), some (.ref ba), some (.ref ze), none] (upd H ze (.dK []))
  have nz : du ≠ ze := ne_of_none e1 hze
  generalize upd H ze (.dK []) = H1 at s1 e3 ⊢
  have e1' := s1 _ _ e1
  have w1 := c.w.same s1
  refine ⟨du, .dK (dks (stK d.cs d.ps gs)), e1', trivial, fun od => ⟨du, od, rfl, .inl ⟨dks (stK d.cs d.ps gs), upd_same, for_z walk_keys (fun i σ H' => But ze (upd H1 du (.frz od (.dK (dks (stK d.cs d.ps gs))))) H' ∧ H' ze = some (.dK (dks (stK d.cs (d.ps.take i) []))) ∧ ∃ v9, σ = [some (.ref a), v1, v2, some (.ref d.W), some (.ref d.sv), v5, v6, v7, v8, v9, some (.ref du), v11, some (.ref tw), some (.ref ba), some (.ref ze), none])
    ⟨But.refl _ _, by rw [upd_ne nz.symm]; exact e3, _, rfl⟩ (fun i σ H' _ h => h.1 _ _ upd_same nz) ?_ ?_⟩⟩⟩
  · rintro i x σ H2 H2' hi ⟨b2, e2, v9, rfl⟩ ⟨rfl, kk, v, hk, rfl⟩
    obtain ⟨n, rfl, hn⟩ := dks_get hk
    have en : d.ps[i]? = some n := by
      unfold stK at hn
      rw [List.getElem?_map] at hn
      cases e : d.ps[i]? with
      | none => rw [e] at hn; cases hn
      | some q =>
        rw [e] at hn
        injection hn with hn
        injection hn with h _
        rw [h]
    have w2 : WldAt H2' d.W d.a0 d.a1 d.a2 d.a3 d.a4 d.cs d.ss d.ls d.fs d.es := w1.keep fun x xs ex _ => b2 _ _ (by rw [upd_ne (fun z => by rw [z, e1'] at ex; cases ex)]; exact ex) (fun z => by rw [z, e3] at ex; cases ex)
    have fin : ∀ z : V, z = (if n ∈ d.cs then .int 0 else .non) → ∃ a' H4, V.ref ze = V.ref a' ∧ DPut H2' a' (.str n) z H4 ∧ But ze (upd H1 du (.frz od (.dK (dks (stK d.cs d.ps gs))))) H4 ∧ H4 ze = some (.dK (dks (stK d.cs (d.ps.take (i + 1)) []))) ∧ ∃ v9, [some (.ref a), v1, v2, some (.ref d.W), some (.ref d.sv), v5, v6, v7, v8, some (.str n), some (.ref du), v11, some (.ref tw), some (.ref ba), some (.ref ze), none] = [some (.ref a), v1, v2, some (.ref d.W), some (.ref d.sv), v5, v6, v7, v8, v9, some (.ref du), v11, some (.ref tw), some (.ref ba), some (.ref ze), none] := fun z ez => by
      refine ⟨ze, _, rfl, .inl ⟨_, .inr n, e2, rfl, ?_, rfl⟩, b2.trans But.put, ?_, _, rfl⟩
      · rw [dks_len, stK_len, List.length_take]
        exact Nat.lt_of_le_of_lt (show _ ≤ 14 from Nat.le_trans (Nat.min_le_right _ _) lp) (by decide)
      · rw [upd_same, dks_put_new _ (by rw [stK_keys]; exact nodup_take c.sub.1 en), stK_take en, ez]
        rfl
    refine ⟨_, _, .inl (SqL.of w2.1), atI_nat (j := 0) rfl, .inr ⟨d.a0, _, rfl, .inl (SqL.of w2.2.1), rfl, all_flat _, ?_⟩⟩
    show if inV (.str n) (d.cs.map V.str) = true then _ else _
    rw [inV_strs]
    exact zite (fun hc => fin _ (if_pos (of_decide_eq_true hc)).symm) (fun hc => fin _ (if_neg (of_decide_eq_false hc)).symm)
  · rintro σ H2 ⟨b2, e2, v9, rfl⟩
    refine ⟨b2 _ _ upd_same nz, ?_⟩
    have lk : (dks (stK d.cs d.ps gs)).length = d.ps.length := by rw [dks_len, stK_len]
    rw [lk, List.take_length] at e2
    have b3 := lock_but2 e1' b2
    have e4 : (upd H2 du (.dK (dks (stK d.cs d.ps gs)))) ze = some (.dK (dks (stK d.cs d.ps []))) := by rw [upd_ne nz.symm]; exact e2
    generalize upd H2 du (.dK (dks (stK d.cs d.ps gs))) = H3 at b3 e4 ⊢
    have s3 : Same H H3 := fun x o e => b3 _ _ (s1 _ _ e) (ne_of_none e hze)
    exact st27 (E := E) T (c.same s3) (h1.same s3) (h2.same s3) (s3 _ _ e1) e4 pv Gs
theorem st22 (T : Txt K mg g) (c : C34 K g d H0 H k) (h1 : TwAt g (hid [B] H) tw d.sv (stK d.cs d.ps gs)) (h2 : TwAt g (hid [B] H) ba d.sv (stK d.cs d.ps [])) (eB : H B = some (.dK (dks gs))) (nB : H0 B = none) (lg : gs.length < 64) (e1 : H du = some (.dK (dks (stK d.cs d.ps gs)))) (ndu : du ≠ B) (pv : ∀ x ∈ gs, PV x.2) (Gs : Goes34 g H0 a D) :
    R_law_22 K g E D [some (.ref a), v1, v2, some (.ref d.W), some (.ref d.sv), v5, v6, some (.ref B), v8, v9, some (.ref du), v11, some (.ref tw), some (.ref ba), v14, none] H := by
  refine ⟨_, _, .inl (SqL.of c.w.1), atI_nat (j := 0) rfl, d.a0, rfl, ⟨_, SqL.of c.w.2.1⟩, for_z (walk_list (xs := d.cs.map V.str)) (fun i σ H' => But B H H' ∧ (∃ kvs, H' B = some (.dK kvs) ∧ kvs.length ≤ 64 + i) ∧ ∃ v9, σ = [some (.ref a), v1, v2, some (.ref d.W), some (.ref d.sv), v5, v6, some (.ref B), v8, v9, some (.ref du), v11, some (.ref tw), some (.ref ba), v14, none])
    ⟨But.refl _ _, ⟨_, eB, by rw [dks_len]; omega⟩, _, rfl⟩ (fun i σ H' _ h => SqL.of (ExtD.but h.1 eB _ _ c.w.2.1 (by simp))) ?_ ?_⟩
  · rintro i x σ H1 H1' hi ⟨b1, ⟨kvs, ek, lk⟩, v9, rfl⟩ ⟨rfl, hx⟩
    obtain ⟨rfl, li, hm⟩ := get_strs hx
    have c6 := c.c6
    refine ⟨B, _, rfl, .inl ⟨kvs, .inr _, ek, rfl, Nat.lt_of_le_of_lt (show kvs.length ≤ 128 by omega) (by decide), rfl⟩, b1.trans But.put, ⟨_, upd_same, Nat.le_trans (length_putK _ _ _) (by omega)⟩, _, rfl⟩
  · rintro σ H1 ⟨b1, _, v9, rfl⟩
    have hh : Same (hid [B] H) H1 := (hid_but b1).trans hid_sub
    exact st24 (E := E) T (c.butK b1 eB nB) (h1.same hh) (h2.same hh) (b1 _ _ e1 ndu) pv Gs
theorem st21 (T : Txt K mg g) (c : C34 K g d H0 H k) (hk : k + 1 ≤ 1000000) (h1 : TwAt g (hid [B] H) tw d.sv (stK d.cs d.ps gs)) (eB : H B = some (.dK (dks gs))) (nB : H0 B = none) (lg : gs.length < 64) (e1 : H du = some (.dK (dks (stK d.cs d.ps gs)))) (ndu : du ≠ B) (pv : ∀ x ∈ gs, PV x.2) (Gs : Goes34 g H0 a D) :
    R_law_21 K g E D [some (.ref a), v1, some (.ref d.p), some (.ref d.W), some (.ref d.sv), v5, v6, some (.ref B), v8, v9, some (.ref du), v11, some (.ref tw), v13, v14, none] H := by
  have lp := c.lp
  obtain ⟨_, _, _, ep, _⟩ := id c.dr
  have np : ∀ {x : Addr} {kvs : List (Key × V)}, H x = some (.dK kvs) → x ≠ d.p := fun e z => by rw [z, ep] at e; cases e
  refine ⟨d.p, k, 2, rfl, c.dr, by omega, by decide, by decide, fun r H1 r0 r1 D1 b1 => .inr (.inr (.inr (.inl ⟨rfl, zite (fun _ => ?_) (fun _ => ?_)⟩)))⟩
  · have c1 := c.draw b1 D1
    refine fun n hn => ?_
    have s2 := Same.put (o := .dK []) hn
    have c2 := c1.same s2
    have eB2 := s2 _ _ (b1 _ _ eB (np eB))
    refine twin_new (hs := []) (gs := []) c2.sv (.inr ⟨n, rfl, upd_same⟩) (by decide) c.sub.1 (by omega) (fun _ H3 o fd cd s3 ho hfd hcd tin => ?_) (fun z hz => (nomatch hz.1))
    have n1 : fd ≠ B := fun z => by rw [z, eB2] at hfd; cases hfd
    have n2 : cd ≠ B := fun z => by rw [z, eB2] at hcd; cases hcd
    exact st22 (E := E) T (c2.same s3) ((h1.draw c.dr b1).sameH (s2.trans s3)) (tin.hid (s3 _ _ eB2) n1 n2) (s3 _ _ eB2) nB lg (s3 _ _ (s2 _ _ (b1 _ _ e1 (np e1)))) ndu pv Gs
  · have c1 := c.draw b1 D1
    have eB2 := b1 _ _ eB (np eB)
    refine twin_new (hs := []) (gs := []) c1.sv (.inl ⟨rfl, rfl⟩) (by decide) c.sub.1 (by omega) (fun _ H3 o fd cd s3 ho hfd hcd tin => ?_) (fun z hz => (nomatch hz.1))
    have n1 : fd ≠ B := fun z => by rw [z, eB2] at hfd; cases hfd
    have n2 : cd ≠ B := fun z => by rw [z, eB2] at hcd; cases hcd
    exact st22 (E := E) T (c1.same s3) ((h1.draw c.dr b1).sameH s3) (tin.hid (s3 _ _ eB2) n1 n2) (s3 _ _ eB2) nB lg (s3 _ _ (b1 _ _ e1 (np e1))) ndu pv Gs
theorem st20 (T : Txt K mg g) (c : C34 K g d H0 H k) (hk : k + 1 ≤ 1000000) (eB : H B = some (.dK (dks gs))) (nB : H0 B = none) (lg : gs.length < 64) (hin : ∀ x ∈ gs, x.1 ∈ d.cs) (e1 : H du = some (.dK (dks (stK d.cs d.ps gs)))) (ndu : du ≠ B) (pv : ∀ x ∈ gs, PV x.2) (Gs : Goes34 g H0 a D) :
    R_law_20 K g E D [some (.ref a), v1, some (.ref d.p), some (.ref d.W), some (.ref d.sv), v5, v6, some (.ref B), v8, v9, some (.ref du), v11, v12, v13, v14, none] H := by
  have lp := c.lp
  refine fun n hn => ?_
  have s2 := Same.put (o := .dK []) hn
  have en := upd_same (H := H) (a := n) (o := .dK [])
  have c2 := c.same s2
  have eB2 := s2 _ _ eB
  have e12 := s2 _ _ e1
  generalize upd H n (.dK []) = H2 at s2 en c2 eB2 e12 ⊢
  have fl : ∀ p ∈ dks gs, flatV p.2 = true := dks_flat fun p hp => (pv p hp).flat
  have no : ∀ z, ¬ BadK d.cs gs z := fun z hz => by
    obtain ⟨x, hx, e⟩ := List.mem_map.mp hz.1
    exact hz.2.1 (e ▸ hin x hx)
  refine .inr (.inr (.inl ⟨B, n, dks gs, [], rfl, rfl, .inl eB2, .inl en, fl, fun p hp => (nomatch hp), zite (fun he => ?_) (fun _ => ?_)⟩))
  · have hg : gs = [] := by
      cases gs with
      | nil => rfl
      | cons x r => simp [dEq, dks] at he
    subst hg
    refine twin_new (hs := []) (gs := []) c2.sv (.inl ⟨rfl, rfl⟩) (by decide) c.sub.1 (by omega) (fun _ H3 o fd cd s3 ho hfd hcd tin => ?_) (fun z hz => (nomatch hz.1))
    have n1 : fd ≠ B := fun z => by rw [z, eB2] at hfd; cases hfd
    have n2 : cd ≠ B := fun z => by rw [z, eB2] at hcd; cases hcd
    exact st21 (E := E) T (c2.same s3) hk (tin.hid (s3 _ _ eB2) n1 n2) (s3 _ _ eB2) nB lg (s3 _ _ e12) ndu pv Gs
  · refine twin_new (hs := []) (gs := gs) c2.sv (.inr ⟨B, rfl, eB2⟩) lg c.sub.1 (by omega) (fun _ H3 o fd cd s3 ho hfd hcd tin => ?_) (fun z hz => absurd hz (no z))
    have n1 : fd ≠ B := fun z => by rw [z, eB2] at hfd; cases hfd
    have n2 : cd ≠ B := fun z => by rw [z, eB2] at hcd; cases hcd
    exact st21 (E := E) T (c2.same s3) hk (tin.hid (s3 _ _ eB2) n1 n2) (s3 _ _ eB2) nB lg (s3 _ _ e12) ndu pv Gs
end
end Z
namespace Z
open PySem PySem.Spec PyProof.Rows L2
open LamX (CodeO Tabs TabS TabB ExtN GivesTo tLam lamCx lamEnv LamS lamS_by)
/-- what a try is to tell -/
def dueV : Option V → List V
  | none => []
  | some v => [v, .bl true]
theorem dueV_sm {r : Option V} (h : ∀ v, r = some v → SmV v) : ∀ v ∈ dueV r, SmV v := by
  cases r with
  | none => exact fun v hv => (nomatch hv)
  | some u =>
    intro v hv
    rcases List.mem_cons.mp hv with rfl | hv
    · exact h _ rfl
    · rcases List.mem_cons.mp hv with rfl | hv
      · exact .inr (.inl ⟨_, rfl⟩)
      · exact (nomatch hv)
theorem ext_lst {K : PySem.W.Frag} {H H' : Hp} {a : Addr} {xs : List V} (s : ExtN H H') (h : SqL K H a xs) : SqL K H' a xs := by
  rcases h with (h | ⟨q, h⟩) | h
  · exact .inl (.inl (s _ _ h (by simp)))
  · exact .inl (.inr ⟨q, s _ _ h (by simp)⟩)
  · exact .inr h
/-- the least wrong key, if there is one -/
def Due18 (ps : List Str) (gs : List (Str × V)) (r : Option V) : Prop := (r = none ∧ ∀ x ∈ gs, x.1 ∈ ps) ∨ ∃ z, r = some (.str z) ∧ BadK ps gs z
theorem pop_perm1 : ∀ (rs : List Str) {i : Nat} (hi : i < rs.length), (rs[i] :: rs.eraseIdx i).Perm rs
  | _ :: _, 0, _ => List.Perm.refl _
  | r :: rs, i + 1, hi => (List.Perm.swap r _ _).trans ((pop_perm1 rs (by simpa using hi)).cons r)
theorem pop_perm (as rs : List Str) {i : Nat} (hi : i < rs.length) : (as ++ [rs[i]] ++ rs.eraseIdx i).Perm (as ++ rs) := by
  rw [List.append_assoc]
  exact List.Perm.append_left as (pop_perm1 rs hi)
theorem pop_map : ∀ (rs : List Str) (i : Nat), (rs.map V.str).eraseIdx i = (rs.eraseIdx i).map V.str
  | [], _ => rfl
  | _ :: _, 0 => rfl
  | r :: rs, i + 1 => by
    show V.str r :: (rs.map V.str).eraseIdx i = V.str r :: (rs.eraseIdx i).map V.str
    rw [pop_map rs i]
theorem pop_at {n i : Nat} (h : i < n) : seqIndex? (i : Int) n = some i := by
  unfold seqIndex?
  have h1 : ¬ ((i : Int) < 0) := by omega
  simp [h1, h]
section
variable {K : PySem.W.Frag} {mg : Str → Option Value} {g : Ads} {d : Wd} {H0 H H' : Hp} {a F L B Du du cl tw ba ze : Addr} {E : XK} {D : Ends} {b : Bool} {r : Option V} {v : V} {v1 v2 v3 v4 v5 v6 v7 v8 v9 v10 v11 v12 v13 v14 : Option V} {k k' : Nat} {gs : List (Str × V)} {ws : List Str} {as : List (Addr × Str)}
theorem st18 (T : Txt K mg g) (c : C34 K g d H0 H k) (hk : k + 1 ≤ 1000000) (eB : H B = some (.dK (dks gs))) (nB : H0 B = none) (nd : (gs.map (·.1)).Nodup) (lg : gs.length < 64) (hin : ∀ x ∈ gs, x.1 ∈ d.cs) (e1 : H du = some (.dK (dks (stK d.cs d.ps gs)))) (ndu : du ≠ B) (pv : ∀ x ∈ gs, PV x.2) (ecl : H cl = some (.lst (as.map fun a => V.ref a.1))) (car : ClR g H as) (la : as.length ≤ 20) (Gs : Goes34 g H0 a D) :
    R_law_18 K g E D [some (.ref a), v1, some (.ref d.p), some (.ref d.W), some (.ref d.sv), v5, v6, some (.ref B), v8, v9, some (.ref du), some (.ref cl), v12, v13, v14, none] H :=
  ⟨B, cl, gs, as, rfl, eB, nd, lg, pv, ecl, car, la, fun H1 s1 => zite (fun h => absurd h (by decide)) (fun _ => st20 (E := E) T (c.same s1) hk (s1 _ _ eB) nB lg hin (s1 _ _ e1) ndu pv Gs)⟩
theorem st17 (T : Txt K mg g) (c : C34 K g d H0 H k) (hk : k + 100 ≤ 1000000) (eB : H B = some (.dK (dks gs))) (nB : H0 B = none) (nd : (gs.map (·.1)).Nodup) (lg : gs.length < 64) (hin : ∀ x ∈ gs, x.1 ∈ d.cs) (e1 : H du = some (.dK (dks (stK d.cs d.ps gs)))) (ndu : du ≠ B) (pv : ∀ x ∈ gs, PV x.2) (Gs : Goes34 g H0 a D) :
    R_law_17 K g E D [some (.ref a), v1, some (.ref d.p), some (.ref d.W), some (.ref d.sv), v5, v6, some (.ref B), v8, v9, some (.ref du), v11, v12, v13, v14, none] H := by
  obtain ⟨_, _, _, ep, _⟩ := id c.dr
  have np : ∀ {x : Addr} {kvs : List (Key × V)}, H x = some (.dK kvs) → x ≠ d.p := fun e z => by rw [z, ep] at e; cases e
  refine ⟨d.p, k, 6, rfl, c.dr, by omega, by decide, by decide, fun m H1 m0 m1 D1 b1 => ?_⟩
  obtain ⟨m, rfl⟩ : ∃ q : Nat, m = q := ⟨m.toNat, by omega⟩
  refine ⟨d.p, k + 1, m, rfl, D1, by omega, by omega, fun Nl ns H2 hN eN lN nm D2 b2 => ⟨Nl, rfl, ⟨_, SqL.of eN⟩, ?_⟩⟩
  have c2 := (c.draw b1 D1).draw b2 D2
  have eB2 := b2 _ _ (b1 _ _ eB (np eB)) (np eB)
  have e12 := b2 _ _ (b1 _ _ e1 (np e1)) (np e1)
  refine lc_z (walk_list (xs := ns.map V.str)) (fun A i H' => Same H2 H' ∧ ∃ as : List (Addr × Str), H' A = some (.lst (as.map fun a => V.ref a.1)) ∧ as.length = i ∧ ClR g H' as) (fun A hA => ⟨Same.put hA, [], upd_same, rfl, fun a h => (nomatch h)⟩) (fun A i H' hA _ h => SqL.of (h.1 _ _ eN)) ?_ ?_
  · rintro A i x H3 H3' hA hi ⟨s3, as, eA, lA, cA⟩ ⟨rfl, hx⟩
    obtain ⟨rfl, li, hm⟩ := get_strs hx
    generalize ns.getD i "" = n
    refine ⟨rfl, rfl, rfl, fun x dx hx hdx ne => ?_⟩
    have m := mk_same (C := g.c_Call) hx hdx ne
    refine ⟨x, dx, n, .non, .non, .non, .non, .ref g.t_Call_init_fails, .ok [], rfl, upd_same, .inl rfl, .inl rfl, .inl rfl, .inl rfl, .inr ⟨_, [], [], rfl, .inl (T.kt_Call_init_fails _), .nil, rfl⟩, fun xs ex H4 b4 cl4 => ⟨rfl, ?_⟩, fun i er => (nomatch er)⟩
    have s4 := mk_out hx m.1 b4
    obtain ⟨dx', tp, ty, so, fu, te, h1, _⟩ := cl4
    have eA4 := s4 _ _ eA
    have nA : ∀ {y : Addr} {C dy : Addr} {fs : List (Str × V)}, H4 y = some (.ins C dy fs) → y ≠ A := fun e z => by rw [z, eA4] at e; cases e
    refine ⟨_, eA4, ?_, same_new hA (s3.trans s4), as ++ [(x, n)], ?_, ?_, fun y hy => ?_⟩
    · rw [List.length_map, lA]
      rw [List.length_map] at hi
      exact Nat.lt_of_lt_of_le (show i < 6 by omega) (by decide)
    · rw [upd_same, List.map_append]
      rfl
    · rw [List.length_append, lA]
      rfl
    · rcases List.mem_append.mp hy with h | h
      · obtain ⟨q1, q2, q3, q4, q5, q6, e⟩ := cA y h
        have e4 := s4 _ _ e
        exact ⟨q1, q2, q3, q4, q5, q6, by rw [upd_ne (nA e4)]; exact e4⟩
      · rw [List.mem_singleton.mp h]
        exact ⟨dx', tp, ty, so, fu, te, by rw [upd_ne (nA h1)]; exact h1⟩
  · rintro A H3 hA ⟨s3, as, eA, lA, cA⟩
    rw [List.length_map] at lA
    exact st18 (E := E) T (c2.same s3) (by omega) (s3 _ _ eB2) nB nd lg hin (s3 _ _ e12) ndu pv eA cA (by omega) Gs
theorem st14 (T : Txt K mg g) (c : C34 K g d H0 H k) (hk : k + 100 ≤ 1000000) (eB : H B = some (.dK (dks gs))) (nB : H0 B = none) (nd : (gs.map (·.1)).Nodup) (lg : gs.length < 64) (hin : ∀ x ∈ gs, x.1 ∈ d.cs) (pv : ∀ x ∈ gs, PV x.2) (Gs : Goes34 g H0 a D) :
    R_law_14 K g E D [some (.ref a), v1, some (.ref d.p), some (.ref d.W), some (.ref d.sv), v5, v6, some (.ref B), v8, v9, v10, v11, v12, v13, v14, none] H := by
  have lp := c.lp
  refine fun du hdu => ?_
  have s1 := Same.put (o := .dK []) hdu
  have e1 := upd_same (H := H) (a := du) (o := .dK [])
  have ndu : du ≠ B := fun z => by rw [z, eB] at hdu; cases hdu
  show R_law_15 K g E D [some (.ref a), v1, some (.ref d.p), some (.ref d.W), some (.ref d.sv), v5, v6, some (.ref B), v8, v9, some (.ref du), v11, v12, v13, v14, none] (upd H du (.dK []))
  generalize upd H du (.dK []) = H1 at s1 e1 ⊢
  refine wld_add (K := K) (w := 3) (σ := [some (.ref a), v1, some (.ref d.p), some (.ref d.W), some (.ref d.sv), v5, v6, some (.ref B), v8, v9, some (.ref du), v11, v12, v13, v14, none]) (c.w.same s1) rfl (by omega) fun X H2 s2 hX eX => ⟨X, rfl, ⟨_, SqL.of eX⟩, ?_⟩
  have s12 := s1.trans s2
  have e2 := s2 _ _ e1
  have w2 := c.w.same s12
  have eB2 := s12 _ _ eB
  have nX : X ≠ du := fun z => by rw [z, e1] at hX; cases hX
  obtain ⟨ps, eps⟩ : ∃ ps, ps = d.cs ++ (d.ls ++ d.fs) := ⟨_, rfl⟩
  rw [← eps] at eX
  have hps : d.ps = ps := eps.symm
  refine for_z (walk_list (xs := ps.map V.str)) (fun i σ H' => But du H2 H' ∧ H' du = some (.dK (dks (stK d.cs (ps.take i) gs))) ∧ ∃ v9, σ = [some (.ref a), v1, some (.ref d.p), some (.ref d.W), some (.ref d.sv), v5, v6, some (.ref B), v8, v9, some (.ref du), v11, v12, v13, v14, none])
    ⟨But.refl _ _, e2, _, rfl⟩ (fun i σ H' _ h => SqL.of (h.1 _ _ eX nX)) ?_ ?_
  · rintro i x σ H3 H3' hi ⟨b3, e3, v9, rfl⟩ ⟨rfl, hx⟩
    obtain ⟨rfl, li, hm⟩ := get_strs hx
    have en : ps[i]? = some (ps.getD i "") := by rw [List.getD_eq_getElem?_getD, List.getElem?_eq_getElem li]; rfl
    generalize ps.getD i "" = n at hm en ⊢
    have w3 : WldAt H3' d.W d.a0 d.a1 d.a2 d.a3 d.a4 d.cs d.ss d.ls d.fs d.es := w2.keep fun x xs ex _ => b3 _ _ ex (fun z => by rw [z, e2] at ex; cases ex)
    have eB3 := b3 _ _ eB2 ndu.symm
    have fin : ∀ z : V, z = (if n ∈ d.cs then .int 0 else .non) → ∃ o, DGet H3' B (.str n) o ∧ ∃ a' H4, V.ref du = V.ref a' ∧ DPut H3' a' (.str n) (o.getD z) H4 ∧ But du H2 H4 ∧ H4 du = some (.dK (dks (stK d.cs (ps.take (i + 1)) gs))) ∧ ∃ v9, [some (.ref a), v1, some (.ref d.p), some (.ref d.W), some (.ref d.sv), v5, v6, some (.ref B), v8, some (.str n), some (.ref du), v11, v12, v13, v14, none] = [some (.ref a), v1, some (.ref d.p), some (.ref d.W), some (.ref d.sv), v5, v6, some (.ref B), v8, v9, some (.ref du), v11, v12, v13, v14, none] := fun z ez => by
      refine ⟨lk gs n, .inl ⟨_, .inr n, .inl eB3, rfl, rfl⟩, du, _, rfl, .inl ⟨_, .inr n, e3, rfl, ?_, rfl⟩, b3.trans But.put, ?_, _, rfl⟩
      · rw [dks_len, stK_len, List.length_take]
        exact Nat.lt_of_le_of_lt (show _ ≤ 14 from Nat.le_trans (Nat.min_le_right _ _) (by rw [eps]; exact lp)) (by decide)
      · rw [upd_same, dks_put_new _ (by rw [stK_keys]; exact nodup_take (by rw [← hps]; exact c.sub.1) en), stK_take en, ez]
    refine ⟨B, rfl, .inl ⟨_, .inl eB3⟩, _, _, .inl (SqL.of w3.1), atI_nat (j := 0) rfl, .inr ⟨d.a0, _, rfl, .inl (SqL.of w3.2.1), rfl, all_flat _, ?_⟩⟩
    show if inV (.str n) (d.cs.map V.str) = true then _ else _
    rw [inV_strs]
    exact zite (fun hc => fin _ (if_pos (of_decide_eq_true hc)).symm) (fun hc => fin _ (if_neg (of_decide_eq_false hc)).symm)
  · rintro σ H3 ⟨b3, e3, v9, rfl⟩
    rw [List.length_map, List.take_length, ← hps] at e3
    have s3 : Same H H3 := fun x o e => b3 _ _ (s12 _ _ e) (ne_of_none e hdu)
    exact st17 (E := E) T (c.same s3) hk (s3 _ _ eB) nB nd lg hin e3 ndu pv Gs
theorem st12 (T : Txt K mg g) (c : C34 K g d H0 H k) (hk : k + 100 ≤ 1000000) (eF : H F = some (.lst (ws.map V.str))) (eB : H B = some (.dK (dks gs))) (nB : H0 B = none) (nd : (gs.map (·.1)).Nodup) (lg : gs.length < 64) (hkey : ∀ x ∈ gs, x.1 ∈ d.cs ∨ x.1 ∈ ws) (pv : ∀ x ∈ gs, PV x.2) (Gs : Goes34 g H0 a D) :
    R_law_12 K g E D [some (.ref a), v1, some (.ref d.p), some (.ref d.W), some (.ref d.sv), some (.ref F), v6, some (.ref B), v8, v9, v10, v11, v12, v13, v14, none] H := by
  have nFB : F ≠ B := fun z => by rw [z, eB] at eF; cases eF
  refine ⟨F, rfl, ⟨_, SqL.of eF⟩, for_z (walk_list (xs := ws.map V.str)) (fun i σ H' => But B H H' ∧ (∃ gs', H' B = some (.dK (dks gs')) ∧ gs'.Sublist gs ∧ ∀ x ∈ gs', x.1 ∉ ws.take i) ∧ ∃ v9, σ = [some (.ref a), v1, some (.ref d.p), some (.ref d.W), some (.ref d.sv), some (.ref F), v6, some (.ref B), v8, v9, v10, v11, v12, v13, v14, none])
    ⟨But.refl _ _, ⟨gs, eB, List.Sublist.refl _, fun x _ h => by simp at h⟩, _, rfl⟩ (fun i σ H' _ h => SqL.of (h.1 _ _ eF nFB)) ?_ ?_⟩
  · rintro i x σ H1 H1' hi ⟨b1, ⟨gs', e1, sb, nn⟩, v9, rfl⟩ ⟨rfl, hx⟩
    obtain ⟨rfl, li, hm⟩ := get_strs hx
    have en : ws[i]? = some (ws.getD i "") := by rw [List.getD_eq_getElem?_getD, List.getElem?_eq_getElem li]; rfl
    generalize ws.getD i "" = n at hm en ⊢
    have tk : ∀ {y : Str}, y ∈ ws.take (i + 1) → y ∈ ws.take i ∨ y = n := fun {y} h => by
      rw [List.take_add_one, en] at h
      rcases List.mem_append.mp h with h | h
      · exact .inl h
      · exact .inr (by simpa using h)
    refine ⟨B, rfl, .inl ⟨_, .inl e1⟩, dks gs', .inr n, e1, rfl, fun v hv => ?_, fun hn => ?_⟩
    · refine ⟨b1.trans But.put, ⟨dropS gs' n, by rw [upd_same, dks_drop], List.filter_sublist.trans sb, fun x hx hm2 => ?_⟩, _, rfl⟩
      obtain ⟨h1, h2⟩ := List.mem_filter.mp hx
      rcases tk hm2 with h | h
      · exact nn x h1 h
      · exact absurd h (of_decide_eq_true h2)
    · refine ⟨b1, ⟨gs', e1, sb, fun x hx hm2 => ?_⟩, _, rfl⟩
      rcases tk hm2 with h | h
      · exact nn x hx h
      · obtain ⟨v, hv⟩ := lk_some (gs := gs') (n := n) (List.mem_map.mpr ⟨x, hx, h⟩)
        have : lk gs' n = none := hn
        rw [this] at hv
        cases hv
  · rintro σ H1 ⟨b1, ⟨gs', e1, sb, nn⟩, v9, rfl⟩
    rw [List.length_map, List.take_length] at nn
    refine st14 (E := E) T (c.butK b1 eB nB) hk e1 nB (nd.sublist (sb.map _)) (Nat.lt_of_le_of_lt sb.length_le lg) (fun x hx => (hkey x (sb.subset hx)).resolve_right (nn x hx)) (fun x hx => pv x (sb.subset hx)) Gs
theorem st10 (T : Txt K mg g) (c : C34 K g d H0 H k) (hk : k + 100 ≤ 1000000) (eF : H F = some (.lst (ws.map V.str))) (eB : H B = some (.dK (dks gs))) (nB : H0 B = none) (nd : (gs.map (·.1)).Nodup) (lg : gs.length < 64) (hkey : ∀ x ∈ gs, x.1 ∈ d.cs ∨ x.1 ∈ ws) (pv : ∀ x ∈ gs, PV x.2) (hr : Due18 d.cs gs r) (eD : SqT K H Du (dueV r)) (Gs : Goes34 g H0 a D) :
    R_law_10 K g E D [some (.ref a), v1, some (.ref d.p), some (.ref d.W), some (.ref d.sv), some (.ref F), v6, some (.ref B), some (.ref Du), v9, v10, v11, v12, v13, v14, none] H := by
  have lp := c.lp
  refine ⟨c.t, fun H1 e1 t1 => ?_⟩
  have c1 := c.ext e1 t1
  have eB1 := e1 _ _ eB (by simp)
  have eF1 := e1 _ _ eF (by simp)
  have eD1 := (ExtL.ofN e1).tup eD
  have sm : ∀ u ∈ dueV r, SmV u := dueV_sm fun u hu => by
    rcases hr with ⟨e, _⟩ | ⟨z, e, _⟩
    · rw [e] at hu
      cases hu
    · rw [e] at hu
      obtain rfl : V.str z = u := by injection hu
      exact .inr (.inr (.inr (.inl ⟨_, rfl⟩)))
  have go : ∀ H', Same H1 H' → R_law_12 K g E D [some (.ref a), v1, some (.ref d.p), some (.ref d.W), some (.ref d.sv), some (.ref F), v6, some (.ref B), some (.ref Du), v9, v10, v11, v12, v13, v14, none] H' := fun H' s' => st12 (E := E) T (c1.same s') hk (s' _ _ eF1) (s' _ _ eB1) nB nd lg hkey pv Gs
  refine err_np T r (fun Ech Qa qn qs => ?_) (fun er q H' s' hq => .inr (.inl ⟨q, Du, _, rfl, rfl, ?_, Z.Same.tup s' eD1, sm, zite (fun h => absurd h (by simp)) (fun _ => go H' s')⟩)) (fun i er q H' s' hq => .inr (.inl ⟨q, Du, _, rfl, rfl, ?_, Z.Same.tup s' eD1, sm, zite (fun h => absurd h (by simp)) (fun _ => go H' s')⟩))
  · refine twin_new (hs := []) (gs := gs) c1.sv (.inr ⟨B, rfl, eB1⟩) lg c1.sub.1 (by omega) (fun hin H' o fd cd s _ _ _ st => ?_) (fun z hz H' dd s hd ex => ?_)
    · rcases hr with ⟨e, _⟩ | ⟨z, e, hz⟩
      · exact qn e _ _ s
      · obtain ⟨x, hx, rfl⟩ := List.mem_map.mp hz.1
        exact absurd (hin x hx) hz.2.1
    · rcases hr with ⟨e, hin⟩ | ⟨y, e, hy⟩
      · obtain ⟨x, hx, rfl⟩ := List.mem_map.mp hz.1
        exact absurd (hin x hx) hz.2.1
      · obtain rfl := badK_one hy hz
        exact qs _ e _ dd s hd ex
  · rw [er]
    exact SqT.of hq
  · rw [er]
    exact SqT.of hq
theorem st9 (T : Txt K mg g) (c : C34 K g d H0 H k) (hk : k + 100 ≤ 1000000) (eF : H F = some (.lst (ws.map V.str))) (eB : H B = some (.dK (dks gs))) (nB : H0 B = none) (nd : (gs.map (·.1)).Nodup) (lg : gs.length < 64) (hkey : ∀ x ∈ gs, x.1 ∈ d.cs ∨ x.1 ∈ ws) (hw : ∀ z ∈ ws, z ∈ gs.map (·.1)) (hwc : ∀ z ∈ ws, z ∉ d.cs) (pv : ∀ x ∈ gs, PV x.2) (Gs : Goes34 g H0 a D) :
    R_law_9 K g E D [some (.ref a), v1, some (.ref d.p), some (.ref d.W), some (.ref d.sv), some (.ref F), v6, some (.ref B), v8, v9, v10, v11, v12, v13, v14, none] H := by
  refine ⟨(by decide : 0 ≤ sizeLine), fun l hl => .inl ⟨F, l, _, rfl, rfl, SqL.of (Same.put hl _ _ eF), SqL.of upd_same, ?_⟩⟩
  have s1 := Same.put (o := .lst []) hl
  have c1 := c.same s1
  have eF1 := s1 _ _ eF
  have eB1 := s1 _ _ eB
  generalize upd H l (.lst []) = H1 at s1 c1 eF1 eB1 ⊢
  refine zite (fun hn => ?_) (fun hn => ?_)
  · have ne : ws ≠ [] := fun z => by rw [z] at hn; cases hn
    refine ⟨F, ws, rfl, SqL.of eF1, ne, fun z hz hmin => ⟨(by decide : 2 ≤ sizeLine), fun q hq => ?_⟩⟩
    have s2 := Same.put (o := .tup [.str z, .bl true]) hq
    refine st10 (E := E) (r := some (.str z)) T (c1.same s2) hk (s2 _ _ eF1) (s2 _ _ eB1) nB nd lg hkey pv (.inr ⟨z, rfl, hw z hz, hwc z hz, fun y hy hy2 => ?_⟩) (SqT.of upd_same) Gs
    obtain ⟨x, hx, rfl⟩ := List.mem_map.mp hy
    exact List.not_lt.mp (hmin x.1 ((hkey x hx).resolve_left hy2))
  · have e : ws = [] := by
      cases ws with
      | nil => rfl
      | cons x y => cases hn
    refine ⟨(by decide : 0 ≤ sizeLine), fun q hq => ?_⟩
    have s2 := Same.put (o := .tup []) hq
    refine st10 (E := E) (r := none) T (c1.same s2) hk (s2 _ _ eF1) (s2 _ _ eB1) nB nd lg hkey pv (.inl ⟨rfl, fun x hx => ?_⟩) (SqT.of upd_same) Gs
    refine (hkey x hx).resolve_right fun z => ?_
    rw [e] at z
    cases z
end
end Z
namespace Z
open PySem PySem.Spec PyProof.Rows L2
open LamX (CodeO Tabs TabS TabB ExtN GivesTo tLam lamCx lamEnv LamS lamS_by)
section
variable {K : PySem.W.Frag} {mg : Str → Option Value} {g : Ads} {d : Wd} {H0 H H' H6 : Hp} {a F L B Du du cl tw ba ze : Addr} {E : XK} {D : Ends} {b : Bool} {r : Option V} {v : V} {v1 v2 v3 v4 v5 v6 v7 v8 v9 v10 v11 v12 v13 v14 : Option V} {k k' : Nat} {gs : List (Str × V)} {ws : List Str} {as : List (Addr × Str)}
/-- the keys are taken one by one, some of them more than once -/
theorem st7 (T : Txt K mg g) {ls : List Str} (hD : DrwAt H d.p k) (hk : k + 100 ≤ 1000000) (eL : H L = some (.lst (ls.map V.str))) (eB : H B = some (.dK (dks []))) (nL : L ≠ d.p) (hl : ls.length ≤ 9)
    (q : ∀ (gs : List (Str × V)) (H' : Hp), H' B = some (.dK (dks gs)) → gs.length ≤ 9 → (gs.map (·.1)).Nodup → (∀ z, z ∈ gs.map (·.1) ↔ z ∈ ls) → (∀ x ∈ gs, PV x.2) → DrwAt H' d.p (k + 100) → (∀ c u, H c = some u → c ≠ d.p → c ≠ L → c ≠ B → H' c = some u) →
      R_law_9 K g E D [some (.ref a), v1, some (.ref d.p), v3, v4, v5, some (.ref L), some (.ref B), v8, v9, v10, v11, v12, v13, v14, none] H') :
    R_law_7 K g E D [some (.ref a), v1, some (.ref d.p), v3, v4, v5, some (.ref L), some (.ref B), v8, v9, v10, v11, v12, v13, v14, none] H := by
  have nLB : L ≠ B := fun z => by rw [z, eB] at eL; cases eL
  have nB : B ≠ d.p := fun z => by obtain ⟨_, _, _, e, _⟩ := hD; rw [z, e] at eB; cases eB
  refine ⟨fun m σ H' => m ≤ ls.length ∧ σ = [some (.ref a), v1, some (.ref d.p), v3, v4, v5, some (.ref L), some (.ref B), v8, v9, v10, v11, v12, v13, v14, none] ∧ DrwAt H' d.p (k + 5 * (ls.length - m)) ∧ (∀ c u, H c = some u → c ≠ d.p → c ≠ L → c ≠ B → H' c = some u) ∧ ∃ (rs : List Str) (gs : List (Str × V)), H' L = some (.lst (rs.map V.str)) ∧ rs.length = m ∧ H' B = some (.dK (dks gs)) ∧ gs.length + m ≤ ls.length ∧ (gs.map (·.1)).Nodup ∧ (∀ z, (z ∈ gs.map (·.1) ∨ z ∈ rs) ↔ z ∈ ls) ∧ ∀ x ∈ gs, PV x.2,
    ⟨ls.length, Nat.le_refl _, rfl, hD.up (by omega), fun c u e _ _ _ => e, ls, [], eL, rfl, eB, by simp, List.nodup_nil, by simp, fun x h => (nomatch h)⟩, ?_⟩
  rintro m σ H2 ⟨hm, rfl, D2, k2, rs, gs, e2, l2, f2, s2, nd, ky, pv⟩
  refine ⟨(by decide : 0 ≤ sizeLine), fun z hz => ?_⟩
  have s3 := Same.put (o := .lst []) hz
  refine .inl ⟨L, z, _, rfl, rfl, SqL.of (s3 _ _ e2), SqL.of upd_same, ?_⟩
  have D3 := D2.same s3
  have e3 := s3 _ _ e2
  have f3 := s3 _ _ f2
  have k3 : ∀ c u, H c = some u → c ≠ d.p → c ≠ L → c ≠ B → (upd H2 z (.lst [])) c = some u := fun c u h1 h2 h3 h4 => s3 _ _ (k2 c u h1 h2 h3 h4)
  generalize upd H2 z (.lst []) = H3 at D3 e3 f3 k3 ⊢
  cases rs with
  | nil => exact q gs H3 f3 (by omega) nd (fun z => by rw [← ky]; simp) pv (D3.up (by omega)) k3
  | cons r0 rt =>
    show ∃ N : St → Hp → Prop, _
    refine ⟨fun σ' H' => σ' = [some (.ref a), v1, some (.ref d.p), v3, v4, v5, some (.ref L), some (.ref B), v8, v9, v10, v11, v12, v13, v14, none] ∧ ∃ m', m' < m ∧ DrwAt H' d.p (k + 5 * (ls.length - m')) ∧ (∀ c u, H c = some u → c ≠ d.p → c ≠ L → c ≠ B → H' c = some u) ∧ ∃ (rs : List Str) (gs : List (Str × V)), H' L = some (.lst (rs.map V.str)) ∧ rs.length = m' ∧ H' B = some (.dK (dks gs)) ∧ gs.length + m' ≤ ls.length ∧ (gs.map (·.1)).Nodup ∧ (∀ z, (z ∈ gs.map (·.1) ∨ z ∈ rs) ↔ z ∈ ls) ∧ ∀ x ∈ gs, PV x.2, fun σ' H' ⟨e, m', lm, a, b, c⟩ => ⟨m', lm, by omega, e, a, b, c⟩, ?_⟩
    have lp : (0 : Int) < ((r0 :: rt).map V.str).length := by simp
    have ll : ((r0 :: rt).map V.str).length ≤ 9 := by rw [List.length_map]; omega
    refine ⟨d.p, _, rfl, D3, by omega, fun v H5 v0 v1 D5 b5 => ?_⟩
    have e5 := b5 _ _ e3 nL
    refine ⟨.inl ⟨rfl, _, SqL.of e5⟩, _, .inl (SqL.of e5), d.p, _, _, rfl, D5, by omega, lp, by omega, fun i H6 i0 i1 D6 b6 => ?_⟩
    obtain ⟨n, rfl⟩ : ∃ n : Nat, i = n := ⟨i.toNat, by omega⟩
    have hn : n < (r0 :: rt).length := by rw [List.length_map] at i1; omega
    have e6 := b6 _ _ e5 nL
    have f6 := b6 _ _ (b5 _ _ f3 nB) nB
    have le : ((r0 :: rt).eraseIdx n).length = m - 1 := by rw [List.length_eraseIdx, if_pos hn, l2]
    have hm0 : 0 < m := by rw [← l2]; simp
    have pe := pop_perm1 (r0 :: rt) hn
    refine ⟨L, _, n, n, .str (r0 :: rt)[n], rfl, rfl, e6, by omega, ?_, pop_at (by rw [List.length_map]; exact hn), by rw [List.getElem?_map, List.getElem?_eq_getElem hn]; rfl, B, _, rfl, .inl ⟨dks gs, .inr (r0 :: rt)[n], by rw [upd_ne nLB.symm]; exact f6, rfl, ?_, rfl⟩, rfl, m - 1, by omega, ?_, ?_, (r0 :: rt).eraseIdx n, putS gs (r0 :: rt)[n] (.int v), ?_, le, ?_, ?_, putS_nodup _ _ nd, fun z => ?_, fun x hx => ?_⟩
    · have : n < 9 := by omega
      omega
    · rw [dks_len]
      exact Nat.lt_of_le_of_lt (show gs.length ≤ 9 by omega) (by decide)
    · obtain ⟨g1, s1, t1, a1', a2'⟩ := D6
      exact DrwAt.up ⟨g1, s1, t1, by rw [upd_ne nB.symm, upd_ne nL.symm]; exact a1', a2'⟩ (by omega)
    · intro c u h1 h2 h3 h4
      rw [upd_ne h4, upd_ne h3]
      exact b6 _ _ (b5 _ _ (k3 c u h1 h2 h3 h4) h2) h2
    · rw [upd_ne nLB, upd_same, pop_map]
    · rw [upd_same, dks_put]
    · have := putS_len gs (r0 :: rt)[n] (.int v)
      omega
    · rw [putS_key, ← ky z, ← pe.mem_iff (a := z), List.mem_cons]
      constructor
      · rintro ((h | h) | h)
        · exact .inl h
        · exact .inr (.inl h)
        · exact .inr (.inr h)
      · rintro (h | h | h)
        · exact .inl (.inl h)
        · exact .inl (.inr h)
        · exact .inr h
    · rcases putS_mem hx with h | h
      · exact pv x h
      · rw [h]
        exact .inr ⟨v, rfl⟩
theorem but_free2 (s : But d.p H H') (D' : DrwAt H' d.p k) {x : Addr} (h : H' x = none) : H x = none := by
  cases z : H x with
  | none => rfl
  | some u =>
    have n : x ≠ d.p := fun e => by
      obtain ⟨_, _, _, e', _⟩ := D'
      rw [e, e'] at h
      cases h
    rw [s _ _ z n] at h
    cases h
theorem drw_neS {H : Hp} {p a : Addr} {n : Nat} {ns : List Str} (d : DrwAt H p n) (e : H a = some (.lst (ns.map V.str))) : a ≠ p := fun z => by
  obtain ⟨g1, s1, t1, e1, _⟩ := d
  rw [z, e1] at e
  cases ns <;> cases e
theorem st6 (T : Txt K mg g) (c : C34 K g d H0 H k) (sm : Same H0 H) (hk : k + 300 ≤ 1000000) (eF : H F = some (.lst (ws.map V.str))) (lw : ws.length ≤ 3) (hwc : ∀ z ∈ ws, z ∉ d.cs) (Gs : Goes34 g H0 a D) :
    R_law_6 K g E D [some (.ref a), v1, some (.ref d.p), some (.ref d.W), some (.ref d.sv), some (.ref F), v6, v7, v8, v9, v10, v11, v12, v13, v14, none] H := by
  have c6 := c.c6
  have ec := c.w.2.1
  have nc := drw_neS c.dr ec
  refine ⟨_, _, .inl (SqL.of c.w.1), atI_nat (j := 0) rfl, d.a0, rfl, ⟨_, SqL.of ec⟩, lc_z (walk_list (xs := d.cs.map V.str)) (fun A i H' => But d.p H H' ∧ DrwAt H' d.p (k + i) ∧ ∃ sel : List Str, H' A = some (.lst (sel.map V.str)) ∧ sel.Sublist (d.cs.take i)) ?_ ?_ ?_ ?_⟩
  · exact fun A h => ⟨But.same (Same.put h), c.dr.same (Same.put h), [], upd_same, List.nil_sublist _⟩
  · exact fun A i H' h hi inv => SqL.of (inv.1 _ _ ec nc)
  · rintro A i x H2 H2' h hi ⟨b2, D2, sel, e2, sb⟩ ⟨rfl, hx⟩
    rw [List.length_map] at hi
    have nA := drw_neS D2 e2
    obtain ⟨rfl, li, hm⟩ := get_strs hx
    have en : d.cs[i]? = some (d.cs.getD i "") := by rw [List.getD_eq_getElem?_getD, List.getElem?_eq_getElem li]; rfl
    refine ⟨rfl, d.p, _, 2, rfl, D2, by omega, by decide, by decide, fun r H3 r0 r1 D3 b3 => .inr (.inr (.inr (.inl ⟨rfl, zite (fun _ => ?_) (fun _ => ?_)⟩)))⟩
    · refine ⟨sel.map V.str, b3 _ _ e2 nA, ?_, ?_, ?_, sel ++ [d.cs.getD i ""], ?_, ?_⟩
      · rw [List.length_map]
        exact Nat.lt_of_le_of_lt (show sel.length ≤ 6 by have := sb.length_le; rw [List.length_take] at this; omega) (by decide)
      · exact fun x u e ne => by rw [upd_ne (ne_of_none e h)]; exact b3 _ _ (b2 _ _ e ne) ne
      · obtain ⟨g1, s1, t1, a1', a2'⟩ := D3
        exact DrwAt.up ⟨g1, s1, t1, by rw [upd_ne nA.symm]; exact a1', a2'⟩ (by omega)
      · rw [upd_same, List.map_append]
        rfl
      · rw [List.take_add_one, en]
        exact sb.append (List.Sublist.refl _)
    · exact ⟨b2.trans b3, D3, sel, b3 _ _ e2 nA, by rw [List.take_add_one]; exact sb.trans (List.sublist_append_left _ _)⟩
  · rintro A H2 h ⟨b2, D2, sel, e2, sb⟩
    rw [List.length_map] at D2
    have sb := sb.trans (List.take_sublist _ _)
    have lsel := sb.length_le
    have eF2 := b2 _ _ eF (drw_neS c.dr eF)
    have c2 := c.draw b2 (D2.up (show k + d.cs.length ≤ k + 6 by omega))
    have sm2 : Same H0 H2 := fun x o e => b2 _ _ (sm _ _ e) (ne_of_none e c.np)
    refine ⟨_, _, e2, eF2, ?_, fun L hL => ?_⟩
    · rw [List.length_map, List.length_map]
      exact Nat.le_trans (show sel.length + ws.length ≤ 9 by omega) (by decide)
    have s3 := Same.put (o := .lst (sel.map V.str ++ ws.map V.str)) hL
    have eL := upd_same (H := H2) (a := L) (o := .lst (sel.map V.str ++ ws.map V.str))
    have nL : L ≠ d.p := fun z => by obtain ⟨_, _, _, e, _⟩ := D2; rw [z, e] at hL; cases hL
    generalize upd H2 L (.lst (sel.map V.str ++ ws.map V.str)) = H3 at s3 eL ⊢
    rw [← List.map_append] at eL
    refine fun B hB => ⟨(by decide : 2 ≤ sizeLine), fun T2 hT => ?_⟩
    have s4 := Same.put (o := .dK (dks [])) hB
    have eB := upd_same (H := H3) (a := B) (o := .dK (dks []))
    have nB3 := hB
    change (upd H3 B (.dK (dks []))) T2 = none at hT
    have hB2 : H2 B = none := s3.free hB
    have hB0 : H0 B = none := sm2.free hB2
    refine ⟨T2, _, rfl, SqT.of upd_same, rfl, _, _, rfl, _, _, rfl, rfl, ?_⟩
    have s5 := Same.put (o := .tup [.ref L, .ref B]) hT
    have e5L := s5 _ _ (s4 _ _ eL)
    have e5B := s5 _ _ eB
    have s25 := (s3.trans s4).trans s5
    show R_law_7 K g E D [some (.ref a), v1, some (.ref d.p), some (.ref d.W), some (.ref d.sv), some (.ref F), some (.ref L), some (.ref B), v8, v9, v10, v11, v12, v13, v14, none] (upd (upd H3 B (.dK (dks []))) T2 (.tup [.ref L, .ref B]))
    generalize upd (upd H3 B (.dK (dks []))) T2 (.tup [.ref L, .ref B]) = H5 at s5 e5L e5B s25 ⊢
    refine st7 (E := E) T (c2.dr.same s25) (by omega) e5L e5B nL (by rw [List.length_append]; omega) fun gs H7 f7 l7 n7 k7 p7 D7 k7' => ?_
    have b27 : But d.p H2 H7 := fun x u e n => k7' _ _ (s25 _ _ e) n (ne_of_none e hL) (ne_of_none e hB2)
    have c7 := c2.draw b27 D7
    have eF7 := b27 _ _ eF2 (drw_neS c2.dr eF2)
    refine st9 (E := E) T c7 (by omega) eF7 f7 hB0 n7 (by omega) (fun x hx => ?_) (fun z hz => (k7 z).mpr (List.mem_append_right _ hz)) hwc p7 Gs
    rcases List.mem_append.mp ((k7 x.1).mp (List.mem_map_of_mem hx)) with h | h
    · exact .inl (sb.subset h)
    · exact .inr h
theorem st5 (T : Txt K mg g) (c : C34 K g d H0 H k) (sm : Same H0 H) (hk : k + 400 ≤ 1000000) (Gs : Goes34 g H0 a D) :
    R_law_5 K g E D [some (.ref a), v1, some (.ref d.p), some (.ref d.W), some (.ref d.sv), v5, v6, v7, v8, v9, v10, v11, v12, v13, v14, none] H := by
  refine ⟨d.p, k, 4, rfl, c.dr, by omega, by decide, by decide, fun n H1 n0 n1 D1 b1 => ⟨n, rfl, by omega, by omega, ?_⟩⟩
  have c1 := c.draw b1 D1
  have sm1 : Same H0 H1 := fun x o e => b1 _ _ (sm _ _ e) (ne_of_none e c.np)
  have hn : n.toNat ≤ 3 := by omega
  have s4 := c.s4; have l4 := c.l4; have f4 := c.f4; have e6 := c.e6
  refine lc_z walk_range (fun A i H' => But d.p H1 H' ∧ DrwAt H' d.p (k + 1 + i) ∧ ∃ ws : List Str, H' A = some (.lst (ws.map V.str)) ∧ ws.length = i ∧ ∀ z ∈ ws, z ∈ d.ss ++ (d.ls ++ (d.fs ++ d.es))) (fun A hA => ⟨But.same (Same.put hA), D1.same (Same.put hA), [], upd_same, rfl, fun z h => (nomatch h)⟩) (fun _ _ _ _ _ _ => trivial) ?_ ?_
  · rintro A i x H2 H2' hA hi ⟨b2, D2, ws, e2, l2, m2⟩ ⟨rfl, rfl⟩
    have c2 := c1.draw b2 D2
    have nA := drw_neS D2 e2
    refine ⟨rfl, _, _, .inl (SqL.of c2.w.1), atI_nat (j := 1) rfl, _, _, .inl (SqL.of c2.w.1), atI_nat (j := 2) rfl, _, _, c2.w.2.2.1, c2.w.2.2.2.1, ?_, fun x1 hx1 => ?_⟩
    · rw [List.length_map, List.length_map]
      exact Nat.le_trans (show _ ≤ 8 by omega) (by decide)
    have t1 := Same.put (o := .lst (d.ss.map V.str ++ d.ls.map V.str)) hx1
    have ex1 := upd_same (H := H2') (a := x1) (o := .lst (d.ss.map V.str ++ d.ls.map V.str))
    have c3 := c2.same t1
    generalize upd H2' x1 (.lst (d.ss.map V.str ++ d.ls.map V.str)) = H3 at t1 ex1 c3 ⊢
    refine ⟨_, _, .inl (SqL.of c3.w.1), atI_nat (j := 3) rfl, _, _, ex1, c3.w.2.2.2.2.1, ?_, fun x2 hx2 => ?_⟩
    · rw [List.length_append, List.length_map, List.length_map, List.length_map]
      exact Nat.le_trans (show _ ≤ 12 by omega) (by decide)
    have t2 := Same.put (o := .lst (d.ss.map V.str ++ d.ls.map V.str ++ d.fs.map V.str)) hx2
    have ex2 := upd_same (H := H3) (a := x2) (o := .lst (d.ss.map V.str ++ d.ls.map V.str ++ d.fs.map V.str))
    have c4 := c3.same t2
    generalize upd H3 x2 (.lst (d.ss.map V.str ++ d.ls.map V.str ++ d.fs.map V.str)) = H4 at t2 ex2 c4 ⊢
    refine ⟨_, _, .inl (SqL.of c4.w.1), atI_nat (j := 4) rfl, _, _, ex2, c4.w.2.2.2.2.2, ?_, fun x3 hx3 => ?_⟩
    · rw [List.length_append, List.length_append, List.length_map, List.length_map, List.length_map, List.length_map]
      exact Nat.le_trans (show _ ≤ 18 by omega) (by decide)
    have t3 := Same.put (o := .lst (d.ss.map V.str ++ d.ls.map V.str ++ d.fs.map V.str ++ d.es.map V.str)) hx3
    have ex3 := upd_same (H := H4) (a := x3) (o := .lst (d.ss.map V.str ++ d.ls.map V.str ++ d.fs.map V.str ++ d.es.map V.str))
    have c5 := c4.same t3
    have n3 : x3 ≠ d.p := fun z => by obtain ⟨_, _, _, e, _⟩ := c4.dr; rw [z, e] at hx3; cases hx3
    have ts := (t1.trans t2).trans t3
    generalize upd H4 x3 (.lst (d.ss.map V.str ++ d.ls.map V.str ++ d.fs.map V.str ++ d.es.map V.str)) = H5 at t3 ex3 c5 ts ⊢
    refine ⟨d.p, x3, _, _, rfl, c5.dr, by omega, ex3, n3, ?_, ?_, fun v H6 hv D6 b6 => ?_⟩
    · rw [List.length_append, List.length_map (as := d.es), e6]
      exact Nat.lt_of_lt_of_le (by decide : 0 < 6) (Nat.le_add_left _ _)
    · rw [List.length_append, List.length_append, List.length_append, List.length_map, List.length_map, List.length_map, List.length_map]
      omega
    obtain ⟨z, rfl, hz⟩ : ∃ z, v = .str z ∧ z ∈ d.ss ++ (d.ls ++ (d.fs ++ d.es)) := by
      simp only [List.mem_append, List.mem_map] at hv ⊢
      rcases hv with ((⟨z, hz, rfl⟩ | ⟨z, hz, rfl⟩) | ⟨z, hz, rfl⟩) | ⟨z, hz, rfl⟩
      · exact ⟨z, rfl, .inl hz⟩
      · exact ⟨z, rfl, .inr (.inl hz)⟩
      · exact ⟨z, rfl, .inr (.inr (.inl hz))⟩
      · exact ⟨z, rfl, .inr (.inr (.inr hz))⟩
    have e7 := b6 _ _ (ts _ _ e2) nA
    refine ⟨_, e7, ?_, ?_, ?_, ws ++ [z], ?_, by rw [List.length_append, l2]; rfl, fun y hy => ?_⟩
    · rw [List.length_map, l2]
      exact Nat.lt_of_lt_of_le (show i < 4 by omega) (by decide)
    · exact fun x u e ne => by rw [upd_ne (ne_of_none e hA)]; exact b6 _ _ (ts _ _ (b2 _ _ e ne)) ne
    · obtain ⟨g1, s1, t1, a1', a2'⟩ := D6
      exact DrwAt.up ⟨g1, s1, t1, by rw [upd_ne nA.symm]; exact a1', a2'⟩ (by omega)
    · rw [upd_same, List.map_append]
      rfl
    · rcases List.mem_append.mp hy with h | h
      · exact m2 y h
      · rw [List.mem_singleton.mp h]
        exact hz
  · rintro A H2 hA ⟨b2, D2, ws, e2, l2, m2⟩
    have sm2 : Same H0 H2 := fun x o e => b2 _ _ (sm1 _ _ e) (ne_of_none e c.np)
    refine st6 (E := E) T (c1.draw b2 D2) sm2 (by omega) e2 (by omega) (fun z hz hc => ?_) Gs
    exact (List.nodup_append.mp c.nm.1).2.2 z hc z (m2 z hz) rfl
theorem st2_34 (T : Txt K mg g) {ns : List Int} {j : Int} (hs : SqL K H0 a (ns.map V.int)) (hn : ns.length ≤ 63) (j0 : 0 ≤ j) (j1 : j ≤ 20) (t : Tabs (TL g) H0) (Gs : Goes34 g H0 a D) :
    R_law_2 K g E D [some (.ref a), some (.int j), v2, v3, v4, v5, v6, v7, v8, v9, v10, v11, v12, v13, v14, none] H0 := by
  refine ⟨a, ns, j, rfl, hs, hn, j0, j1, fun p H1 hp s1 d1 => ⟨p, rfl, d1, fun W a0 a1 a2 a3 a4 cs ss ls fs es H2 hW eW e0 e1 e2 e3 e4 nm c6 s4 l4 f4 e6 d2 b2 => ?_⟩⟩
  have s2 : Same H0 H2 := fun c u ec => b2 _ _ (s1 _ _ ec) (ne_of_none ec hp)
  have w2 : WldAt H2 W a0 a1 a2 a3 a4 cs ss ls fs es := ⟨eW, e0, e1, e2, e3, e4⟩
  refine ⟨rfl, (by decide : 0 ≤ sizeLine), fun hl hhl => ?_⟩
  have s3 := Same.put (o := .lst []) hhl
  have eh := upd_same (H := H2) (a := hl) (o := .lst [])
  generalize upd H2 hl (.lst []) = H3 at s3 eh ⊢
  have w3 := w2.same s3
  refine ⟨_, _, .inl (SqL.of w3.1), atI_nat (j := 0) rfl, _, _, .inl (SqL.of w3.1), atI_nat (j := 1) rfl, _, _, .inl (SqL.of w3.1), atI_nat (j := 2) rfl, _, _, .inl (SqL.of w3.1), atI_nat (j := 3) rfl, rfl, rfl, ?_⟩
  have sub3 : (cs ++ (ss ++ (ls ++ fs))).Sublist (cs ++ (ss ++ (ls ++ (fs ++ es)))) := (List.Sublist.refl cs).append ((List.Sublist.refl ss).append ((List.Sublist.refl ls).append (List.sublist_append_left fs es)))
  refine made_ok (hs := []) (cs := cs) (ss := ss) (ls := ls) (fs := fs) (.inr (SqL.of eh)) (.inr (SqL.of w3.2.1)) (.inr (SqL.of w3.2.2.1)) (.inr (SqL.of w3.2.2.2.1)) (.inr (SqL.of w3.2.2.2.2.1)) rfl (nm.sub sub3) c6 s4 l4 f4 rfl (by decide) fun H4 sv s4' _ svo => ?_
  have s34 := s3.trans s4'
  have sall := s2.trans s34
  exact st5 (E := E) (k := 300) (d := ⟨p, W, a0, a1, a2, a3, a4, sv, cs, ss, ls, fs, es⟩) T ⟨ExtN.of sall, hp, t.ext sall, d2.same s34, w2.same s34, nm, c6, s4, l4, f4, e6, svo⟩ sall (by decide) Gs
end
theorem pf_law {K : PySem.W.Frag} {mg : Str → Option Value} {g : Ads} (T : Txt K mg g) (vs : List V) (H : Hp) (Q : VK) (E : XK) (h : spLawT g.tb_law K vs H Q E) : rw_law K g vs H Q E := by
  obtain ⟨a, ns, rfl, hs, hn, ht, q⟩ := h
  have tabs : Tabs (TL g) H := fun p hp => by
    obtain rfl := List.mem_singleton.mp hp
    exact TabS.nil ht
  refine ⟨rfl, _, .inl hs, _, rfl, ?_, ?_, for_z walk_range (fun i σ H' => ExtN H H' ∧ Tabs (TL g) H' ∧ ∃ v1 v2 v3 v4 v5 v6 v7 v8 v9 v10 v11 v12 v13 v14, σ = [some (.ref a), v1, v2, v3, v4, v5, v6, v7, v8, v9, v10, v11, v12, v13, v14, none]) ⟨ExtN.refl H, tabs, _, _, _, _, _, _, _, _, _, _, _, _, _, _, rfl⟩ (fun _ _ _ _ _ => trivial)
    (fun i x σ H1 H1' hi ⟨s1, t1, v1, v2, v3, v4, v5, v6, v7, v8, v9, v10, v11, v12, v13, v14, e1⟩ yy => ?_) (fun σ H1 _ => q H1)⟩
  · split <;> split <;> omega
  · rw [List.length_map]; split <;> split <;> omega
  · obtain ⟨rfl, rfl⟩ := yy
    subst e1
    have hi2 : (i : Int) < 12 := by
      split at hi <;> split at hi <;> omega
    refine st2_34 (E := E) T (ext_lst s1 hs) hn (by omega) (by omega) t1 ?_
    exact fun H' w1 w2 w3 w4 w5 w6 w7 w8 w9 w10 w11 w12 w13 w14 s2 t2 => ⟨s1.trans s2, t2, _, _, _, _, _, _, _, _, _, _, _, _, _, _, rfl⟩
theorem ok_law {P : Program} {w : World} {K : PySem.W.Frag} {mg : Str → Option Value} {base : Heap} {g : Ads} (T : Txt K mg g) (TB : TabB base mg g.co_law g.tb_law) : FnG false P w K mg base 11 g.f_law g.d_law ["script"] (spLawT g.tb_law K) := (raw_law T TB).imp (pf_law T)
end Z
namespace Z
open PySem PySem.Spec PyProof.Rows L2
open LamX (CodeO Tabs TabS TabB ExtN GivesTo tLam lamCx lamEnv LamS lamS_by)
theorem kt_of {K : PySem.W.Frag} {C : Addr} {T : String} (ht : PySem.W.typeIn K (.ref C) = some (.type "type")) (hm : PySem.W.mroIn K C (.type "object") = some true) (hs : PySem.W.subIn K (.type T) (.ref C) = some false) :
    PySem.W.kitOne K (.type T) (.ref C) = some false := by
  have hc : (PySem.W.clsIn K C).isSome = true := by
    unfold PySem.W.mroIn at hm
    cases e : PySem.W.clsIn K C with
    | none => rw [e] at hm; cases hm
    | some d => rfl
  have hn : ((Value.type T) == Value.ref C) = false := by
    rw [beq_eq_false_iff_ne]
    exact fun h => nomatch h
  unfold PySem.W.kitOne PySem.W.kitCls
  rw [hn]
  simp [hc, ht, hs]
theorem all_mk {P : Program} {w : World} {K : PySem.W.Frag} {h : Heap} {mg : Str → Option Value} {fa : Addr} (X : K.In h) (G : h.Ns mainGlobals mg) (hfa : mg "law" = some (.ref fa))
    {f_BadName_init : Addr} {od_BadName_init an_BadName_init : Option Addr} {sl_BadName_init : Array (Option Value)} {oc_BadName_init kV_BadName_init dc_BadName_init pm_BadName_init cd_BadName_init ct_BadName_init : Value}
    {f_BadFail_init : Addr} {od_BadFail_init an_BadFail_init : Option Addr} {sl_BadFail_init : Array (Option Value)} {oc_BadFail_init kV_BadFail_init dc_BadFail_init pm_BadFail_init cd_BadFail_init ct_BadFail_init : Value}
    {f_Twice_init : Addr} {od_Twice_init an_Twice_init : Option Addr} {sl_Twice_init : Array (Option Value)} {oc_Twice_init kV_Twice_init dc_Twice_init pm_Twice_init cd_Twice_init ct_Twice_init : Value}
    {f_NoPlace_init : Addr} {od_NoPlace_init an_NoPlace_init : Option Addr} {sl_NoPlace_init : Array (Option Value)} {oc_NoPlace_init kV_NoPlace_init dc_NoPlace_init pm_NoPlace_init cd_NoPlace_init ct_NoPlace_init : Value}
    {f_TooMany_init : Addr} {od_TooMany_init an_TooMany_init : Option Addr} {sl_TooMany_init : Array (Option Value)} {oc_TooMany_init kV_TooMany_init dc_TooMany_init pm_TooMany_init cd_TooMany_init ct_TooMany_init : Value}
    {f_is_name : Addr} {od_is_name an_is_name : Option Addr} {sl_is_name : Array (Option Value)} {oc_is_name kV_is_name dc_is_name pm_is_name cd_is_name ct_is_name : Value}
    {f_is_int : Addr} {od_is_int an_is_int : Option Addr} {sl_is_int : Array (Option Value)} {oc_is_int kV_is_int dc_is_int pm_is_int cd_is_int ct_is_int : Value}
    {f_check_name : Addr} {od_check_name an_check_name : Option Addr} {sl_check_name : Array (Option Value)} {oc_check_name kV_check_name dc_check_name pm_check_name cd_check_name ct_check_name : Value}
    {f_is_fail : Addr} {od_is_fail an_is_fail : Option Addr} {sl_is_fail : Array (Option Value)} {oc_is_fail kV_is_fail dc_is_fail pm_is_fail cd_is_fail ct_is_fail : Value}
    {f_check_fails : Addr} {od_check_fails an_check_fails : Option Addr} {sl_check_fails : Array (Option Value)} {oc_check_fails kV_check_fails dc_check_fails pm_check_fails cd_check_fails ct_check_fails : Value}
    {f_copied : Addr} {od_copied an_copied : Option Addr} {sl_copied : Array (Option Value)} {oc_copied kV_copied dc_copied pm_copied cd_copied ct_copied : Value}
    {f_Stand_init : Addr} {od_Stand_init an_Stand_init : Option Addr} {sl_Stand_init : Array (Option Value)} {oc_Stand_init kV_Stand_init dc_Stand_init pm_Stand_init cd_Stand_init ct_Stand_init : Value}
    {dT_Stand_init : Addr} {dx_Stand_init : Option Addr} {dq_Stand_init : Nat} {dw_Stand_init : Array (Option Value)}
    {f_Stand_held : Addr} {od_Stand_held an_Stand_held : Option Addr} {sl_Stand_held : Array (Option Value)} {oc_Stand_held kV_Stand_held dc_Stand_held pm_Stand_held cd_Stand_held ct_Stand_held : Value}
    {p_Stand_held : Addr} {rs_Stand_held : List Value}
    {f_Stand_eq : Addr} {od_Stand_eq an_Stand_eq : Option Addr} {sl_Stand_eq : Array (Option Value)} {oc_Stand_eq kV_Stand_eq dc_Stand_eq pm_Stand_eq cd_Stand_eq ct_Stand_eq : Value}
    {f_Call_init : Addr} {od_Call_init an_Call_init : Option Addr} {sl_Call_init : Array (Option Value)} {oc_Call_init dc_Call_init pm_Call_init cd_Call_init ct_Call_init : Value}
    {kD_Call_init : Addr}
    {kt_Call_init_fails : Addr} {kx_Call_init_fails : Option Addr} {kq_Call_init_fails : Nat} {kw_Call_init_fails : Array (Option Value)}
    {f_History_init : Addr} {od_History_init an_History_init : Option Addr} {sl_History_init : Array (Option Value)} {oc_History_init kV_History_init dc_History_init pm_History_init cd_History_init ct_History_init : Value}
    {f_History_made : Addr} {od_History_made an_History_made : Option Addr} {sl_History_made : Array (Option Value)} {oc_History_made kV_History_made dc_History_made pm_History_made cd_History_made ct_History_made : Value}
    {p_History_made : Addr} {rs_History_made : List Value}
    {f_Twin_init : Addr} {od_Twin_init an_Twin_init : Option Addr} {sl_Twin_init : Array (Option Value)} {oc_Twin_init kV_Twin_init dc_Twin_init pm_Twin_init cd_Twin_init ct_Twin_init : Value}
    {dT_Twin_init : Addr} {dx_Twin_init : Option Addr} {dq_Twin_init : Nat} {dw_Twin_init : Array (Option Value)}
    {f_check_unlike : Addr} {od_check_unlike an_check_unlike : Option Addr} {sl_check_unlike : Array (Option Value)} {oc_check_unlike kV_check_unlike dc_check_unlike pm_check_unlike cd_check_unlike ct_check_unlike : Value}
    {f_Service_init : Addr} {od_Service_init an_Service_init : Option Addr} {sl_Service_init : Array (Option Value)} {oc_Service_init dc_Service_init pm_Service_init cd_Service_init ct_Service_init : Value}
    {kD_Service_init : Addr}
    {kt_Service_init_cells : Addr} {kx_Service_init_cells : Option Addr} {kq_Service_init_cells : Nat} {kw_Service_init_cells : Array (Option Value)}
    {kt_Service_init_sources : Addr} {kx_Service_init_sources : Option Addr} {kq_Service_init_sources : Nat} {kw_Service_init_sources : Array (Option Value)}
    {kt_Service_init_slots : Addr} {kx_Service_init_slots : Option Addr} {kq_Service_init_slots : Nat} {kw_Service_init_slots : Array (Option Value)}
    {kt_Service_init_fields : Addr} {kx_Service_init_fields : Option Addr} {kq_Service_init_fields : Nat} {kw_Service_init_fields : Array (Option Value)}
    {f_Service_made : Addr} {od_Service_made an_Service_made : Option Addr} {sl_Service_made : Array (Option Value)} {oc_Service_made kV_Service_made dc_Service_made pm_Service_made cd_Service_made ct_Service_made : Value}
    {p_Service_made : Addr} {rs_Service_made : List Value}
    {f_Service_eq : Addr} {od_Service_eq an_Service_eq : Option Addr} {sl_Service_eq : Array (Option Value)} {oc_Service_eq kV_Service_eq dc_Service_eq pm_Service_eq cd_Service_eq ct_Service_eq : Value}
    {f_Service_parts : Addr} {od_Service_parts an_Service_parts : Option Addr} {sl_Service_parts : Array (Option Value)} {oc_Service_parts kV_Service_parts dc_Service_parts pm_Service_parts cd_Service_parts ct_Service_parts : Value}
    {f_Service_all_operands : Addr} {od_Service_all_operands an_Service_all_operands : Option Addr} {sl_Service_all_operands : Array (Option Value)} {oc_Service_all_operands kV_Service_all_operands dc_Service_all_operands pm_Service_all_operands cd_Service_all_operands ct_Service_all_operands : Value}
    {f_law_digits : Addr} {od_law_digits an_law_digits : Option Addr} {sl_law_digits : Array (Option Value)} {oc_law_digits kV_law_digits dc_law_digits pm_law_digits cd_law_digits ct_law_digits : Value}
    {f_law_draw : Addr} {od_law_draw an_law_draw : Option Addr} {sl_law_draw : Array (Option Value)} {oc_law_draw kV_law_draw dc_law_draw pm_law_draw cd_law_draw ct_law_draw : Value}
    {f_law_choice : Addr} {od_law_choice an_law_choice : Option Addr} {sl_law_choice : Array (Option Value)} {oc_law_choice kV_law_choice dc_law_choice pm_law_choice cd_law_choice ct_law_choice : Value}
    {f_law_drawn_name : Addr} {od_law_drawn_name an_law_drawn_name : Option Addr} {sl_law_drawn_name : Array (Option Value)} {oc_law_drawn_name kV_law_drawn_name dc_law_drawn_name pm_law_drawn_name cd_law_drawn_name ct_law_drawn_name : Value}
    {f_law_drawn_names : Addr} {od_law_drawn_names an_law_drawn_names : Option Addr} {sl_law_drawn_names : Array (Option Value)} {oc_law_drawn_names kV_law_drawn_names dc_law_drawn_names pm_law_drawn_names cd_law_drawn_names ct_law_drawn_names : Value}
    {f_law_value : Addr} {od_law_value an_law_value : Option Addr} {sl_law_value : Array (Option Value)} {oc_law_value kV_law_value dc_law_value pm_law_value cd_law_value ct_law_value : Value}
    {f_law_count : Addr} {od_law_count an_law_count : Option Addr} {sl_law_count : Array (Option Value)} {oc_law_count kV_law_count dc_law_count pm_law_count cd_law_count ct_law_count : Value}
    {f_law_drawn_places : Addr} {od_law_drawn_places an_law_drawn_places : Option Addr} {sl_law_drawn_places : Array (Option Value)} {oc_law_drawn_places kV_law_drawn_places dc_law_drawn_places pm_law_drawn_places cd_law_drawn_places ct_law_drawn_places : Value}
    {f_law_same : Addr} {od_law_same an_law_same : Option Addr} {sl_law_same : Array (Option Value)} {oc_law_same kV_law_same dc_law_same pm_law_same cd_law_same ct_law_same : Value}
    {f_law_error : Addr} {od_law_error an_law_error : Option Addr} {sl_law_error : Array (Option Value)} {oc_law_error kV_law_error dc_law_error pm_law_error cd_law_error ct_law_error : Value}
    {f_law_is_begun : Addr} {od_law_is_begun an_law_is_begun : Option Addr} {sl_law_is_begun : Array (Option Value)} {oc_law_is_begun kV_law_is_begun dc_law_is_begun pm_law_is_begun cd_law_is_begun ct_law_is_begun : Value}
    {f_law_are_histories : Addr} {od_law_are_histories an_law_are_histories : Option Addr} {sl_law_are_histories : Array (Option Value)} {oc_law_are_histories kV_law_are_histories dc_law_are_histories pm_law_are_histories cd_law_are_histories ct_law_are_histories : Value}
    {f_law : Addr} {od_law an_law : Option Addr} {sl_law : Array (Option Value)} {oc_law kV_law dc_law pm_law ct_law : Value}
    {co_law tb_law : Addr} {cx_law : Option Addr} {cv_law : Array Value} {cs_law : Array (Option Value)}
    {c_BadName : Addr}
    {nm_BadName q_BadName : Str} {N_BadName : Addr} {bs_BadName : List Value} {sn_BadName : List Str} {sub_BadName : List Value} {ab_BadName : Bool} {col_BadName : Option Bool} {dd_BadName : Option Addr} {m0_BadName m1_BadName m2_BadName m3_BadName m5_BadName : Option Value}
    {c_BadFail : Addr}
    {nm_BadFail q_BadFail : Str} {N_BadFail : Addr} {bs_BadFail : List Value} {sn_BadFail : List Str} {sub_BadFail : List Value} {ab_BadFail : Bool} {col_BadFail : Option Bool} {dd_BadFail : Option Addr} {m0_BadFail m1_BadFail m2_BadFail m3_BadFail m5_BadFail : Option Value}
    {c_Twice : Addr}
    {nm_Twice q_Twice : Str} {N_Twice : Addr} {bs_Twice : List Value} {sn_Twice : List Str} {sub_Twice : List Value} {ab_Twice : Bool} {col_Twice : Option Bool} {dd_Twice : Option Addr} {m0_Twice m1_Twice m2_Twice m3_Twice m5_Twice : Option Value}
    {c_NoPlace : Addr}
    {nm_NoPlace q_NoPlace : Str} {N_NoPlace : Addr} {bs_NoPlace : List Value} {sn_NoPlace : List Str} {sub_NoPlace : List Value} {ab_NoPlace : Bool} {col_NoPlace : Option Bool} {dd_NoPlace : Option Addr} {m0_NoPlace m1_NoPlace m2_NoPlace m3_NoPlace m5_NoPlace : Option Value}
    {c_TooMany : Addr}
    {nm_TooMany q_TooMany : Str} {N_TooMany : Addr} {bs_TooMany : List Value} {sn_TooMany : List Str} {sub_TooMany : List Value} {ab_TooMany : Bool} {col_TooMany : Option Bool} {dd_TooMany : Option Addr} {m0_TooMany m1_TooMany m2_TooMany m3_TooMany m5_TooMany : Option Value}
    {c_Stand : Addr}
    {c_Call : Addr}
    {c_History : Addr}
    {c_Twin : Addr}
    {c_Service : Addr}
    {tk_LETTERS : Tok}
    {tk_MOST_SIGNS : Tok}
    {tk_MOST_OPERANDS : Tok}
    {tk_BEYOND : Tok}
    {tk_MOST_CELLS : Tok}
    {tk_MOST_OTHERS : Tok}
    {tk_MOST_HANDLERS : Tok}
    (a_BadName_init : PySem.W.findIn K (.ref c_BadName) "__init__" = some (some (.ref f_BadName_init)))
    (t_BadName_init : PySem.W.typeIn K (.ref f_BadName_init) = some (.type "function"))
    (l_BadName_init : K.lookup f_BadName_init = some ⟨oc_BadName_init, od_BadName_init, .func (PySem.W.fnOf "__init__" "BadName.__init__" (defArgs s_BadName_init) (defBody s_BadName_init) (defScope s_BadName_init) .none kV_BadName_init dc_BadName_init pm_BadName_init an_BadName_init cd_BadName_init ct_BadName_init), sl_BadName_init⟩)
    (cc_BadName_init : PySem.W.codeIn K cd_BadName_init "BadName.__init__" = true)
    (k_BadName_init : PySem.W.keepIn K (.ref f_BadName_init) = true)
    (a_BadFail_init : PySem.W.findIn K (.ref c_BadFail) "__init__" = some (some (.ref f_BadFail_init)))
    (t_BadFail_init : PySem.W.typeIn K (.ref f_BadFail_init) = some (.type "function"))
    (l_BadFail_init : K.lookup f_BadFail_init = some ⟨oc_BadFail_init, od_BadFail_init, .func (PySem.W.fnOf "__init__" "BadFail.__init__" (defArgs s_BadFail_init) (defBody s_BadFail_init) (defScope s_BadFail_init) .none kV_BadFail_init dc_BadFail_init pm_BadFail_init an_BadFail_init cd_BadFail_init ct_BadFail_init), sl_BadFail_init⟩)
    (cc_BadFail_init : PySem.W.codeIn K cd_BadFail_init "BadFail.__init__" = true)
    (k_BadFail_init : PySem.W.keepIn K (.ref f_BadFail_init) = true)
    (a_Twice_init : PySem.W.findIn K (.ref c_Twice) "__init__" = some (some (.ref f_Twice_init)))
    (t_Twice_init : PySem.W.typeIn K (.ref f_Twice_init) = some (.type "function"))
    (l_Twice_init : K.lookup f_Twice_init = some ⟨oc_Twice_init, od_Twice_init, .func (PySem.W.fnOf "__init__" "Twice.__init__" (defArgs s_Twice_init) (defBody s_Twice_init) (defScope s_Twice_init) .none kV_Twice_init dc_Twice_init pm_Twice_init an_Twice_init cd_Twice_init ct_Twice_init), sl_Twice_init⟩)
    (cc_Twice_init : PySem.W.codeIn K cd_Twice_init "Twice.__init__" = true)
    (k_Twice_init : PySem.W.keepIn K (.ref f_Twice_init) = true)
    (a_NoPlace_init : PySem.W.findIn K (.ref c_NoPlace) "__init__" = some (some (.ref f_NoPlace_init)))
    (t_NoPlace_init : PySem.W.typeIn K (.ref f_NoPlace_init) = some (.type "function"))
    (l_NoPlace_init : K.lookup f_NoPlace_init = some ⟨oc_NoPlace_init, od_NoPlace_init, .func (PySem.W.fnOf "__init__" "NoPlace.__init__" (defArgs s_NoPlace_init) (defBody s_NoPlace_init) (defScope s_NoPlace_init) .none kV_NoPlace_init dc_NoPlace_init pm_NoPlace_init an_NoPlace_init cd_NoPlace_init ct_NoPlace_init), sl_NoPlace_init⟩)
    (cc_NoPlace_init : PySem.W.codeIn K cd_NoPlace_init "NoPlace.__init__" = true)
    (k_NoPlace_init : PySem.W.keepIn K (.ref f_NoPlace_init) = true)
    (a_TooMany_init : PySem.W.findIn K (.ref c_TooMany) "__init__" = some (some (.ref f_TooMany_init)))
    (t_TooMany_init : PySem.W.typeIn K (.ref f_TooMany_init) = some (.type "function"))
    (l_TooMany_init : K.lookup f_TooMany_init = some ⟨oc_TooMany_init, od_TooMany_init, .func (PySem.W.fnOf "__init__" "TooMany.__init__" (defArgs s_TooMany_init) (defBody s_TooMany_init) (defScope s_TooMany_init) .none kV_TooMany_init dc_TooMany_init pm_TooMany_init an_TooMany_init cd_TooMany_init ct_TooMany_init), sl_TooMany_init⟩)
    (cc_TooMany_init : PySem.W.codeIn K cd_TooMany_init "TooMany.__init__" = true)
    (k_TooMany_init : PySem.W.keepIn K (.ref f_TooMany_init) = true)
    (a_is_name : PySem.W.nsIn K mainGlobals "is_name" = some (some (.ref f_is_name)))
    (l_is_name : K.lookup f_is_name = some ⟨oc_is_name, od_is_name, .func (PySem.W.fnOf "is_name" "is_name" (defArgs s_is_name) (defBody s_is_name) (defScope s_is_name) .none kV_is_name dc_is_name pm_is_name an_is_name cd_is_name ct_is_name), sl_is_name⟩)
    (cc_is_name : PySem.W.codeIn K cd_is_name "is_name" = true)
    (k_is_name : PySem.W.keepIn K (.ref f_is_name) = true)
    (a_is_int : PySem.W.nsIn K mainGlobals "is_int" = some (some (.ref f_is_int)))
    (l_is_int : K.lookup f_is_int = some ⟨oc_is_int, od_is_int, .func (PySem.W.fnOf "is_int" "is_int" (defArgs s_is_int) (defBody s_is_int) (defScope s_is_int) .none kV_is_int dc_is_int pm_is_int an_is_int cd_is_int ct_is_int), sl_is_int⟩)
    (cc_is_int : PySem.W.codeIn K cd_is_int "is_int" = true)
    (k_is_int : PySem.W.keepIn K (.ref f_is_int) = true)
    (a_check_name : PySem.W.nsIn K mainGlobals "check_name" = some (some (.ref f_check_name)))
    (l_check_name : K.lookup f_check_name = some ⟨oc_check_name, od_check_name, .func (PySem.W.fnOf "check_name" "check_name" (defArgs s_check_name) (defBody s_check_name) (defScope s_check_name) .none kV_check_name dc_check_name pm_check_name an_check_name cd_check_name ct_check_name), sl_check_name⟩)
    (cc_check_name : PySem.W.codeIn K cd_check_name "check_name" = true)
    (k_check_name : PySem.W.keepIn K (.ref f_check_name) = true)
    (a_is_fail : PySem.W.nsIn K mainGlobals "is_fail" = some (some (.ref f_is_fail)))
    (l_is_fail : K.lookup f_is_fail = some ⟨oc_is_fail, od_is_fail, .func (PySem.W.fnOf "is_fail" "is_fail" (defArgs s_is_fail) (defBody s_is_fail) (defScope s_is_fail) .none kV_is_fail dc_is_fail pm_is_fail an_is_fail cd_is_fail ct_is_fail), sl_is_fail⟩)
    (cc_is_fail : PySem.W.codeIn K cd_is_fail "is_fail" = true)
    (k_is_fail : PySem.W.keepIn K (.ref f_is_fail) = true)
    (a_check_fails : PySem.W.nsIn K mainGlobals "check_fails" = some (some (.ref f_check_fails)))
    (l_check_fails : K.lookup f_check_fails = some ⟨oc_check_fails, od_check_fails, .func (PySem.W.fnOf "check_fails" "check_fails" (defArgs s_check_fails) (defBody s_check_fails) (defScope s_check_fails) .none kV_check_fails dc_check_fails pm_check_fails an_check_fails cd_check_fails ct_check_fails), sl_check_fails⟩)
    (cc_check_fails : PySem.W.codeIn K cd_check_fails "check_fails" = true)
    (k_check_fails : PySem.W.keepIn K (.ref f_check_fails) = true)
    (a_copied : PySem.W.nsIn K mainGlobals "copied" = some (some (.ref f_copied)))
    (l_copied : K.lookup f_copied = some ⟨oc_copied, od_copied, .func (PySem.W.fnOf "copied" "copied" (defArgs s_copied) (defBody s_copied) (defScope s_copied) .none kV_copied dc_copied pm_copied an_copied cd_copied ct_copied), sl_copied⟩)
    (cc_copied : PySem.W.codeIn K cd_copied "copied" = true)
    (k_copied : PySem.W.keepIn K (.ref f_copied) = true)
    (a_Stand_init : PySem.W.findIn K (.ref c_Stand) "__init__" = some (some (.ref f_Stand_init)))
    (i_Stand_init : PySem.W.isFn K (.ref f_Stand_init) = true)
    (l_Stand_init : K.lookup f_Stand_init = some ⟨oc_Stand_init, od_Stand_init, .func (PySem.W.fnOf "__init__" "Stand.__init__" (defArgs s_Stand_init) (defBody s_Stand_init) (defScope s_Stand_init) (.ref dT_Stand_init) kV_Stand_init dc_Stand_init pm_Stand_init an_Stand_init cd_Stand_init ct_Stand_init), sl_Stand_init⟩)
    (dl_Stand_init : K.lookup dT_Stand_init = some ⟨.type "tuple", dx_Stand_init, .seq #[.none] dq_Stand_init, dw_Stand_init⟩)
    (cc_Stand_init : PySem.W.codeIn K cd_Stand_init "Stand.__init__" = true)
    (k_Stand_init : PySem.W.keepIn K (.ref f_Stand_init) = true)
    (at_Stand_held : PySem.W.findIn K (.ref c_Stand) "held" = some (some (.ref p_Stand_held)))
    (pg_Stand_held : PySem.W.specialIn K (.ref p_Stand_held) "__get__" = some (some (.builtin "property.__get__")))
    (pt_Stand_held : PySem.W.takesIn K (.ref p_Stand_held) = some true)
    (rc_Stand_held : PySem.W.recIn K p_Stand_held "property" = some (.ref f_Stand_held :: rs_Stand_held))
    (l_Stand_held : K.lookup f_Stand_held = some ⟨oc_Stand_held, od_Stand_held, .func (PySem.W.fnOf "held" "Stand.held" (defArgs s_Stand_held) (defBody s_Stand_held) (defScope s_Stand_held) .none kV_Stand_held dc_Stand_held pm_Stand_held an_Stand_held cd_Stand_held ct_Stand_held), sl_Stand_held⟩)
    (cc_Stand_held : PySem.W.codeIn K cd_Stand_held "Stand.held" = true)
    (k_Stand_held : PySem.W.keepIn K (.ref f_Stand_held) = true)
    (a_Stand_eq : PySem.W.findIn K (.ref c_Stand) "__eq__" = some (some (.ref f_Stand_eq)))
    (i_Stand_eq : PySem.W.isFn K (.ref f_Stand_eq) = true)
    (l_Stand_eq : K.lookup f_Stand_eq = some ⟨oc_Stand_eq, od_Stand_eq, .func (PySem.W.fnOf "__eq__" "Stand.__eq__" (defArgs s_Stand_eq) (defBody s_Stand_eq) (defScope s_Stand_eq) .none kV_Stand_eq dc_Stand_eq pm_Stand_eq an_Stand_eq cd_Stand_eq ct_Stand_eq), sl_Stand_eq⟩)
    (cc_Stand_eq : PySem.W.codeIn K cd_Stand_eq "Stand.__eq__" = true)
    (k_Stand_eq : PySem.W.keepIn K (.ref f_Stand_eq) = true)
    (a_Call_init : PySem.W.findIn K (.ref c_Call) "__init__" = some (some (.ref f_Call_init)))
    (i_Call_init : PySem.W.isFn K (.ref f_Call_init) = true)
    (l_Call_init : K.lookup f_Call_init = some ⟨oc_Call_init, od_Call_init, .func (PySem.W.fnOf "__init__" "Call.__init__" (defArgs s_Call_init) (defBody s_Call_init) (defScope s_Call_init) .none (.ref kD_Call_init) dc_Call_init pm_Call_init an_Call_init cd_Call_init ct_Call_init), sl_Call_init⟩)
    (kn_Call_init_typed : PySem.W.nsIn K kD_Call_init "typed" = some (some .none))
    (kn_Call_init_fails : PySem.W.nsIn K kD_Call_init "fails" = some (some (.ref kt_Call_init_fails)))
    (kl_Call_init_fails : K.lookup kt_Call_init_fails = some ⟨.type "tuple", kx_Call_init_fails, .seq #[] kq_Call_init_fails, kw_Call_init_fails⟩)
    (kn_Call_init_sources : PySem.W.nsIn K kD_Call_init "sources" = some (some .none))
    (kn_Call_init_functions : PySem.W.nsIn K kD_Call_init "functions" = some (some .none))
    (kn_Call_init_tests : PySem.W.nsIn K kD_Call_init "tests" = some (some .none))
    (cc_Call_init : PySem.W.codeIn K cd_Call_init "Call.__init__" = true)
    (k_Call_init : PySem.W.keepIn K (.ref f_Call_init) = true)
    (a_History_init : PySem.W.findIn K (.ref c_History) "__init__" = some (some (.ref f_History_init)))
    (i_History_init : PySem.W.isFn K (.ref f_History_init) = true)
    (l_History_init : K.lookup f_History_init = some ⟨oc_History_init, od_History_init, .func (PySem.W.fnOf "__init__" "History.__init__" (defArgs s_History_init) (defBody s_History_init) (defScope s_History_init) .none kV_History_init dc_History_init pm_History_init an_History_init cd_History_init ct_History_init), sl_History_init⟩)
    (cc_History_init : PySem.W.codeIn K cd_History_init "History.__init__" = true)
    (k_History_init : PySem.W.keepIn K (.ref f_History_init) = true)
    (at_History_made : PySem.W.findCls K (.ref c_History) (.type "type") "made" = some (.get (.builtin "classmethod.__get__") (.ref p_History_made) .none (.ref c_History)))
    (rc_History_made : PySem.W.recIn K p_History_made "classmethod" = some (.ref f_History_made :: rs_History_made))
    (fi_History_made : PySem.W.fnIn K f_History_made = true)
    (l_History_made : K.lookup f_History_made = some ⟨oc_History_made, od_History_made, .func (PySem.W.fnOf "made" "History.made" (defArgs s_History_made) (defBody s_History_made) (defScope s_History_made) .none kV_History_made dc_History_made pm_History_made an_History_made cd_History_made ct_History_made), sl_History_made⟩)
    (cc_History_made : PySem.W.codeIn K cd_History_made "History.made" = true)
    (k_History_made : PySem.W.keepIn K (.ref f_History_made) = true)
    (a_Twin_init : PySem.W.findIn K (.ref c_Twin) "__init__" = some (some (.ref f_Twin_init)))
    (i_Twin_init : PySem.W.isFn K (.ref f_Twin_init) = true)
    (l_Twin_init : K.lookup f_Twin_init = some ⟨oc_Twin_init, od_Twin_init, .func (PySem.W.fnOf "__init__" "Twin.__init__" (defArgs s_Twin_init) (defBody s_Twin_init) (defScope s_Twin_init) (.ref dT_Twin_init) kV_Twin_init dc_Twin_init pm_Twin_init an_Twin_init cd_Twin_init ct_Twin_init), sl_Twin_init⟩)
    (dl_Twin_init : K.lookup dT_Twin_init = some ⟨.type "tuple", dx_Twin_init, .seq #[.none] dq_Twin_init, dw_Twin_init⟩)
    (cc_Twin_init : PySem.W.codeIn K cd_Twin_init "Twin.__init__" = true)
    (k_Twin_init : PySem.W.keepIn K (.ref f_Twin_init) = true)
    (a_check_unlike : PySem.W.nsIn K mainGlobals "check_unlike" = some (some (.ref f_check_unlike)))
    (l_check_unlike : K.lookup f_check_unlike = some ⟨oc_check_unlike, od_check_unlike, .func (PySem.W.fnOf "check_unlike" "check_unlike" (defArgs s_check_unlike) (defBody s_check_unlike) (defScope s_check_unlike) .none kV_check_unlike dc_check_unlike pm_check_unlike an_check_unlike cd_check_unlike ct_check_unlike), sl_check_unlike⟩)
    (cc_check_unlike : PySem.W.codeIn K cd_check_unlike "check_unlike" = true)
    (k_check_unlike : PySem.W.keepIn K (.ref f_check_unlike) = true)
    (a_Service_init : PySem.W.findIn K (.ref c_Service) "__init__" = some (some (.ref f_Service_init)))
    (i_Service_init : PySem.W.isFn K (.ref f_Service_init) = true)
    (l_Service_init : K.lookup f_Service_init = some ⟨oc_Service_init, od_Service_init, .func (PySem.W.fnOf "__init__" "Service.__init__" (defArgs s_Service_init) (defBody s_Service_init) (defScope s_Service_init) .none (.ref kD_Service_init) dc_Service_init pm_Service_init an_Service_init cd_Service_init ct_Service_init), sl_Service_init⟩)
    (kn_Service_init_cells : PySem.W.nsIn K kD_Service_init "cells" = some (some (.ref kt_Service_init_cells)))
    (kl_Service_init_cells : K.lookup kt_Service_init_cells = some ⟨.type "tuple", kx_Service_init_cells, .seq #[] kq_Service_init_cells, kw_Service_init_cells⟩)
    (kn_Service_init_sources : PySem.W.nsIn K kD_Service_init "sources" = some (some (.ref kt_Service_init_sources)))
    (kl_Service_init_sources : K.lookup kt_Service_init_sources = some ⟨.type "tuple", kx_Service_init_sources, .seq #[] kq_Service_init_sources, kw_Service_init_sources⟩)
    (kn_Service_init_slots : PySem.W.nsIn K kD_Service_init "slots" = some (some (.ref kt_Service_init_slots)))
    (kl_Service_init_slots : K.lookup kt_Service_init_slots = some ⟨.type "tuple", kx_Service_init_slots, .seq #[] kq_Service_init_slots, kw_Service_init_slots⟩)
    (kn_Service_init_fields : PySem.W.nsIn K kD_Service_init "fields" = some (some (.ref kt_Service_init_fields)))
    (kl_Service_init_fields : K.lookup kt_Service_init_fields = some ⟨.type "tuple", kx_Service_init_fields, .seq #[] kq_Service_init_fields, kw_Service_init_fields⟩)
    (cc_Service_init : PySem.W.codeIn K cd_Service_init "Service.__init__" = true)
    (k_Service_init : PySem.W.keepIn K (.ref f_Service_init) = true)
    (at_Service_made : PySem.W.findCls K (.ref c_Service) (.type "type") "made" = some (.get (.builtin "classmethod.__get__") (.ref p_Service_made) .none (.ref c_Service)))
    (rc_Service_made : PySem.W.recIn K p_Service_made "classmethod" = some (.ref f_Service_made :: rs_Service_made))
    (fi_Service_made : PySem.W.fnIn K f_Service_made = true)
    (l_Service_made : K.lookup f_Service_made = some ⟨oc_Service_made, od_Service_made, .func (PySem.W.fnOf "made" "Service.made" (defArgs s_Service_made) (defBody s_Service_made) (defScope s_Service_made) .none kV_Service_made dc_Service_made pm_Service_made an_Service_made cd_Service_made ct_Service_made), sl_Service_made⟩)
    (cc_Service_made : PySem.W.codeIn K cd_Service_made "Service.made" = true)
    (k_Service_made : PySem.W.keepIn K (.ref f_Service_made) = true)
    (a_Service_eq : PySem.W.findIn K (.ref c_Service) "__eq__" = some (some (.ref f_Service_eq)))
    (i_Service_eq : PySem.W.isFn K (.ref f_Service_eq) = true)
    (l_Service_eq : K.lookup f_Service_eq = some ⟨oc_Service_eq, od_Service_eq, .func (PySem.W.fnOf "__eq__" "Service.__eq__" (defArgs s_Service_eq) (defBody s_Service_eq) (defScope s_Service_eq) .none kV_Service_eq dc_Service_eq pm_Service_eq an_Service_eq cd_Service_eq ct_Service_eq), sl_Service_eq⟩)
    (cc_Service_eq : PySem.W.codeIn K cd_Service_eq "Service.__eq__" = true)
    (k_Service_eq : PySem.W.keepIn K (.ref f_Service_eq) = true)
    (a_Service_parts : PySem.W.findIn K (.ref c_Service) "parts" = some (some (.ref f_Service_parts)))
    (i_Service_parts : PySem.W.isFn K (.ref f_Service_parts) = true)
    (l_Service_parts : K.lookup f_Service_parts = some ⟨oc_Service_parts, od_Service_parts, .func (PySem.W.fnOf "parts" "Service.parts" (defArgs s_Service_parts) (defBody s_Service_parts) (defScope s_Service_parts) .none kV_Service_parts dc_Service_parts pm_Service_parts an_Service_parts cd_Service_parts ct_Service_parts), sl_Service_parts⟩)
    (cc_Service_parts : PySem.W.codeIn K cd_Service_parts "Service.parts" = true)
    (k_Service_parts : PySem.W.keepIn K (.ref f_Service_parts) = true)
    (a_Service_all_operands : PySem.W.findIn K (.ref c_Service) "all_operands" = some (some (.ref f_Service_all_operands)))
    (i_Service_all_operands : PySem.W.isFn K (.ref f_Service_all_operands) = true)
    (l_Service_all_operands : K.lookup f_Service_all_operands = some ⟨oc_Service_all_operands, od_Service_all_operands, .func (PySem.W.fnOf "all_operands" "Service.all_operands" (defArgs s_Service_all_operands) (defBody s_Service_all_operands) (defScope s_Service_all_operands) .none kV_Service_all_operands dc_Service_all_operands pm_Service_all_operands an_Service_all_operands cd_Service_all_operands ct_Service_all_operands), sl_Service_all_operands⟩)
    (cc_Service_all_operands : PySem.W.codeIn K cd_Service_all_operands "Service.all_operands" = true)
    (k_Service_all_operands : PySem.W.keepIn K (.ref f_Service_all_operands) = true)
    (a_law_digits : PySem.W.nsIn K mainGlobals "_law_digits" = some (some (.ref f_law_digits)))
    (l_law_digits : K.lookup f_law_digits = some ⟨oc_law_digits, od_law_digits, .func (PySem.W.fnOf "_law_digits" "_law_digits" (defArgs s_law_digits) (defBody s_law_digits) (defScope s_law_digits) .none kV_law_digits dc_law_digits pm_law_digits an_law_digits cd_law_digits ct_law_digits), sl_law_digits⟩)
    (cc_law_digits : PySem.W.codeIn K cd_law_digits "_law_digits" = true)
    (k_law_digits : PySem.W.keepIn K (.ref f_law_digits) = true)
    (a_law_draw : PySem.W.nsIn K mainGlobals "_law_draw" = some (some (.ref f_law_draw)))
    (l_law_draw : K.lookup f_law_draw = some ⟨oc_law_draw, od_law_draw, .func (PySem.W.fnOf "_law_draw" "_law_draw" (defArgs s_law_draw) (defBody s_law_draw) (defScope s_law_draw) .none kV_law_draw dc_law_draw pm_law_draw an_law_draw cd_law_draw ct_law_draw), sl_law_draw⟩)
    (cc_law_draw : PySem.W.codeIn K cd_law_draw "_law_draw" = true)
    (k_law_draw : PySem.W.keepIn K (.ref f_law_draw) = true)
    (a_law_choice : PySem.W.nsIn K mainGlobals "_law_choice" = some (some (.ref f_law_choice)))
    (l_law_choice : K.lookup f_law_choice = some ⟨oc_law_choice, od_law_choice, .func (PySem.W.fnOf "_law_choice" "_law_choice" (defArgs s_law_choice) (defBody s_law_choice) (defScope s_law_choice) .none kV_law_choice dc_law_choice pm_law_choice an_law_choice cd_law_choice ct_law_choice), sl_law_choice⟩)
    (cc_law_choice : PySem.W.codeIn K cd_law_choice "_law_choice" = true)
    (k_law_choice : PySem.W.keepIn K (.ref f_law_choice) = true)
    (a_law_drawn_name : PySem.W.nsIn K mainGlobals "_law_drawn_name" = some (some (.ref f_law_drawn_name)))
    (l_law_drawn_name : K.lookup f_law_drawn_name = some ⟨oc_law_drawn_name, od_law_drawn_name, .func (PySem.W.fnOf "_law_drawn_name" "_law_drawn_name" (defArgs s_law_drawn_name) (defBody s_law_drawn_name) (defScope s_law_drawn_name) .none kV_law_drawn_name dc_law_drawn_name pm_law_drawn_name an_law_drawn_name cd_law_drawn_name ct_law_drawn_name), sl_law_drawn_name⟩)
    (cc_law_drawn_name : PySem.W.codeIn K cd_law_drawn_name "_law_drawn_name" = true)
    (k_law_drawn_name : PySem.W.keepIn K (.ref f_law_drawn_name) = true)
    (a_law_drawn_names : PySem.W.nsIn K mainGlobals "_law_drawn_names" = some (some (.ref f_law_drawn_names)))
    (l_law_drawn_names : K.lookup f_law_drawn_names = some ⟨oc_law_drawn_names, od_law_drawn_names, .func (PySem.W.fnOf "_law_drawn_names" "_law_drawn_names" (defArgs s_law_drawn_names) (defBody s_law_drawn_names) (defScope s_law_drawn_names) .none kV_law_drawn_names dc_law_drawn_names pm_law_drawn_names an_law_drawn_names cd_law_drawn_names ct_law_drawn_names), sl_law_drawn_names⟩)
    (cc_law_drawn_names : PySem.W.codeIn K cd_law_drawn_names "_law_drawn_names" = true)
    (k_law_drawn_names : PySem.W.keepIn K (.ref f_law_drawn_names) = true)
    (a_law_value : PySem.W.nsIn K mainGlobals "_law_value" = some (some (.ref f_law_value)))
    (l_law_value : K.lookup f_law_value = some ⟨oc_law_value, od_law_value, .func (PySem.W.fnOf "_law_value" "_law_value" (defArgs s_law_value) (defBody s_law_value) (defScope s_law_value) .none kV_law_value dc_law_value pm_law_value an_law_value cd_law_value ct_law_value), sl_law_value⟩)
    (cc_law_value : PySem.W.codeIn K cd_law_value "_law_value" = true)
    (k_law_value : PySem.W.keepIn K (.ref f_law_value) = true)
    (a_law_count : PySem.W.nsIn K mainGlobals "_law_count" = some (some (.ref f_law_count)))
    (l_law_count : K.lookup f_law_count = some ⟨oc_law_count, od_law_count, .func (PySem.W.fnOf "_law_count" "_law_count" (defArgs s_law_count) (defBody s_law_count) (defScope s_law_count) .none kV_law_count dc_law_count pm_law_count an_law_count cd_law_count ct_law_count), sl_law_count⟩)
    (cc_law_count : PySem.W.codeIn K cd_law_count "_law_count" = true)
    (k_law_count : PySem.W.keepIn K (.ref f_law_count) = true)
    (a_law_drawn_places : PySem.W.nsIn K mainGlobals "_law_drawn_places" = some (some (.ref f_law_drawn_places)))
    (l_law_drawn_places : K.lookup f_law_drawn_places = some ⟨oc_law_drawn_places, od_law_drawn_places, .func (PySem.W.fnOf "_law_drawn_places" "_law_drawn_places" (defArgs s_law_drawn_places) (defBody s_law_drawn_places) (defScope s_law_drawn_places) .none kV_law_drawn_places dc_law_drawn_places pm_law_drawn_places an_law_drawn_places cd_law_drawn_places ct_law_drawn_places), sl_law_drawn_places⟩)
    (cc_law_drawn_places : PySem.W.codeIn K cd_law_drawn_places "_law_drawn_places" = true)
    (k_law_drawn_places : PySem.W.keepIn K (.ref f_law_drawn_places) = true)
    (a_law_same : PySem.W.nsIn K mainGlobals "_law_same" = some (some (.ref f_law_same)))
    (l_law_same : K.lookup f_law_same = some ⟨oc_law_same, od_law_same, .func (PySem.W.fnOf "_law_same" "_law_same" (defArgs s_law_same) (defBody s_law_same) (defScope s_law_same) .none kV_law_same dc_law_same pm_law_same an_law_same cd_law_same ct_law_same), sl_law_same⟩)
    (cc_law_same : PySem.W.codeIn K cd_law_same "_law_same" = true)
    (k_law_same : PySem.W.keepIn K (.ref f_law_same) = true)
    (a_law_error : PySem.W.nsIn K mainGlobals "_law_error" = some (some (.ref f_law_error)))
    (l_law_error : K.lookup f_law_error = some ⟨oc_law_error, od_law_error, .func (PySem.W.fnOf "_law_error" "_law_error" (defArgs s_law_error) (defBody s_law_error) (defScope s_law_error) .none kV_law_error dc_law_error pm_law_error an_law_error cd_law_error ct_law_error), sl_law_error⟩)
    (cc_law_error : PySem.W.codeIn K cd_law_error "_law_error" = true)
    (k_law_error : PySem.W.keepIn K (.ref f_law_error) = true)
    (a_law_is_begun : PySem.W.nsIn K mainGlobals "_law_is_begun" = some (some (.ref f_law_is_begun)))
    (l_law_is_begun : K.lookup f_law_is_begun = some ⟨oc_law_is_begun, od_law_is_begun, .func (PySem.W.fnOf "_law_is_begun" "_law_is_begun" (defArgs s_law_is_begun) (defBody s_law_is_begun) (defScope s_law_is_begun) .none kV_law_is_begun dc_law_is_begun pm_law_is_begun an_law_is_begun cd_law_is_begun ct_law_is_begun), sl_law_is_begun⟩)
    (cc_law_is_begun : PySem.W.codeIn K cd_law_is_begun "_law_is_begun" = true)
    (k_law_is_begun : PySem.W.keepIn K (.ref f_law_is_begun) = true)
    (a_law_are_histories : PySem.W.nsIn K mainGlobals "_law_are_histories" = some (some (.ref f_law_are_histories)))
    (l_law_are_histories : K.lookup f_law_are_histories = some ⟨oc_law_are_histories, od_law_are_histories, .func (PySem.W.fnOf "_law_are_histories" "_law_are_histories" (defArgs s_law_are_histories) (defBody s_law_are_histories) (defScope s_law_are_histories) .none kV_law_are_histories dc_law_are_histories pm_law_are_histories an_law_are_histories cd_law_are_histories ct_law_are_histories), sl_law_are_histories⟩)
    (cc_law_are_histories : PySem.W.codeIn K cd_law_are_histories "_law_are_histories" = true)
    (k_law_are_histories : PySem.W.keepIn K (.ref f_law_are_histories) = true)
    (a_law : PySem.W.nsIn K mainGlobals "law" = some (some (.ref f_law)))
    (l_law : K.lookup f_law = some ⟨oc_law, od_law, .func (PySem.W.fnOf "law" "law" (defArgs s_law) (defBody s_law) (defScope s_law) .none kV_law dc_law pm_law an_law (.ref co_law) ct_law), sl_law⟩)
    (cc_law : PySem.W.codeIn K (.ref co_law) "law" = true)
    (k_law : PySem.W.keepIn K (.ref f_law) = true)
    (cof_law : K.lookup co_law = some ⟨.type "code", cx_law, .fields cv_law, cs_law⟩)
    (cvx_law : cv_law[11]? = some (.ref tb_law))
    (ch_law : PySem.W.codeHdIn K co_law tb_law = true)
    (ct_law : K.lookup tb_law = none)
    (tin_law : h.get? tb_law = some { cls := .none, data := .fields #[] })
    (n_BadName : PySem.W.nsIn K mainGlobals "BadName" = some (some (.ref c_BadName)))
    (x_BadName : K.lookup c_BadName = some (excClassObj nm_BadName q_BadName c_BadName N_BadName bs_BadName [.type "ValueError", .type "Exception", .type "BaseException", .type "object"] true sn_BadName sub_BadName ab_BadName col_BadName dd_BadName m0_BadName m1_BadName m2_BadName m3_BadName m5_BadName "ValueError.__new__"))
    (sa_BadName : PySem.W.findIn K (.ref c_BadName) "__setattr__" = some (some (.builtin "object.__setattr__")))
    (ga_BadName : PySem.W.findIn K (.ref c_BadName) "__getattribute__" = some (some (.builtin "BaseException.__getattribute__")))
    (gg_BadName : PySem.W.findIn K (.ref c_BadName) "__getattr__" = some none)
    (eC_BadName : PySem.W.subIn K (.ref c_BadName) (.type "BaseException") = some true)
    (tC_BadName : PySem.W.typeIn K (.ref c_BadName) = some (.type "type"))
    (kC_BadName : PySem.W.keepIn K (.ref c_BadName) = true)
    (hC_BadName : PySem.W.hasDictIn K c_BadName = true)
    (iC_BadName : PySem.W.isClsIn K c_BadName = true)
    (sC_BadName : PySem.W.subIn K (.ref c_BadName) (.ref c_BadName) = some true)
    (z_BadName_name : PySem.W.findIn K (.ref c_BadName) "name" = some none)
    (n_BadFail : PySem.W.nsIn K mainGlobals "BadFail" = some (some (.ref c_BadFail)))
    (x_BadFail : K.lookup c_BadFail = some (excClassObj nm_BadFail q_BadFail c_BadFail N_BadFail bs_BadFail [.type "ValueError", .type "Exception", .type "BaseException", .type "object"] true sn_BadFail sub_BadFail ab_BadFail col_BadFail dd_BadFail m0_BadFail m1_BadFail m2_BadFail m3_BadFail m5_BadFail "ValueError.__new__"))
    (sa_BadFail : PySem.W.findIn K (.ref c_BadFail) "__setattr__" = some (some (.builtin "object.__setattr__")))
    (ga_BadFail : PySem.W.findIn K (.ref c_BadFail) "__getattribute__" = some (some (.builtin "BaseException.__getattribute__")))
    (gg_BadFail : PySem.W.findIn K (.ref c_BadFail) "__getattr__" = some none)
    (eC_BadFail : PySem.W.subIn K (.ref c_BadFail) (.type "BaseException") = some true)
    (tC_BadFail : PySem.W.typeIn K (.ref c_BadFail) = some (.type "type"))
    (kC_BadFail : PySem.W.keepIn K (.ref c_BadFail) = true)
    (hC_BadFail : PySem.W.hasDictIn K c_BadFail = true)
    (iC_BadFail : PySem.W.isClsIn K c_BadFail = true)
    (sC_BadFail : PySem.W.subIn K (.ref c_BadFail) (.ref c_BadFail) = some true)
    (z_BadFail_index : PySem.W.findIn K (.ref c_BadFail) "index" = some none)
    (n_Twice : PySem.W.nsIn K mainGlobals "Twice" = some (some (.ref c_Twice)))
    (x_Twice : K.lookup c_Twice = some (excClassObj nm_Twice q_Twice c_Twice N_Twice bs_Twice [.type "ValueError", .type "Exception", .type "BaseException", .type "object"] true sn_Twice sub_Twice ab_Twice col_Twice dd_Twice m0_Twice m1_Twice m2_Twice m3_Twice m5_Twice "ValueError.__new__"))
    (sa_Twice : PySem.W.findIn K (.ref c_Twice) "__setattr__" = some (some (.builtin "object.__setattr__")))
    (ga_Twice : PySem.W.findIn K (.ref c_Twice) "__getattribute__" = some (some (.builtin "BaseException.__getattribute__")))
    (gg_Twice : PySem.W.findIn K (.ref c_Twice) "__getattr__" = some none)
    (eC_Twice : PySem.W.subIn K (.ref c_Twice) (.type "BaseException") = some true)
    (tC_Twice : PySem.W.typeIn K (.ref c_Twice) = some (.type "type"))
    (kC_Twice : PySem.W.keepIn K (.ref c_Twice) = true)
    (hC_Twice : PySem.W.hasDictIn K c_Twice = true)
    (iC_Twice : PySem.W.isClsIn K c_Twice = true)
    (sC_Twice : PySem.W.subIn K (.ref c_Twice) (.ref c_Twice) = some true)
    (z_Twice_name : PySem.W.findIn K (.ref c_Twice) "name" = some none)
    (n_NoPlace : PySem.W.nsIn K mainGlobals "NoPlace" = some (some (.ref c_NoPlace)))
    (x_NoPlace : K.lookup c_NoPlace = some (excClassObj nm_NoPlace q_NoPlace c_NoPlace N_NoPlace bs_NoPlace [.type "LookupError", .type "Exception", .type "BaseException", .type "object"] true sn_NoPlace sub_NoPlace ab_NoPlace col_NoPlace dd_NoPlace m0_NoPlace m1_NoPlace m2_NoPlace m3_NoPlace m5_NoPlace "LookupError.__new__"))
    (sa_NoPlace : PySem.W.findIn K (.ref c_NoPlace) "__setattr__" = some (some (.builtin "object.__setattr__")))
    (ga_NoPlace : PySem.W.findIn K (.ref c_NoPlace) "__getattribute__" = some (some (.builtin "BaseException.__getattribute__")))
    (gg_NoPlace : PySem.W.findIn K (.ref c_NoPlace) "__getattr__" = some none)
    (eC_NoPlace : PySem.W.subIn K (.ref c_NoPlace) (.type "BaseException") = some true)
    (tC_NoPlace : PySem.W.typeIn K (.ref c_NoPlace) = some (.type "type"))
    (kC_NoPlace : PySem.W.keepIn K (.ref c_NoPlace) = true)
    (hC_NoPlace : PySem.W.hasDictIn K c_NoPlace = true)
    (iC_NoPlace : PySem.W.isClsIn K c_NoPlace = true)
    (sC_NoPlace : PySem.W.subIn K (.ref c_NoPlace) (.ref c_NoPlace) = some true)
    (va_NoPlace : PySem.W.findIn K (.ref c_NoPlace) "__class__" = some (some (.builtin "object.__class__")))
    (vn_NoPlace : PySem.W.specialIn K (.builtin "object.__class__") "__get__" = some (some (.builtin "getset_descriptor.__get__")))
    (vt_NoPlace : PySem.W.takesIn K (.builtin "object.__class__") = some true)
    (vm_NoPlace : PySem.W.mroIn K c_NoPlace (.type "object") = some true)
    (ks_NoPlace_LookupError : PySem.W.subIn K (.ref c_NoPlace) (.type "LookupError") = some true)
    (z_NoPlace_name : PySem.W.findIn K (.ref c_NoPlace) "name" = some none)
    (n_TooMany : PySem.W.nsIn K mainGlobals "TooMany" = some (some (.ref c_TooMany)))
    (x_TooMany : K.lookup c_TooMany = some (excClassObj nm_TooMany q_TooMany c_TooMany N_TooMany bs_TooMany [.type "OverflowError", .type "ArithmeticError", .type "Exception", .type "BaseException", .type "object"] true sn_TooMany sub_TooMany ab_TooMany col_TooMany dd_TooMany m0_TooMany m1_TooMany m2_TooMany m3_TooMany m5_TooMany "OverflowError.__new__"))
    (sa_TooMany : PySem.W.findIn K (.ref c_TooMany) "__setattr__" = some (some (.builtin "object.__setattr__")))
    (ga_TooMany : PySem.W.findIn K (.ref c_TooMany) "__getattribute__" = some (some (.builtin "BaseException.__getattribute__")))
    (gg_TooMany : PySem.W.findIn K (.ref c_TooMany) "__getattr__" = some none)
    (eC_TooMany : PySem.W.subIn K (.ref c_TooMany) (.type "BaseException") = some true)
    (tC_TooMany : PySem.W.typeIn K (.ref c_TooMany) = some (.type "type"))
    (kC_TooMany : PySem.W.keepIn K (.ref c_TooMany) = true)
    (hC_TooMany : PySem.W.hasDictIn K c_TooMany = true)
    (iC_TooMany : PySem.W.isClsIn K c_TooMany = true)
    (sC_TooMany : PySem.W.subIn K (.ref c_TooMany) (.ref c_TooMany) = some true)
    (z_TooMany_limit : PySem.W.findIn K (.ref c_TooMany) "limit" = some none)
    (n_Stand : PySem.W.nsIn K mainGlobals "Stand" = some (some (.ref c_Stand)))
    (pg_Stand : PySem.W.plainGet K c_Stand Str.empty = true)
    (hd_Stand : PySem.W.hasDictIn K c_Stand = true)
    (po_Stand : PySem.W.plainOver K c_Stand = true)
    (sa_Stand : PySem.W.findIn K (.ref c_Stand) "__setattr__" = some (some (.builtin "object.__setattr__")))
    (ha_Stand : PySem.W.findIn K (.ref c_Stand) "__class__" = some (some (.builtin "object.__class__")))
    (hn_Stand : PySem.W.specialIn K (.builtin "object.__class__") "__get__" = some (some (.builtin "getset_descriptor.__get__")))
    (ht_Stand : PySem.W.takesIn K (.builtin "object.__class__") = some true)
    (hm_Stand : PySem.W.mroIn K c_Stand (.type "object") = some true)
    (eq_Stand : PySem.W.findIn K (.ref c_Stand) "__eq__" = some (some (.ref f_Stand_eq)))
    (en_Stand : PySem.W.findIn K (.ref c_Stand) "__ne__" = some (some (.builtin "object.__ne__")))
    (ka_Stand_NoneType : PySem.W.subIn K (.type "NoneType") (.ref c_Stand) = some false)
    (ty_Stand : PySem.W.typeIn K (.ref c_Stand) = some (.type "type"))
    (ka_Stand_dict : PySem.W.subIn K (.type "dict") (.ref c_Stand) = some false)
    (na_Stand_service : PySem.W.findIn K (.ref c_Stand) "service" = some none)
    (na_Stand_inside : PySem.W.findIn K (.ref c_Stand) "inside" = some none)
    (mk_Stand : PySem.W.makesIn K c_Stand = true)
    (kc_Stand : PySem.W.keepIn K (.ref c_Stand) = true)
    (n_Call : PySem.W.nsIn K mainGlobals "Call" = some (some (.ref c_Call)))
    (pg_Call : PySem.W.plainGet K c_Call Str.empty = true)
    (hd_Call : PySem.W.hasDictIn K c_Call = true)
    (po_Call : PySem.W.plainOver K c_Call = true)
    (sa_Call : PySem.W.findIn K (.ref c_Call) "__setattr__" = some (some (.builtin "object.__setattr__")))
    (ha_Call : PySem.W.findIn K (.ref c_Call) "__class__" = some (some (.builtin "object.__class__")))
    (hn_Call : PySem.W.specialIn K (.builtin "object.__class__") "__get__" = some (some (.builtin "getset_descriptor.__get__")))
    (ht_Call : PySem.W.takesIn K (.builtin "object.__class__") = some true)
    (hm_Call : PySem.W.mroIn K c_Call (.type "object") = some true)
    (na_Call_handler : PySem.W.findIn K (.ref c_Call) "handler" = some none)
    (na_Call_fails : PySem.W.findIn K (.ref c_Call) "fails" = some none)
    (na_Call_typed : PySem.W.findIn K (.ref c_Call) "typed" = some none)
    (na_Call_sources : PySem.W.findIn K (.ref c_Call) "sources" = some none)
    (na_Call_functions : PySem.W.findIn K (.ref c_Call) "functions" = some none)
    (na_Call_tests : PySem.W.findIn K (.ref c_Call) "tests" = some none)
    (mk_Call : PySem.W.makesIn K c_Call = true)
    (kc_Call : PySem.W.keepIn K (.ref c_Call) = true)
    (n_History : PySem.W.nsIn K mainGlobals "History" = some (some (.ref c_History)))
    (pg_History : PySem.W.plainGet K c_History Str.empty = true)
    (hd_History : PySem.W.hasDictIn K c_History = true)
    (po_History : PySem.W.plainOver K c_History = true)
    (sa_History : PySem.W.findIn K (.ref c_History) "__setattr__" = some (some (.builtin "object.__setattr__")))
    (ha_History : PySem.W.findIn K (.ref c_History) "__class__" = some (some (.builtin "object.__class__")))
    (hn_History : PySem.W.specialIn K (.builtin "object.__class__") "__get__" = some (some (.builtin "getset_descriptor.__get__")))
    (ht_History : PySem.W.takesIn K (.builtin "object.__class__") = some true)
    (hm_History : PySem.W.mroIn K c_History (.type "object") = some true)
    (na_History_start : PySem.W.findIn K (.ref c_History) "start" = some none)
    (na_History_calls : PySem.W.findIn K (.ref c_History) "calls" = some none)
    (mk_History : PySem.W.makesIn K c_History = true)
    (kc_History : PySem.W.keepIn K (.ref c_History) = true)
    (rd_History : PySem.W.readsIn K c_History (.type "type") = true)
    (gq_History : PySem.W.specialIn K (.ref c_History) "__getattribute__" = some (some (.builtin "type.__getattribute__")))
    (n_Twin : PySem.W.nsIn K mainGlobals "Twin" = some (some (.ref c_Twin)))
    (pg_Twin : PySem.W.plainGet K c_Twin Str.empty = true)
    (hd_Twin : PySem.W.hasDictIn K c_Twin = true)
    (po_Twin : PySem.W.plainOver K c_Twin = true)
    (sa_Twin : PySem.W.findIn K (.ref c_Twin) "__setattr__" = some (some (.builtin "object.__setattr__")))
    (ha_Twin : PySem.W.findIn K (.ref c_Twin) "__class__" = some (some (.builtin "object.__class__")))
    (hn_Twin : PySem.W.specialIn K (.builtin "object.__class__") "__get__" = some (some (.builtin "getset_descriptor.__get__")))
    (ht_Twin : PySem.W.takesIn K (.builtin "object.__class__") = some true)
    (hm_Twin : PySem.W.mroIn K c_Twin (.type "object") = some true)
    (na_Twin_service : PySem.W.findIn K (.ref c_Twin) "service" = some none)
    (na_Twin_failing : PySem.W.findIn K (.ref c_Twin) "failing" = some none)
    (na_Twin_clean : PySem.W.findIn K (.ref c_Twin) "clean" = some none)
    (na_Twin_many : PySem.W.findIn K (.ref c_Twin) "many" = some none)
    (na_Twin_apart : PySem.W.findIn K (.ref c_Twin) "apart" = some none)
    (mk_Twin : PySem.W.makesIn K c_Twin = true)
    (kc_Twin : PySem.W.keepIn K (.ref c_Twin) = true)
    (n_Service : PySem.W.nsIn K mainGlobals "Service" = some (some (.ref c_Service)))
    (pg_Service : PySem.W.plainGet K c_Service Str.empty = true)
    (hd_Service : PySem.W.hasDictIn K c_Service = true)
    (po_Service : PySem.W.plainOver K c_Service = true)
    (sa_Service : PySem.W.findIn K (.ref c_Service) "__setattr__" = some (some (.builtin "object.__setattr__")))
    (ha_Service : PySem.W.findIn K (.ref c_Service) "__class__" = some (some (.builtin "object.__class__")))
    (hn_Service : PySem.W.specialIn K (.builtin "object.__class__") "__get__" = some (some (.builtin "getset_descriptor.__get__")))
    (ht_Service : PySem.W.takesIn K (.builtin "object.__class__") = some true)
    (hm_Service : PySem.W.mroIn K c_Service (.type "object") = some true)
    (eq_Service : PySem.W.findIn K (.ref c_Service) "__eq__" = some (some (.ref f_Service_eq)))
    (en_Service : PySem.W.findIn K (.ref c_Service) "__ne__" = some (some (.builtin "object.__ne__")))
    (na_Service_handlers : PySem.W.findIn K (.ref c_Service) "handlers" = some none)
    (na_Service_cells : PySem.W.findIn K (.ref c_Service) "cells" = some none)
    (na_Service_sources : PySem.W.findIn K (.ref c_Service) "sources" = some none)
    (na_Service_slots : PySem.W.findIn K (.ref c_Service) "slots" = some none)
    (na_Service_fields : PySem.W.findIn K (.ref c_Service) "fields" = some none)
    (na_Service_places : PySem.W.findIn K (.ref c_Service) "places" = some none)
    (na_Service_constants : PySem.W.findIn K (.ref c_Service) "constants" = some none)
    (mk_Service : PySem.W.makesIn K c_Service = true)
    (kc_Service : PySem.W.keepIn K (.ref c_Service) = true)
    (rd_Service : PySem.W.readsIn K c_Service (.type "type") = true)
    (gq_Service : PySem.W.specialIn K (.ref c_Service) "__getattribute__" = some (some (.builtin "type.__getattribute__")))
    (n_LETTERS : PySem.W.nsIn K mainGlobals "LETTERS" = some (some (.str "abcdefghijklmnopqrstuvwxyz" tk_LETTERS)))
    (n_MOST_SIGNS : PySem.W.nsIn K mainGlobals "MOST_SIGNS" = some (some (.int 8 tk_MOST_SIGNS)))
    (n_MOST_OPERANDS : PySem.W.nsIn K mainGlobals "MOST_OPERANDS" = some (some (.int 3 tk_MOST_OPERANDS)))
    (n_BEYOND : PySem.W.nsIn K mainGlobals "BEYOND" = some (some (.int 100000000000000000000 tk_BEYOND)))
    (n_MOST_CELLS : PySem.W.nsIn K mainGlobals "MOST_CELLS" = some (some (.int 6 tk_MOST_CELLS)))
    (n_MOST_OTHERS : PySem.W.nsIn K mainGlobals "MOST_OTHERS" = some (some (.int 4 tk_MOST_OTHERS)))
    (n_MOST_HANDLERS : PySem.W.nsIn K mainGlobals "MOST_HANDLERS" = some (some (.int 6 tk_MOST_HANDLERS)))
    (b_LookupError : PySem.W.nsIn K mainGlobals "LookupError" = some none)
    (b_OverflowError : PySem.W.nsIn K mainGlobals "OverflowError" = some none)
    (b_RuntimeError : PySem.W.nsIn K mainGlobals "RuntimeError" = some none)
    (b_TypeError : PySem.W.nsIn K mainGlobals "TypeError" = some none)
    (b_ValueError : PySem.W.nsIn K mainGlobals "ValueError" = some none)
    (b_abs : PySem.W.nsIn K mainGlobals "abs" = some none)
    (b_all : PySem.W.nsIn K mainGlobals "all" = some none)
    (b_bool : PySem.W.nsIn K mainGlobals "bool" = some none)
    (b_dict : PySem.W.nsIn K mainGlobals "dict" = some none)
    (b_enumerate : PySem.W.nsIn K mainGlobals "enumerate" = some none)
    (b_int : PySem.W.nsIn K mainGlobals "int" = some none)
    (b_isinstance : PySem.W.nsIn K mainGlobals "isinstance" = some none)
    (b_len : PySem.W.nsIn K mainGlobals "len" = some none)
    (b_list : PySem.W.nsIn K mainGlobals "list" = some none)
    (b_max : PySem.W.nsIn K mainGlobals "max" = some none)
    (b_min : PySem.W.nsIn K mainGlobals "min" = some none)
    (b_range : PySem.W.nsIn K mainGlobals "range" = some none)
    (b_sorted : PySem.W.nsIn K mainGlobals "sorted" = some none)
    (b_str : PySem.W.nsIn K mainGlobals "str" = some none)
    (b_sum : PySem.W.nsIn K mainGlobals "sum" = some none)
    (b_tuple : PySem.W.nsIn K mainGlobals "tuple" = some none) :
    ∃ (fd : FuncData) (c P' : Addr), h.get? P' = some { cls := .none, data := .fields #[] } ∧ K.lookup P' = none ∧ PySem.W.CodeHd h c P' ∧ (∀ (s : Shared) (u : Value), BindsTo s fd ⟨[u], []⟩ [("script", u)]) ∧ ∀ base : Heap, K.In base → base.Ns mainGlobals mg → TabB base mg c P' → FnG false P w K mg base 11 fa fd ["script"] (spLawT P' K) := by
  have e := hfa.symm.trans (PySem.W.mg_of X G a_law)
  cases e
  have T : Txt K mg ⟨f_BadName_init, _, f_BadFail_init, _, f_Twice_init, _, f_NoPlace_init, _, f_TooMany_init, _, f_is_name, _, f_is_int, _, f_check_name, _, f_is_fail, _, f_check_fails, _, f_copied, _, f_Stand_init, _, f_Stand_held, _, f_Stand_eq, _, f_Call_init, _, f_History_init, _, f_History_made, _, f_Twin_init, _, f_check_unlike, _, f_Service_init, _, f_Service_made, _, f_Service_eq, _, f_Service_parts, _, f_Service_all_operands, _, f_law_digits, _, f_law_draw, _, f_law_choice, _, f_law_drawn_name, _, f_law_drawn_names, _, f_law_value, _, f_law_count, _, f_law_drawn_places, _, f_law_same, _, f_law_error, _, f_law_is_begun, _, f_law_are_histories, _, _, _, co_law, tb_law, c_BadName, c_BadFail, c_Twice, c_NoPlace, c_TooMany, c_Stand, p_Stand_held, c_Call, c_History, p_History_made, c_Twin, c_Service, p_Service_made, kt_Service_init_cells, kt_Service_init_sources, kt_Service_init_slots, kt_Service_init_fields, kt_Call_init_fails⟩ := {
    f_BadName_init := fun_mk (st := s_BadName_init) l_BadName_init cc_BadName_init k_BadName_init,
    e_BadName_init := (fun_mk (st := s_BadName_init) l_BadName_init cc_BadName_init k_BadName_init).binds (ps := ["self", "name"]) fun _ _ _ _ _ _ us hl => match us, hl with | [_, _], _ => rfl,
    f_BadFail_init := fun_mk (st := s_BadFail_init) l_BadFail_init cc_BadFail_init k_BadFail_init,
    e_BadFail_init := (fun_mk (st := s_BadFail_init) l_BadFail_init cc_BadFail_init k_BadFail_init).binds (ps := ["self", "index"]) fun _ _ _ _ _ _ us hl => match us, hl with | [_, _], _ => rfl,
    f_Twice_init := fun_mk (st := s_Twice_init) l_Twice_init cc_Twice_init k_Twice_init,
    e_Twice_init := (fun_mk (st := s_Twice_init) l_Twice_init cc_Twice_init k_Twice_init).binds (ps := ["self", "name"]) fun _ _ _ _ _ _ us hl => match us, hl with | [_, _], _ => rfl,
    f_NoPlace_init := fun_mk (st := s_NoPlace_init) l_NoPlace_init cc_NoPlace_init k_NoPlace_init,
    e_NoPlace_init := (fun_mk (st := s_NoPlace_init) l_NoPlace_init cc_NoPlace_init k_NoPlace_init).binds (ps := ["self", "name"]) fun _ _ _ _ _ _ us hl => match us, hl with | [_, _], _ => rfl,
    f_TooMany_init := fun_mk (st := s_TooMany_init) l_TooMany_init cc_TooMany_init k_TooMany_init,
    e_TooMany_init := (fun_mk (st := s_TooMany_init) l_TooMany_init cc_TooMany_init k_TooMany_init).binds (ps := ["self", "limit"]) fun _ _ _ _ _ _ us hl => match us, hl with | [_, _], _ => rfl,
    f_is_name := fun_mk (st := s_is_name) l_is_name cc_is_name k_is_name,
    e_is_name := (fun_mk (st := s_is_name) l_is_name cc_is_name k_is_name).binds (ps := ["thing"]) fun _ _ _ _ _ _ us hl => match us, hl with | [_], _ => rfl,
    g_is_name := PySem.W.mg_of X G a_is_name,
    k_is_name := k_is_name,
    f_is_int := fun_mk (st := s_is_int) l_is_int cc_is_int k_is_int,
    e_is_int := (fun_mk (st := s_is_int) l_is_int cc_is_int k_is_int).binds (ps := ["thing"]) fun _ _ _ _ _ _ us hl => match us, hl with | [_], _ => rfl,
    g_is_int := PySem.W.mg_of X G a_is_int,
    k_is_int := k_is_int,
    f_check_name := fun_mk (st := s_check_name) l_check_name cc_check_name k_check_name,
    e_check_name := (fun_mk (st := s_check_name) l_check_name cc_check_name k_check_name).binds (ps := ["thing"]) fun _ _ _ _ _ _ us hl => match us, hl with | [_], _ => rfl,
    g_check_name := PySem.W.mg_of X G a_check_name,
    k_check_name := k_check_name,
    f_is_fail := fun_mk (st := s_is_fail) l_is_fail cc_is_fail k_is_fail,
    e_is_fail := (fun_mk (st := s_is_fail) l_is_fail cc_is_fail k_is_fail).binds (ps := ["thing"]) fun _ _ _ _ _ _ us hl => match us, hl with | [_], _ => rfl,
    g_is_fail := PySem.W.mg_of X G a_is_fail,
    k_is_fail := k_is_fail,
    f_check_fails := fun_mk (st := s_check_fails) l_check_fails cc_check_fails k_check_fails,
    e_check_fails := (fun_mk (st := s_check_fails) l_check_fails cc_check_fails k_check_fails).binds (ps := ["fails"]) fun _ _ _ _ _ _ us hl => match us, hl with | [_], _ => rfl,
    g_check_fails := PySem.W.mg_of X G a_check_fails,
    k_check_fails := k_check_fails,
    f_copied := fun_mk (st := s_copied) l_copied cc_copied k_copied,
    e_copied := (fun_mk (st := s_copied) l_copied cc_copied k_copied).binds (ps := ["table"]) fun _ _ _ _ _ _ us hl => match us, hl with | [_], _ => rfl,
    g_copied := PySem.W.mg_of X G a_copied,
    k_copied := k_copied,
    ef_Stand_init := by
      intro s us X hl
      have hl2 : us.length = 3 := by simpa using hl
      match us, hl2 with
      | [u0, u1, u2], _ => exact PySem.W.binds_K X rfl dl_Stand_init rfl rfl rfl,
    e_Stand_init := by
      intro s us X hl
      have hl2 : us.length = 2 := by simpa using hl
      match us, hl2 with
      | [u0, u1], _ => exact PySem.W.binds_K X rfl dl_Stand_init rfl rfl rfl,
    f_Stand_init := funA_mk (st := s_Stand_init) l_Stand_init cc_Stand_init,
    f_Stand_held := fun_mk (st := s_Stand_held) l_Stand_held cc_Stand_held k_Stand_held,
    e_Stand_held := (fun_mk (st := s_Stand_held) l_Stand_held cc_Stand_held k_Stand_held).binds (ps := ["self"]) fun _ _ _ _ _ _ us hl => match us, hl with | [_], _ => rfl,
    f_Stand_eq := fun_mk (st := s_Stand_eq) l_Stand_eq cc_Stand_eq k_Stand_eq,
    e_Stand_eq := (fun_mk (st := s_Stand_eq) l_Stand_eq cc_Stand_eq k_Stand_eq).binds (ps := ["self", "other"]) fun _ _ _ _ _ _ us hl => match us, hl with | [_, _], _ => rfl,
    kt_Call_init_fails := fun H => .inr ⟨_, #[], _, kl_Call_init_fails, rfl, rfl, by decide, .nil⟩,
    kz_0 := by
      refine ⟨fun s us ws X h1 h2 => ?_, fun r1 r2 => r1.append (.cons rfl (.cons rfl (.cons rfl (.cons rfl (.cons rfl .nil)))))⟩
      refine BindsTo.of_looks fun M => KwChain.looks (D := kD_Call_init) (l := [("typed", .none), ("fails", .ref kt_Call_init_fails), ("sources", .none), ("functions", .none), ("tests", .none)]) X (fun q hq => ?_) ?_
      · simp only [List.mem_cons, List.not_mem_nil, or_false] at hq
        rcases hq with rfl | rfl | rfl | rfl | rfl
        · exact kn_Call_init_typed
        · exact kn_Call_init_fails
        · exact kn_Call_init_sources
        · exact kn_Call_init_functions
        · exact kn_Call_init_tests
      · match us, ws, h1, h2 with
        | [u0, u1], [], _, _ => exact ⟨_, _, _, _, _, _, rfl, rfl, _, _, _, _, _, _, rfl, rfl, _, _, _, _, _, _, rfl, rfl, _, _, _, _, _, _, rfl, rfl, _, _, _, _, _, _, rfl, rfl, rfl⟩,
    f_Call_init := fun_mk (st := s_Call_init) l_Call_init cc_Call_init k_Call_init,
    f_History_init := fun_mk (st := s_History_init) l_History_init cc_History_init k_History_init,
    f_History_made := fun_mk (st := s_History_made) l_History_made cc_History_made k_History_made,
    e_History_made := (fun_mk (st := s_History_made) l_History_made cc_History_made k_History_made).binds (ps := ["cls", "start", "calls"]) fun _ _ _ _ _ _ us hl => match us, hl with | [_, _, _], _ => rfl,
    ef_Twin_init := by
      intro s us X hl
      have hl2 : us.length = 3 := by simpa using hl
      match us, hl2 with
      | [u0, u1, u2], _ => exact PySem.W.binds_K X rfl dl_Twin_init rfl rfl rfl,
    e_Twin_init := by
      intro s us X hl
      have hl2 : us.length = 2 := by simpa using hl
      match us, hl2 with
      | [u0, u1], _ => exact PySem.W.binds_K X rfl dl_Twin_init rfl rfl rfl,
    f_Twin_init := funA_mk (st := s_Twin_init) l_Twin_init cc_Twin_init,
    f_check_unlike := fun_mk (st := s_check_unlike) l_check_unlike cc_check_unlike k_check_unlike,
    e_check_unlike := (fun_mk (st := s_check_unlike) l_check_unlike cc_check_unlike k_check_unlike).binds (ps := ["names"]) fun _ _ _ _ _ _ us hl => match us, hl with | [_], _ => rfl,
    g_check_unlike := PySem.W.mg_of X G a_check_unlike,
    k_check_unlike := k_check_unlike,
    kt_Service_init_cells := fun H => .inr ⟨_, #[], _, kl_Service_init_cells, rfl, rfl, by decide, .nil⟩,
    kt_Service_init_sources := fun H => .inr ⟨_, #[], _, kl_Service_init_sources, rfl, rfl, by decide, .nil⟩,
    kt_Service_init_slots := fun H => .inr ⟨_, #[], _, kl_Service_init_slots, rfl, rfl, by decide, .nil⟩,
    kt_Service_init_fields := fun H => .inr ⟨_, #[], _, kl_Service_init_fields, rfl, rfl, by decide, .nil⟩,
    sb_Service_init := by
      refine ⟨fun s u1 rest ws X h1 h2 => ?_, fun r => r, fun zs h => h⟩
      match u1, h1, ws, h2 with
      | [u0], _, [w0, w1, w2, w3], _ => cases rest <;> exact BStar.of rfl,
    sb0_Service_init := by
      refine ⟨fun s u1 rest ws X h1 h2 => ?_, fun _ => (.cons rfl (.cons rfl (.cons rfl (.cons rfl .nil)))), fun zs h => rfl⟩
      have hk : ∀ q ∈ ([("cells", .ref kt_Service_init_cells), ("sources", .ref kt_Service_init_sources), ("slots", .ref kt_Service_init_slots), ("fields", .ref kt_Service_init_fields)] : List (Str × Value)), PySem.W.nsIn K kD_Service_init q.1 = some (some q.2) := by
        intro q hq
        simp only [List.mem_cons, List.not_mem_nil, or_false] at hq
        rcases hq with rfl | rfl | rfl | rfl
        · exact kn_Service_init_cells
        · exact kn_Service_init_sources
        · exact kn_Service_init_slots
        · exact kn_Service_init_fields
      match u1, h1, ws, h2 with
      | [u0], _, [], _ => cases rest <;> exact BStar.kw (D := kD_Service_init) (l := [("cells", .ref kt_Service_init_cells), ("sources", .ref kt_Service_init_sources), ("slots", .ref kt_Service_init_slots), ("fields", .ref kt_Service_init_fields)]) X hk ⟨_, _, _, _, _, _, rfl, rfl, _, _, _, _, _, _, rfl, rfl, _, _, _, _, _, _, rfl, rfl, _, _, _, _, _, _, rfl, rfl, rfl⟩,
    f_Service_init := fun_mk (st := s_Service_init) l_Service_init cc_Service_init k_Service_init,
    kc_0 := Fun.kbn (fun_mk (st := s_Service_made) l_Service_made cc_Service_made k_Service_made) (fun _ _ _ _ _ _ us ws h1 h2 => match us, ws, h1, h2 with | [_, _], [_, _, _, _], _, _ => rfl) (fun r1 r2 => r1.append r2),
    f_Service_made := fun_mk (st := s_Service_made) l_Service_made cc_Service_made k_Service_made,
    f_Service_eq := fun_mk (st := s_Service_eq) l_Service_eq cc_Service_eq k_Service_eq,
    e_Service_eq := (fun_mk (st := s_Service_eq) l_Service_eq cc_Service_eq k_Service_eq).binds (ps := ["self", "other"]) fun _ _ _ _ _ _ us hl => match us, hl with | [_, _], _ => rfl,
    f_Service_parts := fun_mk (st := s_Service_parts) l_Service_parts cc_Service_parts k_Service_parts,
    e_Service_parts := (fun_mk (st := s_Service_parts) l_Service_parts cc_Service_parts k_Service_parts).binds (ps := ["self"]) fun _ _ _ _ _ _ us hl => match us, hl with | [_], _ => rfl,
    f_Service_all_operands := fun_mk (st := s_Service_all_operands) l_Service_all_operands cc_Service_all_operands k_Service_all_operands,
    e_Service_all_operands := (fun_mk (st := s_Service_all_operands) l_Service_all_operands cc_Service_all_operands k_Service_all_operands).binds (ps := ["self"]) fun _ _ _ _ _ _ us hl => match us, hl with | [_], _ => rfl,
    f_law_digits := fun_mk (st := s_law_digits) l_law_digits cc_law_digits k_law_digits,
    e_law_digits := (fun_mk (st := s_law_digits) l_law_digits cc_law_digits k_law_digits).binds (ps := ["script", "at"]) fun _ _ _ _ _ _ us hl => match us, hl with | [_, _], _ => rfl,
    g_law_digits := PySem.W.mg_of X G a_law_digits,
    k_law_digits := k_law_digits,
    f_law_draw := fun_mk (st := s_law_draw) l_law_draw cc_law_draw k_law_draw,
    e_law_draw := (fun_mk (st := s_law_draw) l_law_draw cc_law_draw k_law_draw).binds (ps := ["draws", "many"]) fun _ _ _ _ _ _ us hl => match us, hl with | [_, _], _ => rfl,
    g_law_draw := PySem.W.mg_of X G a_law_draw,
    k_law_draw := k_law_draw,
    f_law_choice := fun_mk (st := s_law_choice) l_law_choice cc_law_choice k_law_choice,
    e_law_choice := (fun_mk (st := s_law_choice) l_law_choice cc_law_choice k_law_choice).binds (ps := ["draws", "things"]) fun _ _ _ _ _ _ us hl => match us, hl with | [_, _], _ => rfl,
    g_law_choice := PySem.W.mg_of X G a_law_choice,
    k_law_choice := k_law_choice,
    f_law_drawn_name := fun_mk (st := s_law_drawn_name) l_law_drawn_name cc_law_drawn_name k_law_drawn_name,
    e_law_drawn_name := (fun_mk (st := s_law_drawn_name) l_law_drawn_name cc_law_drawn_name k_law_drawn_name).binds (ps := ["draws"]) fun _ _ _ _ _ _ us hl => match us, hl with | [_], _ => rfl,
    g_law_drawn_name := PySem.W.mg_of X G a_law_drawn_name,
    k_law_drawn_name := k_law_drawn_name,
    f_law_drawn_names := fun_mk (st := s_law_drawn_names) l_law_drawn_names cc_law_drawn_names k_law_drawn_names,
    e_law_drawn_names := (fun_mk (st := s_law_drawn_names) l_law_drawn_names cc_law_drawn_names k_law_drawn_names).binds (ps := ["draws", "many"]) fun _ _ _ _ _ _ us hl => match us, hl with | [_, _], _ => rfl,
    g_law_drawn_names := PySem.W.mg_of X G a_law_drawn_names,
    k_law_drawn_names := k_law_drawn_names,
    f_law_value := fun_mk (st := s_law_value) l_law_value cc_law_value k_law_value,
    e_law_value := (fun_mk (st := s_law_value) l_law_value cc_law_value k_law_value).binds (ps := ["draws"]) fun _ _ _ _ _ _ us hl => match us, hl with | [_], _ => rfl,
    g_law_value := PySem.W.mg_of X G a_law_value,
    k_law_value := k_law_value,
    f_law_count := fun_mk (st := s_law_count) l_law_count cc_law_count k_law_count,
    e_law_count := (fun_mk (st := s_law_count) l_law_count cc_law_count k_law_count).binds (ps := ["draws", "usual", "most"]) fun _ _ _ _ _ _ us hl => match us, hl with | [_, _, _], _ => rfl,
    g_law_count := PySem.W.mg_of X G a_law_count,
    k_law_count := k_law_count,
    f_law_drawn_places := fun_mk (st := s_law_drawn_places) l_law_drawn_places cc_law_drawn_places k_law_drawn_places,
    e_law_drawn_places := (fun_mk (st := s_law_drawn_places) l_law_drawn_places cc_law_drawn_places k_law_drawn_places).binds (ps := ["draws"]) fun _ _ _ _ _ _ us hl => match us, hl with | [_], _ => rfl,
    g_law_drawn_places := PySem.W.mg_of X G a_law_drawn_places,
    k_law_drawn_places := k_law_drawn_places,
    f_law_same := fun_mk (st := s_law_same) l_law_same cc_law_same k_law_same,
    e_law_same := (fun_mk (st := s_law_same) l_law_same cc_law_same k_law_same).binds (ps := ["one", "other"]) fun _ _ _ _ _ _ us hl => match us, hl with | [_, _], _ => rfl,
    g_law_same := PySem.W.mg_of X G a_law_same,
    k_law_same := k_law_same,
    f_law_error := fun_mk (st := s_law_error) l_law_error cc_law_error k_law_error,
    e_law_error := (fun_mk (st := s_law_error) l_law_error cc_law_error k_law_error).binds (ps := ["action"]) fun _ _ _ _ _ _ us hl => match us, hl with | [_], _ => rfl,
    g_law_error := PySem.W.mg_of X G a_law_error,
    k_law_error := k_law_error,
    f_law_is_begun := fun_mk (st := s_law_is_begun) l_law_is_begun cc_law_is_begun k_law_is_begun,
    e_law_is_begun := (fun_mk (st := s_law_is_begun) l_law_is_begun cc_law_is_begun k_law_is_begun).binds (ps := ["twin", "service", "due"]) fun _ _ _ _ _ _ us hl => match us, hl with | [_, _, _], _ => rfl,
    g_law_is_begun := PySem.W.mg_of X G a_law_is_begun,
    k_law_is_begun := k_law_is_begun,
    f_law_are_histories := fun_mk (st := s_law_are_histories) l_law_are_histories cc_law_are_histories k_law_are_histories,
    e_law_are_histories := (fun_mk (st := s_law_are_histories) l_law_are_histories cc_law_are_histories k_law_are_histories).binds (ps := ["begun", "calls"]) fun _ _ _ _ _ _ us hl => match us, hl with | [_, _], _ => rfl,
    g_law_are_histories := PySem.W.mg_of X G a_law_are_histories,
    k_law_are_histories := k_law_are_histories,
    f_law := ⟨⟨_, _, _, _, _, _, _, _, rfl, l_law, cc_law⟩⟩,
    e_law := .all fun us hl => match us, hl with | [_], _ => rfl,
    g_law := PySem.W.mg_of X G a_law,
    k_law := k_law,
    g_BadName := PySem.W.mg_of X G n_BadName,
    o_BadName := ⟨⟨_, _, _, _, _, _, _, _, _, _, _, _, _, _, _, _, _, _, _, PySem.F.excBase_ValueError, x_BadName, fun _ => rfl, PySem.F.store_ValueError.passes, by decide +kernel⟩, sa_BadName, eC_BadName, tC_BadName, kC_BadName⟩,
    x_BadName := ⟨ga_BadName, gg_BadName, eC_BadName, hC_BadName⟩,
    h_BadName := exm_own eC_BadName iC_BadName tC_BadName sC_BadName,
    i_BadName := a_BadName_init,
    t_BadName := t_BadName_init,
    a_BadName_name := z_BadName_name,
    g_BadFail := PySem.W.mg_of X G n_BadFail,
    o_BadFail := ⟨⟨_, _, _, _, _, _, _, _, _, _, _, _, _, _, _, _, _, _, _, PySem.F.excBase_ValueError, x_BadFail, fun _ => rfl, PySem.F.store_ValueError.passes, by decide +kernel⟩, sa_BadFail, eC_BadFail, tC_BadFail, kC_BadFail⟩,
    x_BadFail := ⟨ga_BadFail, gg_BadFail, eC_BadFail, hC_BadFail⟩,
    h_BadFail := exm_own eC_BadFail iC_BadFail tC_BadFail sC_BadFail,
    i_BadFail := a_BadFail_init,
    t_BadFail := t_BadFail_init,
    a_BadFail_index := z_BadFail_index,
    g_Twice := PySem.W.mg_of X G n_Twice,
    o_Twice := ⟨⟨_, _, _, _, _, _, _, _, _, _, _, _, _, _, _, _, _, _, _, PySem.F.excBase_ValueError, x_Twice, fun _ => rfl, PySem.F.store_ValueError.passes, by decide +kernel⟩, sa_Twice, eC_Twice, tC_Twice, kC_Twice⟩,
    x_Twice := ⟨ga_Twice, gg_Twice, eC_Twice, hC_Twice⟩,
    h_Twice := exm_own eC_Twice iC_Twice tC_Twice sC_Twice,
    i_Twice := a_Twice_init,
    t_Twice := t_Twice_init,
    a_Twice_name := z_Twice_name,
    g_NoPlace := PySem.W.mg_of X G n_NoPlace,
    o_NoPlace := ⟨⟨_, _, _, _, _, _, _, _, _, _, _, _, _, _, _, _, _, _, _, PySem.F.excBase_LookupError, x_NoPlace, fun _ => rfl, PySem.F.store_LookupError.passes, by decide +kernel⟩, sa_NoPlace, eC_NoPlace, tC_NoPlace, kC_NoPlace⟩,
    x_NoPlace := ⟨ga_NoPlace, gg_NoPlace, eC_NoPlace, hC_NoPlace⟩,
    h_NoPlace := exm_own eC_NoPlace iC_NoPlace tC_NoPlace sC_NoPlace,
    i_NoPlace := a_NoPlace_init,
    t_NoPlace := t_NoPlace_init,
    xv_NoPlace := ⟨⟨ga_NoPlace, gg_NoPlace, eC_NoPlace, hC_NoPlace⟩, iC_NoPlace, va_NoPlace, vn_NoPlace, vt_NoPlace, vm_NoPlace⟩,
    kx_NoPlace_LookupError := kit_bt (by decide +kernel) ks_NoPlace_LookupError,
    a_NoPlace_name := z_NoPlace_name,
    g_TooMany := PySem.W.mg_of X G n_TooMany,
    o_TooMany := ⟨⟨_, _, _, _, _, _, _, _, _, _, _, _, _, _, _, _, _, _, _, PySem.F.excBase_OverflowError, x_TooMany, fun _ => rfl, PySem.F.store_OverflowError.passes, by decide +kernel⟩, sa_TooMany, eC_TooMany, tC_TooMany, kC_TooMany⟩,
    x_TooMany := ⟨ga_TooMany, gg_TooMany, eC_TooMany, hC_TooMany⟩,
    h_TooMany := exm_own eC_TooMany iC_TooMany tC_TooMany sC_TooMany,
    i_TooMany := a_TooMany_init,
    t_TooMany := t_TooMany_init,
    a_TooMany_limit := z_TooMany_limit,
    g_Stand := PySem.W.mg_of X G n_Stand,
    cl_Stand := ⟨pg_Stand, hd_Stand, po_Stand, sa_Stand⟩,
    ci_Stand := ⟨⟨pg_Stand, hd_Stand, po_Stand, sa_Stand⟩, ha_Stand, hn_Stand, ht_Stand, hm_Stand⟩,
    eq_Stand := eq_Stand,
    en_Stand := en_Stand,
    ka_Stand_NoneType := ka_Stand_NoneType,
    kb_Stand_NoneType := kt_of ty_Stand hm_Stand ka_Stand_NoneType,
    ka_Stand_dict := ka_Stand_dict,
    kb_Stand_dict := kt_of ty_Stand hm_Stand ka_Stand_dict,
    na_Stand_service := na_Stand_service,
    na_Stand_inside := na_Stand_inside,
    m_Stand := ⟨mk_Stand, a_Stand_init, i_Stand_init, kc_Stand⟩,
    pp_Stand_held := ⟨at_Stand_held, pg_Stand_held, pt_Stand_held, ⟨_, rc_Stand_held⟩⟩,
    a_Stand_eq := a_Stand_eq,
    i_Stand_eq := i_Stand_eq,
    g_Call := PySem.W.mg_of X G n_Call,
    cl_Call := ⟨pg_Call, hd_Call, po_Call, sa_Call⟩,
    ci_Call := ⟨⟨pg_Call, hd_Call, po_Call, sa_Call⟩, ha_Call, hn_Call, ht_Call, hm_Call⟩,
    na_Call_handler := na_Call_handler,
    na_Call_fails := na_Call_fails,
    na_Call_typed := na_Call_typed,
    na_Call_sources := na_Call_sources,
    na_Call_functions := na_Call_functions,
    na_Call_tests := na_Call_tests,
    m_Call := ⟨mk_Call, a_Call_init, i_Call_init, kc_Call⟩,
    g_History := PySem.W.mg_of X G n_History,
    cl_History := ⟨pg_History, hd_History, po_History, sa_History⟩,
    ci_History := ⟨⟨pg_History, hd_History, po_History, sa_History⟩, ha_History, hn_History, ht_History, hm_History⟩,
    na_History_start := na_History_start,
    na_History_calls := na_History_calls,
    m_History := ⟨mk_History, a_History_init, i_History_init, kc_History⟩,
    cm_History_made := ⟨at_History_made, ⟨_, rc_History_made⟩, fi_History_made⟩,
    cr_History := ⟨rd_History, gq_History⟩,
    g_Twin := PySem.W.mg_of X G n_Twin,
    cl_Twin := ⟨pg_Twin, hd_Twin, po_Twin, sa_Twin⟩,
    ci_Twin := ⟨⟨pg_Twin, hd_Twin, po_Twin, sa_Twin⟩, ha_Twin, hn_Twin, ht_Twin, hm_Twin⟩,
    na_Twin_service := na_Twin_service,
    na_Twin_failing := na_Twin_failing,
    na_Twin_clean := na_Twin_clean,
    na_Twin_many := na_Twin_many,
    na_Twin_apart := na_Twin_apart,
    m_Twin := ⟨mk_Twin, a_Twin_init, i_Twin_init, kc_Twin⟩,
    g_Service := PySem.W.mg_of X G n_Service,
    cl_Service := ⟨pg_Service, hd_Service, po_Service, sa_Service⟩,
    ci_Service := ⟨⟨pg_Service, hd_Service, po_Service, sa_Service⟩, ha_Service, hn_Service, ht_Service, hm_Service⟩,
    eq_Service := eq_Service,
    en_Service := en_Service,
    na_Service_handlers := na_Service_handlers,
    na_Service_cells := na_Service_cells,
    na_Service_sources := na_Service_sources,
    na_Service_slots := na_Service_slots,
    na_Service_fields := na_Service_fields,
    na_Service_places := na_Service_places,
    na_Service_constants := na_Service_constants,
    m_Service := ⟨mk_Service, a_Service_init, i_Service_init, kc_Service⟩,
    cm_Service_made := ⟨at_Service_made, ⟨_, rc_Service_made⟩, fi_Service_made⟩,
    a_Service_eq := a_Service_eq,
    i_Service_eq := i_Service_eq,
    a_Service_parts := a_Service_parts,
    i_Service_parts := i_Service_parts,
    a_Service_all_operands := a_Service_all_operands,
    i_Service_all_operands := i_Service_all_operands,
    cr_Service := ⟨rd_Service, gq_Service⟩,
    n_LETTERS := ⟨_, PySem.W.mg_of X G n_LETTERS⟩,
    n_MOST_SIGNS := ⟨_, PySem.W.mg_of X G n_MOST_SIGNS⟩,
    n_MOST_OPERANDS := ⟨_, PySem.W.mg_of X G n_MOST_OPERANDS⟩,
    n_BEYOND := ⟨_, PySem.W.mg_of X G n_BEYOND⟩,
    n_MOST_CELLS := ⟨_, PySem.W.mg_of X G n_MOST_CELLS⟩,
    n_MOST_OTHERS := ⟨_, PySem.W.mg_of X G n_MOST_OTHERS⟩,
    n_MOST_HANDLERS := ⟨_, PySem.W.mg_of X G n_MOST_HANDLERS⟩,
    b_LookupError := PySem.W.mg_none_of X G b_LookupError,
    b_OverflowError := PySem.W.mg_none_of X G b_OverflowError,
    b_RuntimeError := PySem.W.mg_none_of X G b_RuntimeError,
    b_TypeError := PySem.W.mg_none_of X G b_TypeError,
    b_ValueError := PySem.W.mg_none_of X G b_ValueError,
    b_abs := PySem.W.mg_none_of X G b_abs,
    b_all := PySem.W.mg_none_of X G b_all,
    b_bool := PySem.W.mg_none_of X G b_bool,
    b_dict := PySem.W.mg_none_of X G b_dict,
    b_enumerate := PySem.W.mg_none_of X G b_enumerate,
    b_int := PySem.W.mg_none_of X G b_int,
    b_isinstance := PySem.W.mg_none_of X G b_isinstance,
    b_len := PySem.W.mg_none_of X G b_len,
    b_list := PySem.W.mg_none_of X G b_list,
    b_max := PySem.W.mg_none_of X G b_max,
    b_min := PySem.W.mg_none_of X G b_min,
    b_range := PySem.W.mg_none_of X G b_range,
    b_sorted := PySem.W.mg_none_of X G b_sorted,
    b_str := PySem.W.mg_none_of X G b_str,
    b_sum := PySem.W.mg_none_of X G b_sum,
    b_tuple := PySem.W.mg_none_of X G b_tuple }
  exact ⟨_, co_law, tb_law, tin_law, ct_law, PySem.W.codeHd_of_K X ch_law, fun _ _ => .of_eq rfl, fun base _ _ TB => ok_law T TB⟩
abbrev HR : PySem.W.OpenRow := PySem.W.OpenLaw.row PySem.Challenge.rw_falsedefaults_k34_twins_made
abbrev HQ : Program := PySem.W.view HR.prog [79]
def HN0 : List PySem.Str := ["_wall", "BadName", "BadValue", "BadTest", "BadStep", "BadFail", "Twice", "Taken", "Misplaced", "NoHandler", "NoPlace", "NotTyped"]
def HN1 : List PySem.Str := ["Refused", "Shut", "TooMany", "LETTERS", "MOST_SIGNS", "MOST_OPERANDS", "BEYOND", "is_name", "is_int", "check_name", "check_operand", "check_operands"]
def HN2 : List PySem.Str := ["Step", "Read", "Let", "Work", "Put", "Keep", "Show", "Has", "Typed", "Holds", "Block", "When"]
def HN3 : List PySem.Str := ["answer", "doer_of", "is_fail", "check_fails", "copied", "looked_up", "Stand", "Call", "Outcome", "Desk", "last_shown", "is_false"]
def HN4 : List PySem.Str := ["false_fields_of", "apart_of", "report_of", "History", "Report", "Twin", "MOST_CELLS", "MOST_OTHERS", "MOST_HANDLERS", "check_unlike", "roles_of", "roles_of_test"]
def HN5 : List PySem.Str := ["Service", "_law_digits", "_law_draw", "_law_choice", "_law_drawn_name", "_law_drawn_names", "_law_value", "_law_count", "_law_drawn_places", "_law_same", "_law_error", "_law_is_begun"]
def HN6 : List PySem.Str := ["_law_are_histories"]
def HN : List PySem.Str := HN0 ++ HN1 ++ HN2 ++ HN3 ++ HN4 ++ HN5 ++ HN6
theorem h_ob {K : Params → PySem.W.Frag} {as : List Addr} {e : ∀ P, as = (K P).map (·.1)} {ts : List Addr} (s : PySem.W.SharedT) : (as.map (HandSHeadRun.getT s), ts.map (HandSHeadRun.getT s)) = (PySem.W.kmHook K as e ts).obs s.abs := by
  show _ = (as.map s.abs.heap.get?, ts.map s.abs.heap.get?)
  rw [show HandSHeadRun.getT s = s.abs.heap.get? from funext (HandSHeadRun.getT_eq s)]
end Z
open PySem PySem.W PyProof.Rows
local macro_rules | `(tactic| o_head $H) => `(tactic| refine HandSHeadRun.head_any (r := Z.HR) (q := Z.HQ) (H := $H) (M := 16000) (loose := Z.HN) (kwd := []) (fun s => Z.h_ob s) (by kernel_rfl) (fun s => by kernel_rfl) (fun w os => by kernel_rfl) (by rfl) (by rfl) (by rfl) (by rfl) (by first | assumption | decide +kernel) (by decide +kernel) ⟨rfl, rfl, rfl, rfl, rfl, by decide +kernel⟩ ?hw ?hc)
set_option maxRecDepth 100000 in
set_option maxHeartbeats 0 in
theorem PySem.Challenge.cw_falsedefaults_k34_twins_made_holds : PySem.Challenge.rw_falsedefaults_k34_twins_made.Holds := by
  w_on; o_law; k_head; (case hw => w_witness2)
  k_fill
  refine Z.law_walkT (l := PySem.Challenge.rw_falsedefaults_k34_twins_made) (k := 11) rfl rfl ⟨rfl, by decide, by decide⟩ (fun w h Y => PySem.W.km_in_of Y) ?F
  case F =>
    intro w mg fa h Y KX G hmg
    refine' Z.all_mk KX G hmg ?a_BadName_init ?t_BadName_init ?l_BadName_init ?cc_BadName_init ?k_BadName_init ?a_BadFail_init ?t_BadFail_init ?l_BadFail_init ?cc_BadFail_init ?k_BadFail_init ?a_Twice_init ?t_Twice_init ?l_Twice_init ?cc_Twice_init ?k_Twice_init ?a_NoPlace_init ?t_NoPlace_init ?l_NoPlace_init ?cc_NoPlace_init ?k_NoPlace_init ?a_TooMany_init ?t_TooMany_init ?l_TooMany_init ?cc_TooMany_init ?k_TooMany_init ?a_is_name ?l_is_name ?cc_is_name ?k_is_name ?a_is_int ?l_is_int ?cc_is_int ?k_is_int ?a_check_name ?l_check_name ?cc_check_name ?k_check_name ?a_is_fail ?l_is_fail ?cc_is_fail ?k_is_fail ?a_check_fails ?l_check_fails ?cc_check_fails ?k_check_fails ?a_copied ?l_copied ?cc_copied ?k_copied ?a_Stand_init ?i_Stand_init ?l_Stand_init ?dl_Stand_init ?cc_Stand_init ?k_Stand_init ?at_Stand_held ?pg_Stand_held ?pt_Stand_held ?rc_Stand_held ?l_Stand_held ?cc_Stand_held ?k_Stand_held ?a_Stand_eq ?i_Stand_eq ?l_Stand_eq ?cc_Stand_eq ?k_Stand_eq ?a_Call_init ?i_Call_init ?l_Call_init ?kn_Call_init_typed ?kn_Call_init_fails ?kl_Call_init_fails ?kn_Call_init_sources ?kn_Call_init_functions ?kn_Call_init_tests ?cc_Call_init ?k_Call_init ?a_History_init ?i_History_init ?l_History_init ?cc_History_init ?k_History_init ?at_History_made ?rc_History_made ?fi_History_made ?l_History_made ?cc_History_made ?k_History_made ?a_Twin_init ?i_Twin_init ?l_Twin_init ?dl_Twin_init ?cc_Twin_init ?k_Twin_init ?a_check_unlike ?l_check_unlike ?cc_check_unlike ?k_check_unlike ?a_Service_init ?i_Service_init ?l_Service_init ?kn_Service_init_cells ?kl_Service_init_cells ?kn_Service_init_sources ?kl_Service_init_sources ?kn_Service_init_slots ?kl_Service_init_slots ?kn_Service_init_fields ?kl_Service_init_fields ?cc_Service_init ?k_Service_init ?at_Service_made ?rc_Service_made ?fi_Service_made ?l_Service_made ?cc_Service_made ?k_Service_made ?a_Service_eq ?i_Service_eq ?l_Service_eq ?cc_Service_eq ?k_Service_eq ?a_Service_parts ?i_Service_parts ?l_Service_parts ?cc_Service_parts ?k_Service_parts ?a_Service_all_operands ?i_Service_all_operands ?l_Service_all_operands ?cc_Service_all_operands ?k_Service_all_operands ?a_law_digits ?l_law_digits ?cc_law_digits ?k_law_digits ?a_law_draw ?l_law_draw ?cc_law_draw ?k_law_draw ?a_law_choice ?l_law_choice ?cc_law_choice ?k_law_choice ?a_law_drawn_name ?l_law_drawn_name ?cc_law_drawn_name ?k_law_drawn_name ?a_law_drawn_names ?l_law_drawn_names ?cc_law_drawn_names ?k_law_drawn_names ?a_law_value ?l_law_value ?cc_law_value ?k_law_value ?a_law_count ?l_law_count ?cc_law_count ?k_law_count ?a_law_drawn_places ?l_law_drawn_places ?cc_law_drawn_places ?k_law_drawn_places ?a_law_same ?l_law_same ?cc_law_same ?k_law_same ?a_law_error ?l_law_error ?cc_law_error ?k_law_error ?a_law_is_begun ?l_law_is_begun ?cc_law_is_begun ?k_law_is_begun ?a_law_are_histories ?l_law_are_histories ?cc_law_are_histories ?k_law_are_histories ?a_law ?l_law ?cc_law ?k_law ?cof_law ?cvx_law ?ch_law ?ct_law ?tin_law ?n_BadName ?x_BadName ?sa_BadName ?ga_BadName ?gg_BadName ?eC_BadName ?tC_BadName ?kC_BadName ?hC_BadName ?iC_BadName ?sC_BadName ?z_BadName_name ?n_BadFail ?x_BadFail ?sa_BadFail ?ga_BadFail ?gg_BadFail ?eC_BadFail ?tC_BadFail ?kC_BadFail ?hC_BadFail ?iC_BadFail ?sC_BadFail ?z_BadFail_index ?n_Twice ?x_Twice ?sa_Twice ?ga_Twice ?gg_Twice ?eC_Twice ?tC_Twice ?kC_Twice ?hC_Twice ?iC_Twice ?sC_Twice ?z_Twice_name ?n_NoPlace ?x_NoPlace ?sa_NoPlace ?ga_NoPlace ?gg_NoPlace ?eC_NoPlace ?tC_NoPlace ?kC_NoPlace ?hC_NoPlace ?iC_NoPlace ?sC_NoPlace ?va_NoPlace ?vn_NoPlace ?vt_NoPlace ?vm_NoPlace ?ks_NoPlace_LookupError ?z_NoPlace_name ?n_TooMany ?x_TooMany ?sa_TooMany ?ga_TooMany ?gg_TooMany ?eC_TooMany ?tC_TooMany ?kC_TooMany ?hC_TooMany ?iC_TooMany ?sC_TooMany ?z_TooMany_limit ?n_Stand ?pg_Stand ?hd_Stand ?po_Stand ?sa_Stand ?ha_Stand ?hn_Stand ?ht_Stand ?hm_Stand ?eq_Stand ?en_Stand ?ka_Stand_NoneType ?ty_Stand ?ka_Stand_dict ?na_Stand_service ?na_Stand_inside ?mk_Stand ?kc_Stand ?n_Call ?pg_Call ?hd_Call ?po_Call ?sa_Call ?ha_Call ?hn_Call ?ht_Call ?hm_Call ?na_Call_handler ?na_Call_fails ?na_Call_typed ?na_Call_sources ?na_Call_functions ?na_Call_tests ?mk_Call ?kc_Call ?n_History ?pg_History ?hd_History ?po_History ?sa_History ?ha_History ?hn_History ?ht_History ?hm_History ?na_History_start ?na_History_calls ?mk_History ?kc_History ?rd_History ?gq_History ?n_Twin ?pg_Twin ?hd_Twin ?po_Twin ?sa_Twin ?ha_Twin ?hn_Twin ?ht_Twin ?hm_Twin ?na_Twin_service ?na_Twin_failing ?na_Twin_clean ?na_Twin_many ?na_Twin_apart ?mk_Twin ?kc_Twin ?n_Service ?pg_Service ?hd_Service ?po_Service ?sa_Service ?ha_Service ?hn_Service ?ht_Service ?hm_Service ?eq_Service ?en_Service ?na_Service_handlers ?na_Service_cells ?na_Service_sources ?na_Service_slots ?na_Service_fields ?na_Service_places ?na_Service_constants ?mk_Service ?kc_Service ?rd_Service ?gq_Service ?n_LETTERS ?n_MOST_SIGNS ?n_MOST_OPERANDS ?n_BEYOND ?n_MOST_CELLS ?n_MOST_OTHERS ?n_MOST_HANDLERS ?b_LookupError ?b_OverflowError ?b_RuntimeError ?b_TypeError ?b_ValueError ?b_abs ?b_all ?b_bool ?b_dict ?b_enumerate ?b_int ?b_isinstance ?b_len ?b_list ?b_max ?b_min ?b_range ?b_sorted ?b_str ?b_sum ?b_tuple
    (case n_BadName => k_is)
    (case n_BadFail => k_is)
    (case n_Twice => k_is)
    (case n_NoPlace => k_is)
    (case n_TooMany => k_is)
    (case n_Stand => k_is)
    (case n_Call => k_is)
    (case n_History => k_is)
    (case n_Twin => k_is)
    (case n_Service => k_is)
    (case a_BadName_init => k_is)
    (case t_BadName_init => k_is)
    (case l_BadName_init => k_is)
    (case cc_BadName_init => k_is)
    (case k_BadName_init => k_is)
    (case a_BadFail_init => k_is)
    (case t_BadFail_init => k_is)
    (case l_BadFail_init => k_is)
    (case cc_BadFail_init => k_is)
    (case k_BadFail_init => k_is)
    (case a_Twice_init => k_is)
    (case t_Twice_init => k_is)
    (case l_Twice_init => k_is)
    (case cc_Twice_init => k_is)
    (case k_Twice_init => k_is)
    (case a_NoPlace_init => k_is)
    (case t_NoPlace_init => k_is)
    (case l_NoPlace_init => k_is)
    (case cc_NoPlace_init => k_is)
    (case k_NoPlace_init => k_is)
    (case a_TooMany_init => k_is)
    (case t_TooMany_init => k_is)
    (case l_TooMany_init => k_is)
    (case cc_TooMany_init => k_is)
    (case k_TooMany_init => k_is)
    (case a_is_name => k_is)
    (case l_is_name => k_is)
    (case cc_is_name => k_is)
    (case k_is_name => k_is)
    (case a_is_int => k_is)
    (case l_is_int => k_is)
    (case cc_is_int => k_is)
    (case k_is_int => k_is)
    (case a_check_name => k_is)
    (case l_check_name => k_is)
    (case cc_check_name => k_is)
    (case k_check_name => k_is)
    (case a_is_fail => k_is)
    (case l_is_fail => k_is)
    (case cc_is_fail => k_is)
    (case k_is_fail => k_is)
    (case a_check_fails => k_is)
    (case l_check_fails => k_is)
    (case cc_check_fails => k_is)
    (case k_check_fails => k_is)
    (case a_copied => k_is)
    (case l_copied => k_is)
    (case cc_copied => k_is)
    (case k_copied => k_is)
    (case a_Stand_init => k_is)
    (case i_Stand_init => k_is)
    (case l_Stand_init => k_is)
    (case dl_Stand_init => k_is)
    (case cc_Stand_init => k_is)
    (case k_Stand_init => k_is)
    (case at_Stand_held => k_is)
    (case pg_Stand_held => k_is)
    (case pt_Stand_held => k_is)
    (case rc_Stand_held => k_is)
    (case l_Stand_held => k_is)
    (case cc_Stand_held => k_is)
    (case k_Stand_held => k_is)
    (case a_Stand_eq => k_is)
    (case i_Stand_eq => k_is)
    (case l_Stand_eq => k_is)
    (case cc_Stand_eq => k_is)
    (case k_Stand_eq => k_is)
    (case a_Call_init => k_is)
    (case i_Call_init => k_is)
    (case l_Call_init => k_is)
    (case kn_Call_init_typed => k_is)
    (case kn_Call_init_fails => k_is)
    (case kl_Call_init_fails => k_is)
    (case kn_Call_init_sources => k_is)
    (case kn_Call_init_functions => k_is)
    (case kn_Call_init_tests => k_is)
    (case cc_Call_init => k_is)
    (case k_Call_init => k_is)
    (case a_History_init => k_is)
    (case i_History_init => k_is)
    (case l_History_init => k_is)
    (case cc_History_init => k_is)
    (case k_History_init => k_is)
    (case at_History_made => k_is)
    (case rc_History_made => k_is)
    (case fi_History_made => k_is)
    (case l_History_made => k_is)
    (case cc_History_made => k_is)
    (case k_History_made => k_is)
    (case a_Twin_init => k_is)
    (case i_Twin_init => k_is)
    (case l_Twin_init => k_is)
    (case dl_Twin_init => k_is)
    (case cc_Twin_init => k_is)
    (case k_Twin_init => k_is)
    (case a_check_unlike => k_is)
    (case l_check_unlike => k_is)
    (case cc_check_unlike => k_is)
    (case k_check_unlike => k_is)
    (case a_Service_init => k_is)
    (case i_Service_init => k_is)
    (case l_Service_init => k_is)
    (case kn_Service_init_cells => k_is)
    (case kl_Service_init_cells => k_is)
    (case kn_Service_init_sources => k_is)
    (case kl_Service_init_sources => k_is)
    (case kn_Service_init_slots => k_is)
    (case kl_Service_init_slots => k_is)
    (case kn_Service_init_fields => k_is)
    (case kl_Service_init_fields => k_is)
    (case cc_Service_init => k_is)
    (case k_Service_init => k_is)
    (case at_Service_made => k_is)
    (case rc_Service_made => k_is)
    (case fi_Service_made => k_is)
    (case l_Service_made => k_is)
    (case cc_Service_made => k_is)
    (case k_Service_made => k_is)
    (case a_Service_eq => k_is)
    (case i_Service_eq => k_is)
    (case l_Service_eq => k_is)
    (case cc_Service_eq => k_is)
    (case k_Service_eq => k_is)
    (case a_Service_parts => k_is)
    (case i_Service_parts => k_is)
    (case l_Service_parts => k_is)
    (case cc_Service_parts => k_is)
    (case k_Service_parts => k_is)
    (case a_Service_all_operands => k_is)
    (case i_Service_all_operands => k_is)
    (case l_Service_all_operands => k_is)
    (case cc_Service_all_operands => k_is)
    (case k_Service_all_operands => k_is)
    (case a_law_digits => k_is)
    (case l_law_digits => k_is)
    (case cc_law_digits => k_is)
    (case k_law_digits => k_is)
    (case a_law_draw => k_is)
    (case l_law_draw => k_is)
    (case cc_law_draw => k_is)
    (case k_law_draw => k_is)
    (case a_law_choice => k_is)
    (case l_law_choice => k_is)
    (case cc_law_choice => k_is)
    (case k_law_choice => k_is)
    (case a_law_drawn_name => k_is)
    (case l_law_drawn_name => k_is)
    (case cc_law_drawn_name => k_is)
    (case k_law_drawn_name => k_is)
    (case a_law_drawn_names => k_is)
    (case l_law_drawn_names => k_is)
    (case cc_law_drawn_names => k_is)
    (case k_law_drawn_names => k_is)
    (case a_law_value => k_is)
    (case l_law_value => k_is)
    (case cc_law_value => k_is)
    (case k_law_value => k_is)
    (case a_law_count => k_is)
    (case l_law_count => k_is)
    (case cc_law_count => k_is)
    (case k_law_count => k_is)
    (case a_law_drawn_places => k_is)
    (case l_law_drawn_places => k_is)
    (case cc_law_drawn_places => k_is)
    (case k_law_drawn_places => k_is)
    (case a_law_same => k_is)
    (case l_law_same => k_is)
    (case cc_law_same => k_is)
    (case k_law_same => k_is)
    (case a_law_error => k_is)
    (case l_law_error => k_is)
    (case cc_law_error => k_is)
    (case k_law_error => k_is)
    (case a_law_is_begun => k_is)
    (case l_law_is_begun => k_is)
    (case cc_law_is_begun => k_is)
    (case k_law_is_begun => k_is)
    (case a_law_are_histories => k_is)
    (case l_law_are_histories => k_is)
    (case cc_law_are_histories => k_is)
    (case k_law_are_histories => k_is)
    (case a_law => k_is)
    (case l_law => k_is)
    (case cc_law => k_is)
    (case k_law => k_is)
    (case cof_law => k_is)
    (case cvx_law => rfl)
    (case ch_law => kernel_rfl)
    (case ct_law => kernel_rfl)
    (case tin_law => exact PySem.W.km_tabs_of Y _ (by decide +kernel))
    (case x_BadName => k_is)
    (case sa_BadName => k_is)
    (case ga_BadName => k_is)
    (case gg_BadName => k_is)
    (case eC_BadName => k_is)
    (case tC_BadName => k_is)
    (case kC_BadName => k_is)
    (case hC_BadName => k_is)
    (case iC_BadName => k_is)
    (case sC_BadName => first | rfl | k_is)
    (case z_BadName_name => k_is)
    (case x_BadFail => k_is)
    (case sa_BadFail => k_is)
    (case ga_BadFail => k_is)
    (case gg_BadFail => k_is)
    (case eC_BadFail => k_is)
    (case tC_BadFail => k_is)
    (case kC_BadFail => k_is)
    (case hC_BadFail => k_is)
    (case iC_BadFail => k_is)
    (case sC_BadFail => first | rfl | k_is)
    (case z_BadFail_index => k_is)
    (case x_Twice => k_is)
    (case sa_Twice => k_is)
    (case ga_Twice => k_is)
    (case gg_Twice => k_is)
    (case eC_Twice => k_is)
    (case tC_Twice => k_is)
    (case kC_Twice => k_is)
    (case hC_Twice => k_is)
    (case iC_Twice => k_is)
    (case sC_Twice => first | rfl | k_is)
    (case z_Twice_name => k_is)
    (case x_NoPlace => k_is)
    (case sa_NoPlace => k_is)
    (case ga_NoPlace => k_is)
    (case gg_NoPlace => k_is)
    (case eC_NoPlace => k_is)
    (case tC_NoPlace => k_is)
    (case kC_NoPlace => k_is)
    (case hC_NoPlace => k_is)
    (case iC_NoPlace => k_is)
    (case sC_NoPlace => first | rfl | k_is)
    (case va_NoPlace => k_is)
    (case vn_NoPlace => k_is)
    (case vt_NoPlace => k_is)
    (case vm_NoPlace => k_is)
    (case ks_NoPlace_LookupError => k_is)
    (case z_NoPlace_name => k_is)
    (case x_TooMany => k_is)
    (case sa_TooMany => k_is)
    (case ga_TooMany => k_is)
    (case gg_TooMany => k_is)
    (case eC_TooMany => k_is)
    (case tC_TooMany => k_is)
    (case kC_TooMany => k_is)
    (case hC_TooMany => k_is)
    (case iC_TooMany => k_is)
    (case sC_TooMany => first | rfl | k_is)
    (case z_TooMany_limit => k_is)
    (case pg_Stand => k_is)
    (case hd_Stand => k_is)
    (case po_Stand => k_is)
    (case sa_Stand => k_is)
    (case ha_Stand => k_is)
    (case hn_Stand => k_is)
    (case ht_Stand => k_is)
    (case hm_Stand => k_is)
    (case eq_Stand => k_is)
    (case en_Stand => k_is)
    (case ka_Stand_NoneType => k_is)
    (case ty_Stand => k_is)
    (case ka_Stand_dict => k_is)
    (case na_Stand_service => k_is)
    (case na_Stand_inside => k_is)
    (case mk_Stand => k_is)
    (case kc_Stand => k_is)
    (case pg_Call => k_is)
    (case hd_Call => k_is)
    (case po_Call => k_is)
    (case sa_Call => k_is)
    (case ha_Call => k_is)
    (case hn_Call => k_is)
    (case ht_Call => k_is)
    (case hm_Call => k_is)
    (case na_Call_handler => k_is)
    (case na_Call_fails => k_is)
    (case na_Call_typed => k_is)
    (case na_Call_sources => k_is)
    (case na_Call_functions => k_is)
    (case na_Call_tests => k_is)
    (case mk_Call => k_is)
    (case kc_Call => k_is)
    (case pg_History => k_is)
    (case hd_History => k_is)
    (case po_History => k_is)
    (case sa_History => k_is)
    (case ha_History => k_is)
    (case hn_History => k_is)
    (case ht_History => k_is)
    (case hm_History => k_is)
    (case na_History_start => k_is)
    (case na_History_calls => k_is)
    (case mk_History => k_is)
    (case kc_History => k_is)
    (case rd_History => k_is)
    (case gq_History => k_is)
    (case pg_Twin => k_is)
    (case hd_Twin => k_is)
    (case po_Twin => k_is)
    (case sa_Twin => k_is)
    (case ha_Twin => k_is)
    (case hn_Twin => k_is)
    (case ht_Twin => k_is)
    (case hm_Twin => k_is)
    (case na_Twin_service => k_is)
    (case na_Twin_failing => k_is)
    (case na_Twin_clean => k_is)
    (case na_Twin_many => k_is)
    (case na_Twin_apart => k_is)
    (case mk_Twin => k_is)
    (case kc_Twin => k_is)
    (case pg_Service => k_is)
    (case hd_Service => k_is)
    (case po_Service => k_is)
    (case sa_Service => k_is)
    (case ha_Service => k_is)
    (case hn_Service => k_is)
    (case ht_Service => k_is)
    (case hm_Service => k_is)
    (case eq_Service => k_is)
    (case en_Service => k_is)
    (case na_Service_handlers => k_is)
    (case na_Service_cells => k_is)
    (case na_Service_sources => k_is)
    (case na_Service_slots => k_is)
    (case na_Service_fields => k_is)
    (case na_Service_places => k_is)
    (case na_Service_constants => k_is)
    (case mk_Service => k_is)
    (case kc_Service => k_is)
    (case rd_Service => k_is)
    (case gq_Service => k_is)
    (case n_LETTERS => k_is)
    (case n_MOST_SIGNS => k_is)
    (case n_MOST_OPERANDS => k_is)
    (case n_BEYOND => k_is)
    (case n_MOST_CELLS => k_is)
    (case n_MOST_OTHERS => k_is)
    (case n_MOST_HANDLERS => k_is)
    (case b_LookupError => k_is)
    (case b_OverflowError => k_is)
    (case b_RuntimeError => k_is)
    (case b_TypeError => k_is)
    (case b_ValueError => k_is)
    (case b_abs => k_is)
    (case b_all => k_is)
    (case b_bool => k_is)
    (case b_dict => k_is)
    (case b_enumerate => k_is)
    (case b_int => k_is)
    (case b_isinstance => k_is)
    (case b_len => k_is)
    (case b_list => k_is)
    (case b_max => k_is)
    (case b_min => k_is)
    (case b_range => k_is)
    (case b_sorted => k_is)
    (case b_str => k_is)
    (case b_sum => k_is)
    (case b_tuple => k_is)
