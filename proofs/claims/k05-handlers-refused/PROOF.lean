import PyProof.Rows.All
import Wide.All
import OpenK.AllK
import Wide.FinOn
import HandS.ForMost
import HandS.ForExc
import HandS.IsInst
import HandS.ExcInit
import HandS.ExcField
import HandS.Wide
import HandS.Flow
import HandS.Style
import HandS.More
import HandS.Star
import HandS.ClsMeth
import HandS.OwnEq
import HandS.FStr
import HandS.SetKeys
import HandS.SetBool
import HandS.Conv
import HandS.DictComp
import HandS.Walk
import HandS.Ends
import KE.GoesMore
import KE.GoesEnum
import HandS.Zip
import HandS.CallLocal
import HandS.Small
import HandS.Text
import HandS.Codes
import HandS.ExcValue
import KE.KExcIs
import HandS.Deep
import PyProof.FactsAll.dict_1
import PyProof.ReprRoads
import HandS.Defaults
import HandS.MakeKwOnly
import HandS.Strs
import HandS.SetFor
import HandS.Property
import HandS.Lambda
import HandS.EndTab
import KE.KDictDisplayH
import HandS.FltList
import KE.KSuper
import HandS.TupAny
import HandS.TryOnly
import KE.KStateDown
import HandS.Head0
import HandS.Head1
import HandS.Head2
import PySem.Challenge.RW_falsedefaults_k05_handlers_refused
set_option Elab.async false
set_option linter.all false
set_option maxRecDepth 100000
set_option maxHeartbeats 4000000
set_option maxHeartbeats 1000000
set_option maxHeartbeats 2000000
namespace Z
open PySem PySem.Spec PyProof.Rows L2
abbrev St := L2.St

/-! ### operators, whatever the kinds -/
def zAdd : R2 := fun x y H Q => match x, y with
  | .int i, .int j => Q (.int (i + j)) H
  | .str i, .str j => i.length + j.length ≤ sizeLine ∧ Q (.str (i ++ j)) H
  | .ref l, .ref b => ∃ xs zs, H l = some (.lst xs) ∧ H b = some (.lst zs) ∧ xs.length + zs.length ≤ sizeLine ∧ ∀ p, H p = none → Q (.ref p) (upd H p (.lst (xs ++ zs)))
  | _, _ => False
def zSub : R2 := fun x y H Q => match x, y with
  | .int i, .int j => Q (.int (i - j)) H
  | _, _ => False
def zMul : R2 := fun x y H Q => match x, y with
  | .int i, .int j => CMul i j ∧ Q (.int (i * j)) H
  | .str x, .int n => MulOk x n ∧ Q (.str (Txt.mul x n)) H
  | .ref l, .int k => ∃ xs, H l = some (.lst xs) ∧ -(2 ^ 63) ≤ k ∧ k < 2 ^ 63 ∧ xs.length * k.toNat ≤ sizeLine ∧ ∀ p, H p = none → Q (.ref p) (upd H p (.lst (List.replicate k.toNat xs).flatten))
  | _, _ => False
def zMod : R2 := fun x y H Q => match x, y with
  | .int i, .int j => 0 < j ∧ Q (.int (i % j)) H
  | _, _ => False
def zFdiv : R2 := fun x y H Q => match x, y with
  | .int i, .int j => CDivW i j ∧ Q (.int (i / j)) H
  | _, _ => False
def zPow : R2 := fun x y H Q => match x, y with
  | .int i, .int j => CPow i j ∧ Q (.int (i ^ j.toNat)) H
  | _, _ => False
def zLt : R2 := fun x y H Q => match x, y with
  | .int i, .int j => Q (.bl (decide (i < j))) H
  | _, _ => False
def zLe : R2 := fun x y H Q => match x, y with
  | .int i, .int j => Q (.bl (decide (i ≤ j))) H
  | _, _ => False
def zGt : R2 := fun x y H Q => match x, y with
  | .int i, .int j => Q (.bl (decide (j < i))) H
  | _, _ => False
def zGe : R2 := fun x y H Q => match x, y with
  | .int i, .int j => Q (.bl (decide (j ≤ i))) H
  | _, _ => False
def zIs : R2 := fun x y H Q => y = .non ∧ Q (.bl (decide (x = .non))) H
def zIsnt : R2 := fun x y H Q => y = .non ∧ Q (.bl (!decide (x = .non))) H
/-- == of scalars of any kinds; else of data -/
def zEq (K : PySem.W.Frag) : R2 := fun x y H Q => (scal x y = true ∧ Q (.bl (decide (x = y))) H) ∨ rEqD K x y H Q
def zNe (K : PySem.W.Frag) : R2 := fun x y H Q => (scal x y = true ∧ Q (.bl (!decide (x = y))) H) ∨ rNeD K x y H Q
/-- in: one sign in a text; a flat thing in a list or a tuple -/
def zIn (K : PySem.W.Frag) : R2 := fun x y H Q => (∃ (c : Nat) (z : Str), x = .str ⟨#[c]⟩ ∧ y = .str z ∧ Q (.bl (decide (c ∈ z.cps.toList))) H) ∨ rIn K false x y H Q
def zNin (K : PySem.W.Frag) : R2 := fun x y H Q => (∃ (c : Nat) (z : Str), x = .str ⟨#[c]⟩ ∧ y = .str z ∧ Q (.bl (!decide (c ∈ z.cps.toList))) H) ∨ rIn K true x y H Q
def zIx (K : PySem.W.Frag) : R2 := fun x y H Q => match x, y with
  | .ref p, .int i => ∃ xs v, (SqL K H p xs ∨ SqT K H p xs) ∧ atI xs i = some v ∧ Q v H
  | .str z, .int i => z.length ≤ sizeLine ∧ ∃ c, atI z.cps.toList i = some c ∧ Q (.str ⟨#[c]⟩) H
  | _, _ => False
section
variable {X : Cx}
theorem op_zAdd : OpR X (binaryOp .Add) zAdd := by
  intro pins s σ H x y v u Q I rx ry h
  unfold zAdd at h
  split at h
  · exact op_add pins s σ H _ _ v u Q I rx ry ⟨_, _, rfl, rfl, h⟩
  · exact op_add_str pins s σ H _ _ v u Q I rx ry ⟨_, _, rfl, rfl, h⟩
  · obtain ⟨xs, zs, h1, h2, h3, h4⟩ := h
    exact op_cat pins s σ H _ _ v u Q I rx ry ⟨_, _, _, _, rfl, rfl, h1, h2, h3, h4⟩
  · exact h.elim
theorem op_zSub : OpR X (binaryOp .Sub) zSub := by
  intro pins s σ H x y v u Q I rx ry h
  unfold zSub at h
  split at h
  · exact op_sub pins s σ H _ _ v u Q I rx ry ⟨_, _, rfl, rfl, h⟩
  · exact h.elim
theorem op_zMul : OpR X (binaryOp .Mult) zMul := by
  intro pins s σ H x y v u Q I rx ry h
  unfold zMul at h
  split at h
  · exact op_mul pins s σ H _ _ v u Q I rx ry ⟨_, _, rfl, rfl, h.1, h.2⟩
  · obtain ⟨t, rfl⟩ := rx
    obtain ⟨t', rfl⟩ := ry
    exact SB.mul h.1 fun t2 k => ⟨.str _, H, I.tok _, ⟨_, rfl⟩, h.2⟩
  · obtain ⟨xs, h1, h2, h3, h4, h5⟩ := h
    exact op_rep pins s σ H _ _ v u Q I rx ry ⟨_, _, _, rfl, rfl, h1, h2, h3, h4, h5⟩
  · exact h.elim
theorem op_zMod : OpR X (binaryOp .Mod) zMod := by
  intro pins s σ H x y v u Q I rx ry h
  unfold zMod at h
  split at h
  · exact op_mod pins s σ H _ _ v u Q I rx ry ⟨_, _, rfl, rfl, h.1, h.2⟩
  · exact h.elim
theorem op_zFdiv : OpR X (binaryOp .FloorDiv) zFdiv := by
  intro pins s σ H x y v u Q I rx ry h
  unfold zFdiv at h
  split at h
  · exact op_fdivW pins s σ H _ _ v u Q I rx ry ⟨_, _, rfl, rfl, h.1, h.2⟩
  · exact h.elim
theorem op_zPow : OpR X (binaryOp .Pow) zPow := by
  intro pins s σ H x y v u Q I rx ry h
  unfold zPow at h
  split at h
  · exact op_pow pins s σ H _ _ v u Q I rx ry ⟨_, _, rfl, rfl, h.1, h.2⟩
  · exact h.elim
theorem op_zLt : OpR X (compareOp .Lt) zLt := by
  intro pins s σ H x y v u Q I rx ry h
  unfold zLt at h
  split at h
  · exact op_lt pins s σ H _ _ v u Q I rx ry ⟨_, _, rfl, rfl, h⟩
  · exact h.elim
theorem op_zLe : OpR X (compareOp .LtE) zLe := by
  intro pins s σ H x y v u Q I rx ry h
  unfold zLe at h
  split at h
  · exact op_le pins s σ H _ _ v u Q I rx ry ⟨_, _, rfl, rfl, h⟩
  · exact h.elim
theorem op_zGt : OpR X (compareOp .Gt) zGt := by
  intro pins s σ H x y v u Q I rx ry h
  unfold zGt at h
  split at h
  · exact op_gt pins s σ H _ _ v u Q I rx ry ⟨_, _, rfl, rfl, h⟩
  · exact h.elim
theorem op_zGe : OpR X (compareOp .GtE) zGe := by
  intro pins s σ H x y v u Q I rx ry h
  unfold zGe at h
  split at h
  · exact op_ge pins s σ H _ _ v u Q I rx ry ⟨_, _, rfl, rfl, h⟩
  · exact h.elim
theorem op_zIs : OpR X (compareOp .Is) zIs := op_isN
theorem op_zIsnt : OpR X (compareOp .IsNot) zIsnt := op_notN
theorem op_zEq (hu : X.A.units + 64 < cLine) : OpR X (compareOp .Eq) (zEq X.K) := OpR.or op_eq (op_eqD hu)
theorem op_zNe (hu : X.A.units + 64 < cLine) : OpR X (compareOp .NotEq) (zNe X.K) := OpR.or op_ne (op_neD hu)
theorem op_zIn : OpR X (compareOp .In) (zIn X.K) := OpR.or op_in_sign op_in_seq
theorem op_zNin : OpR X (compareOp .NotIn) (zNin X.K) := OpR.or op_notIn_sign op_notIn_seq
theorem ix_z : IxR X (zIx X.K) := by
  intro e1 e2 pins s σ H x y v u Q I rx ry h hs
  unfold zIx at h
  split at h
  · obtain ⟨xs, w, hq, ha, q⟩ := h
    rcases hq with hq | hq
    · exact ix_seq e1 e2 pins s σ H _ _ v u Q I rx ry (.inl ⟨_, _, _, _, rfl, rfl, hq, ha, q⟩) hs
    · exact ix_seq e1 e2 pins s σ H _ _ v u Q I rx ry (.inr (.inl ⟨_, _, _, _, rfl, rfl, hq, ha, q⟩)) hs
  · obtain ⟨hz, c, ha, q⟩ := h
    exact ix_seq e1 e2 pins s σ H _ _ v u Q I rx ry (.inr (.inr ⟨_, _, _, rfl, rfl, hz, ha, q⟩)) hs
  · exact h.elim
end
end Z
namespace Z
open PySem PySem.Spec PyProof.Rows L2

/-! ### a def's promise where no repr is running around it; anything may be raised -/
structure FnG (gd : Bool) (P : Program) (w : World) (K : PySem.W.Frag) (mg : Str → Option Value) (base : Heap)
    (k : Nat) (f : Addr) (fd : FuncData) (ps : List Str) (sp : Sp) : Prop where
  len : ∀ vs H Q E, sp vs H Q E → vs.length = ps.length
  run : ∀ (A : Around) (outer : List Env) (s : Shared) (H : Hp) (args : Args) (us : List Value)
    (vs : List V) (Q : VK) (E : XK), Room k A → (gd = true → A.guards = some []) →
    Env0 P w K mg base A outer s H → BindsTo s fd args (ps.zip us) → Vals vs us → sp vs H Q E →
    codeAny (model P w) A (.call (.ref f) args) (CR (L2.CX P w) outer P w H s Q E) s
abbrev FnZ := FnG true
section
variable {gd : Bool} {P : Program} {w : World} {K : PySem.W.Frag} {mg : Str → Option Value} {base : Heap} {f : Addr} {fd : FuncData} {ps : List Str} {sp sp' : Sp}
theorem FnG.mono {j k : Nat} (F : FnG gd P w K mg base j f fd ps sp) (h : j ≤ k) : FnG gd P w K mg base k f fd ps sp :=
  ⟨F.len, fun A outer s H args us vs Q E hr => F.run A outer s H args us vs Q E (hr.mono h)⟩
theorem FnG.imp {k : Nat} (F : FnG gd P w K mg base k f fd ps sp) (h : ∀ vs H Q E, sp' vs H Q E → sp vs H Q E) : FnG gd P w K mg base k f fd ps sp' :=
  ⟨fun vs H Q E q => F.len vs H Q E (h _ _ _ _ q), fun A outer s H args us vs Q E hr hg he hb hv hs =>
    F.run A outer s H args us vs Q E hr hg he hb hv (h _ _ _ _ hs)⟩
/-- without a word on guards it is a promise for any of the hand layer's rules -/
theorem FnG.raw {k : Nat} (F : FnG false P w K mg base k f fd ps sp) (hb : Binds K fd ps []) : FnR P w K mg base (L2.CX P w) k f sp := by
  intro A outer s H us vs Q E hr e0 r h
  have KX : K.In s.heap := e0.mod.kin.keeps fun b o z => (e0.bs b o z).1
  have hl : us.length = ps.length := r.length.symm.trans (F.len _ _ _ _ h)
  have b := hb s us KX (by rw [List.append_nil]; exact hl)
  rw [List.append_nil] at b
  exact F.run A outer s H ⟨us, []⟩ us vs Q E hr (fun z => nomatch z) e0 b r h
/-- and one that holds even so -/
theorem FnG.up {k : Nat} (F : FnG false P w K mg base k f fd ps sp) : FnG gd P w K mg base k f fd ps sp := ⟨F.len, fun A outer s H args us vs Q E hr _ => F.run A outer s H args us vs Q E hr fun z => nomatch z⟩
end
theorem guards_make {A : Around} {C : Addr} {us : List Value} {kw : List (Str × Value)} (h : A.guards = some []) :
    (A.under (.builtin "type.__call__" ⟨.ref C :: us, kw⟩)).guards = some [] := by
  simp [Around.under, Code.guards, Code.isGuard, guardIds, pushGuards, h]

section
variable {gd : Bool} {P : Program} {w : World} {K : PySem.W.Frag} {mg : Str → Option Value} {base : Heap}
/-- a def by its body -/
theorem okZ {x qual : Str} {st : Stmt} {f : Addr} {fd : FuncData} {N ps : List Str} {k : Nat} {sp : Sp} (F : Fun K x qual st f fd)
    (S : FnScope N ps (defScope st)) (len : ∀ vs H Q E, sp vs H Q E → vs.length = ps.length)
    (hbody : ∀ (cdv : Value) (A : Around) (outer : List Env) (s : Shared) (H : Hp) (vs : List V) (Q : VK) (E : XK),
      Room k (A.deeper (envOfC qual (defScope st) s.heap.objs.size f cdv)) →
      (gd = true → (A.deeper (envOfC qual (defScope st) s.heap.objs.size f cdv)).guards = some []) → sp vs H Q E →
      ∃ t, PSs (cxOf (L2.CX P w) P w K mg base N qual (defScope st) f cdv A outer s H E) (defBody st) t ∧
        t { nx := fun _ H' => Q .non H', rt := Q } (start N vs) H) :
    FnG gd P w K mg base (k + 1) f fd ps sp := by
  obtain ⟨oc, od, kV, doc, pm, an, cdv, ct, osl, rfl, lk, hcd⟩ := F.ex
  refine ⟨len, fun A outer s H args us vs Q E hr hgu e0 hb r hsp => ?_⟩
  have hl := len _ _ _ _ hsp
  have KX : K.In s.heap := e0.mod.kin.keeps fun b o z => (e0.bs b o z).1
  have lim : s.heap.NoLimit := e0.mod.nolimit.keeps fun b o z => (e0.bs b o z).1
  have hkind : ∀ y ∈ ps.zip us, (defScope st).names.lookup y.1 = some .local ∨
      ((defScope st).names.lookup y.1 = some .cell ∧ ((cellsFrom (s.heap.objs.size + 1) (defScope st).names []).lookup y.1).isSome = true) := by
    intro y hy
    obtain ⟨n, v⟩ := y
    rcases S.par n (List.of_mem_zip hy).1 with q | q
    · exact .inl q
    · exact .inr ⟨q, PySem.W.cellsFrom_some _ _ _ (.inl q)⟩
  refine codeAny_call_function hr.depth (KX _ _ lk) rfl S.co S.gen rfl (PySem.W.codeRec_of KX hcd) (hb _ _ _ _ ?_)
  refine wpAny_newFunctionEnv_cells S.kind hkind fun env he s1 x => ?_
  subst he
  refine ⟨lim.keeps x.toInCall.keep, codeAny_func ?_⟩
  obtain ⟨t, ht, hq⟩ := hbody cdv A outer s H vs Q E (hr.deeper _) hgu hsp
  have I := inv_start (CX := L2.CX P w) (E := E) S hr.hd e0 hl r x
  refine wpAny_mono (ht.run [] s1 (start N vs) H _ I hq) (fun fl s' hs => ?_) fun e s' hs => hs
  cases fl with
  | ret u =>
    obtain ⟨v, σ', H', J, rv, q⟩ := hs
    exact ⟨v, H', J.os, J.bare, J.base, J.hok, rv, q⟩
  | next =>
    obtain ⟨σ', H', J, q⟩ := hs
    exact ⟨V.non, H', J.os, J.bare, J.base, J.hok, rfl, q⟩
  | brk => exact False.elim hs.choose_spec.choose_spec.2
  | cont => exact False.elim hs.choose_spec.choose_spec.2
end

/-! ### calls of such defs -/
theorem passE0 {X : Cx} (σ : St) : PassesAt (L2.CX X.prog X.w) X σ E0 := fun pins H s e s' I h => passL pins σ H s e s' I h
def zCall (sp : Sp) (dvs : List V) (E : St → XK) (t : TA) : TE := fun σ H Q => t σ H fun vs H1 => sp (vs ++ dvs) H1 Q (E σ)
def zMeth (C : Addr) (m : Str) (sp : Sp) (dvs : List V) (E : St → XK) (ta : TE) (t : TA) : TE := fun σ H Q =>
  ta σ H fun x H1 => ∃ a dx fs, x = .ref a ∧ H1 a = some (.ins C dx fs) ∧ fs.lookup m = none ∧
    t σ H1 fun vs H2 => sp (x :: (vs ++ dvs)) H2 Q (E σ)
def zMake (C : Addr) (sp : Sp) (dvs : List V) (E : St → XK) (t : TA) : TE := fun σ H Q =>
  t σ H fun vs H1 => ∀ x dx, H1 x = none → H1 dx = none → dx ≠ x →
    sp (.ref x :: (vs ++ dvs)) (upd (upd H1 dx (.own x)) x (.ins C dx [])) (fun v H2 => v = .non ∧ Q (.ref x) H2) (E σ)
section
variable {gd : Bool} {X : Cx} {k : Nat} {f C : Addr} {fd : FuncData} {ps : List Str} {sp : Sp} {dvs : List V} {ds : List Value} {E : St → XK} {x m : Str}
  {p pos apos : Pos} {e o : Expr} {es : List Expr} {ta : TE} {t : TA}
theorem run_fnZ {pins : List (Addr × Obj)} {σ : St} {H : Hp} {s : Shared} {Q : VK} {us : List Value} {vs : List V}
    (F : FnG gd X.prog X.w X.K X.mg X.base k f fd ps sp) (hr : Room k X.A) (hgu : gd = true → X.A.guards = some []) (hb : Binds X.K fd ps ds) (hd : Vals dvs ds)
    (hx : PassesAt (L2.CX X.prog X.w) X σ (E σ)) (I : Inv X pins σ H s) (r : Vals vs us) (h : sp (vs ++ dvs) H Q (E σ)) :
    wpAny (model X.prog X.w) X.A (call (.ref f) us) (EP X pins σ Q) X.xe s := by
  have r2 : Vals (vs ++ dvs) (us ++ ds) := r.append hd
  have hl : (us ++ ds).length = ps.length := r2.length.symm.trans (F.len _ _ _ _ h)
  refine wpAny_call (codeAny_mono (F.run X.A X.stack s H ⟨us, []⟩ (us ++ ds) (vs ++ dvs) Q (E σ) hr hgu I.env0 (hb s us I.kIn hl) r2 h) fun r s' hq => ?_)
  rcases r with er | fl
  · exact hx pins H s er s' I hq
  · cases fl with
    | ret u => exact I.after hq
    | next => exact hq.elim
    | brk => exact hq.elim
    | cont => exact hq.elim
/-- f(e, ..) -/
theorem pe_callZ (F : FnG gd X.prog X.w X.K X.mg X.base k f fd ps sp) (hr : Room k X.A) (hgu : gd = true → X.A.guards = some []) (hg : Gl X x) (hm : X.mg x = some (.ref f))
    (hk : PySem.W.keepIn X.K (.ref f) = true) (hb : Binds X.K fd ps ds) (hd : Vals dvs ds) (hx : ∀ σ, PassesAt (L2.CX X.prog X.w) X σ (E σ))
    (ha : PA X (e :: es) t) (hdb : (x == ("__debug__" : Str)) = false := by decide)
    (he : starEach (e :: es) X.env = (false, eval e X.env) :: starEach es X.env := by rfl) (hpl : (backTo pos (starEach es X.env)).any (·.1) = false := by rfl) :
    PE X (.Call (.Name x p) (e :: es) [] pos) (zCall sp dvs E t) := by
  constructor
  intro pins s σ H Q I h
  refine wpAny_Call_Name_kw (ld_glob I hg hm ?_ hdb)
  refine PySem.W.callWith_K (h₀ := X.base) I.ok.mod.kin hk (thn (ha.run pos pins s σ H _ I h) ?_) he hpl
  rintro us s1 ⟨vs, H1, I1, r, q⟩
  exact ⟨I1.kIn, run_fnZ F hr hgu hb hd (hx σ) I1 r q⟩
theorem pe_callZ0 (F : FnG gd X.prog X.w X.K X.mg X.base k f fd ps sp) (hr : Room k X.A) (hgu : gd = true → X.A.guards = some []) (hg : Gl X x) (hm : X.mg x = some (.ref f))
    (hk : PySem.W.keepIn X.K (.ref f) = true) (hb : Binds X.K fd ps ds) (hd : Vals dvs ds) (hx : ∀ σ, PassesAt (L2.CX X.prog X.w) X σ (E σ))
    (hdb : (x == ("__debug__" : Str)) = false := by decide) : PE X (.Call (.Name x p) [] [] pos) (zCall sp dvs E tNil) := by
  constructor
  intro pins s σ H Q I h
  refine wpAny_Call_Name_kw (ld_glob I hg hm ?_ hdb)
  exact PySem.W.callWith_K0 I.kIn hk (run_fnZ (us := []) F hr hgu hb hd (hx σ) I .nil h)
theorem run_makeZ {pins : List (Addr × Obj)} {σ : St} {H : Hp} {s : Shared} {Q : VK} {us : List Value} {vs : List V} (M : Mk X.K C f)
    (F : FnG gd X.prog X.w X.K X.mg X.base k f fd ps sp) (hr : Room (k + 1) X.A) (hgu : gd = true → X.A.guards = some []) (hb : Binds X.K fd ps ds) (hd : Vals dvs ds)
    (hx : PassesAt (L2.CX X.prog X.w) X σ (E σ)) (I : Inv X pins σ H s) (r : Vals vs us)
    (h : ∀ x dx, H x = none → H dx = none → dx ≠ x → sp (.ref x :: (vs ++ dvs)) (upd (upd H dx (.own x)) x (.ins C dx [])) (fun v H2 => v = .non ∧ Q (.ref x) H2) (E σ)) :
    wpAny (model X.prog X.w) X.A (call (.ref C) us) (EP X pins σ Q) X.xe s := by
  have n0 := I.hok.fresh (Nat.le_refl s.heap.objs.size)
  have n1 := I.hok.fresh (Nat.le_succ s.heap.objs.size)
  have hq := h _ _ n1 n0 (Nat.ne_of_lt (Nat.lt_succ_self _))
  have I2 := Inv.made (C := C) I
  have r2 : Vals (V.ref (s.heap.objs.size + 1) :: (vs ++ dvs)) (Value.ref (s.heap.objs.size + 1) :: (us ++ ds)) := .cons rfl (r.append hd)
  have hl : (Value.ref (s.heap.objs.size + 1) :: us ++ ds).length = ps.length := (r2.length.symm.trans (F.len _ _ _ _ hq))
  refine wpAny_call (make_map (f := f) I.kIn M.makes M.init (beq_iff_eq.mp M.fn) (codeAny_mono (F.run _ X.stack _ _ ⟨Value.ref (s.heap.objs.size + 1) :: us, []⟩ _ _ _ (E σ) (hr.make C us [])
    (fun z => guards_make (hgu z)) (I2.env0.make C us []) (hb _ (Value.ref (s.heap.objs.size + 1) :: us) I2.kIn hl) r2 hq) fun r s' hq' => ?_))
  rcases r with er | fl
  · exact hx pins _ _ er s' I2 hq'
  · cases fl with
    | ret u =>
      obtain ⟨v, H', I3, rv, ev, q3⟩ := I2.after hq'
      subst ev
      exact ⟨rv, ⟨V.ref (s.heap.objs.size + 1), H', I3, rfl, q3⟩⟩
    | next => exact hq'.elim
    | brk => exact hq'.elim
    | cont => exact hq'.elim
/-- C(e, ..) -/
theorem pe_makeZ (M : Mk X.K C f) (F : FnG gd X.prog X.w X.K X.mg X.base k f fd ps sp) (hr : Room (k + 1) X.A) (hgu : gd = true → X.A.guards = some []) (hg : Gl X x)
    (hm : X.mg x = some (.ref C)) (hb : Binds X.K fd ps ds) (hd : Vals dvs ds) (hx : ∀ σ, PassesAt (L2.CX X.prog X.w) X σ (E σ)) (ha : PA X (e :: es) t)
    (hdb : (x == ("__debug__" : Str)) = false := by decide)
    (he : starEach (e :: es) X.env = (false, eval e X.env) :: starEach es X.env := by rfl) (hpl : (backTo pos (starEach es X.env)).any (·.1) = false := by rfl) :
    PE X (.Call (.Name x p) (e :: es) [] pos) (zMake C sp dvs E t) := by
  constructor
  intro pins s σ H Q I h
  refine wpAny_Call_Name_kw (ld_glob I hg hm ?_ hdb)
  refine PySem.W.callWith_K (h₀ := X.base) I.ok.mod.kin M.kp (thn (ha.run pos pins s σ H _ I h) ?_) he hpl
  rintro us s1 ⟨vs, H1, I1, r, q⟩
  exact ⟨I1.kIn, run_makeZ M F hr hgu hb hd (hx σ) I1 r q⟩
theorem pe_makeZ0 (M : Mk X.K C f) (F : FnG gd X.prog X.w X.K X.mg X.base k f fd ps sp) (hr : Room (k + 1) X.A) (hgu : gd = true → X.A.guards = some []) (hg : Gl X x)
    (hm : X.mg x = some (.ref C)) (hb : Binds X.K fd ps ds) (hd : Vals dvs ds) (hx : ∀ σ, PassesAt (L2.CX X.prog X.w) X σ (E σ))
    (hdb : (x == ("__debug__" : Str)) = false := by decide) :
    PE X (.Call (.Name x p) [] [] pos) (zMake C sp dvs E tNil) := by
  constructor
  intro pins s σ H Q I h
  refine wpAny_Call_Name_kw (ld_glob I hg hm ?_ hdb)
  exact PySem.W.callWith_K0 I.kIn M.kp (run_makeZ (us := []) M F hr hgu hb hd (hx σ) I .nil h)
/-- o.m(e, ..) -/
theorem pe_methZ {pl : Sem Bool} (he : PE X o ta) (c : Cls X.K C) (hm : Meth X.K C m f) (F : FnG gd X.prog X.w X.K X.mg X.base k f fd ps sp)
    (hr : Room k X.A) (hgu : gd = true → X.A.guards = some []) (hb : Binds X.K fd ps ds) (hd : Vals dvs ds) (hx : ∀ σ, PassesAt (L2.CX X.prog X.w) X σ (E σ)) (ha : PA X (e :: es) t)
    (hst : starEach (e :: es) X.env = (false, eval e X.env) :: starEach es X.env := by rfl) (hpl : (backTo pos (starEach es X.env)).any (·.1) = false := by rfl)
    (ht : eval (.Call (.Attribute o m apos) (e :: es) [] pos) X.env = (do
      let ow ← eval o X.env
      standAt apos.atName
      let (g, first) ← holding [ow] (getMethod ow m pl)
      callWith pos g first (backTo pos (starEach (e :: es) X.env)) (backToKw pos (keywordEach [] X.env))) := by rfl) :
    PE X (.Call (.Attribute o m apos) (e :: es) [] pos) (zMeth C m sp dvs E ta t) := by
  constructor
  intro pins s σ H Q I h
  refine PySem.W.methodCall_KW (pl := pl) (thn (he.run pins s σ H _ I h) ?_) ht
  rintro u s1 ⟨x, H1, I1, rx, a, dx, fs, rfl, ea, l, q⟩
  obtain rfl : u = Value.ref a := rx
  refine getmeth_ok I1 ea c hm l ?_
  refine PySem.W.callWith_K (first := [.ref a]) (h₀ := X.base) I.ok.mod.kin hm.kp (thn (ha.run pos pins s1 σ H1 _ I1 q) ?_) hst hpl
  rintro us s2 ⟨vs, H2, I2, r, q2⟩
  exact ⟨I2.kIn, run_fnZ (us := .ref a :: us) (vs := .ref a :: vs) F hr hgu hb hd (hx σ) I2 (.cons rfl r) q2⟩
theorem pe_methZ0 {pl : Sem Bool} (he : PE X o ta) (c : Cls X.K C) (hm : Meth X.K C m f) (F : FnG gd X.prog X.w X.K X.mg X.base k f fd ps sp)
    (hr : Room k X.A) (hgu : gd = true → X.A.guards = some []) (hb : Binds X.K fd ps ds) (hd : Vals dvs ds) (hx : ∀ σ, PassesAt (L2.CX X.prog X.w) X σ (E σ))
    (ht : eval (.Call (.Attribute o m apos) [] [] pos) X.env = (do
      let ow ← eval o X.env
      standAt apos.atName
      let (g, first) ← holding [ow] (getMethod ow m pl)
      callWith pos g first (backTo pos (starEach [] X.env)) (backToKw pos (keywordEach [] X.env))) := by rfl) :
    PE X (.Call (.Attribute o m apos) [] [] pos) (zMeth C m sp dvs E ta tNil) := by
  constructor
  intro pins s σ H Q I h
  refine PySem.W.methodCall_KW (pl := pl) (thn (he.run pins s σ H _ I h) ?_) ht
  rintro u s1 ⟨x, H1, I1, rx, a, dx, fs, rfl, ea, l, q⟩
  obtain rfl : u = Value.ref a := rx
  refine getmeth_ok I1 ea c hm l ?_
  exact PySem.W.callWith_K0 (first := [.ref a]) I1.kIn hm.kp (run_fnZ (us := [.ref a]) (vs := [.ref a]) F hr hgu hb hd (hx σ) I1 (.cons rfl .nil) q)

/-! ### an own exception over ValueError, its __init__ a def -/
/-- C(e, ..) that is raised -/
def zMkO (C : Addr) (sp : Sp) (ta : TA) : St → Hp → XK → Prop := fun σ H Q =>
  ta σ H fun vs H1 => vs.length ≤ 1000 ∧ ∀ a, H1 a = none → sp (.ref a :: vs) (upd H1 a (exo a C none))
    (fun v H2 => v = .non ∧ ∃ (d : Addr) (fs : List (Str × V)), H2 a = some (exo a C (some d)) ∧ H2 d = some (exd d fs) ∧ H1 d = none ∧ Q (.ref C) (some d) (upd (del H2 a) d (.xd fs))) E0
theorem pmk_Z {fI : Addr} (T : OexC X.K C) (iC : PySem.W.findIn X.K (.ref C) "__init__" = some (some (.ref fI))) (tI : PySem.W.typeIn X.K (.ref fI) = some (.type "function"))
    (F : FnG gd X.prog X.w X.K X.mg X.base k fI fd ps sp) (hr : Room (k + 1) X.A) (hgu : gd = true → X.A.guards = some []) (hb : Binds X.K fd ps []) (hg : Gl X x)
    (hm : X.mg x = some (.ref C)) (ha : PA X (e :: es) t) (hdb : (x == ("__debug__" : Str)) = false := by decide)
    (he : starEach (e :: es) X.env = (false, eval e X.env) :: starEach es X.env := by rfl) (hpl : (backTo pos (starEach es X.env)).any (·.1) = false := by rfl) :
    PMk X (.Call (.Name x p) (e :: es) [] pos) (zMkO C sp t) := by
  intro pins s σ H Q I h
  obtain ⟨nm, q, N, bs, bm, sn, sub, ab, col, dd, k0, k1, k2, k3, k5, hC, hbm⟩ := T.cls
  refine wpAny_Call_Name_kw (ld_glob I hg hm ?_ hdb)
  refine PySem.W.callWith_K (h₀ := X.base) I.ok.mod.kin T.kC (thn (ha.run pos pins s σ H _ I h) ?_) he hpl
  rintro us s1 ⟨vs, H1, I1, r1, hz, q1⟩
  refine ⟨I1.kIn, ?_⟩
  show wpAny _ _ (call (.ref C) us) _ _ _
  obtain ⟨hp, g, dr, tk, os⟩ := s1
  have hsz : hp.objs.size ≤ hp.objs.size + 1 := Nat.le_succ _
  have hq := q1 (hp.objs.size + 1) (I1.hok.fresh hsz)
  have kk : ∀ b o, hp.get? b = some o → ((hp.push (PySem.W.kdv_tup us)).push (PySem.HandSPX.excO C hp.objs.size)).get? b = some o :=
    fun b o z => Heap.get?_push_of_some _ (Heap.get?_push_of_some _ z)
  have hget : ((hp.push (PySem.W.kdv_tup us)).push (PySem.HandSPX.excO C hp.objs.size)).get? (hp.objs.size + 1) =
      some (PySem.HandSPX.excO C hp.objs.size) := by heap_get
  have I2 := I1.laid (t' := tk) (a := hp.objs.size + 1) (o := exo (hp.objs.size + 1) C none)
    (h' := (hp.push (PySem.W.kdv_tup us)).push (PySem.HandSPX.excO C hp.objs.size)) kk hsz (exo_ok hget)
  have r2 : Vals (V.ref (hp.objs.size + 1) :: vs) (Value.ref (hp.objs.size + 1) :: us) := .cons rfl r1
  have hl : (Value.ref (hp.objs.size + 1) :: us).length = ps.length := r2.length.symm.trans (F.len _ _ _ _ hq)
  have hus : us.length ≤ sizeLine := by
    rw [← Paired.length r1, sizeLine_eq]
    omega
  have bb := hb ⟨(hp.push (PySem.W.kdv_tup us)).push (PySem.HandSPX.excO C hp.objs.size), g, dr, tk, os⟩ (Value.ref (hp.objs.size + 1) :: us) I2.kIn (by rw [List.append_nil]; exact hl)
  rw [List.append_nil] at bb
  refine wpAny_call (PySem.HandSPX.call_own PySem.F.excBase_ValueError (fun Y => PySem.HandSPX.refsVE_contains Y bm hbm) (I1.kIn _ _ hC)
    (PySem.W.looks_findIn I1.kIn iC) (fun self => PySem.W.bind_fn I1.kIn self tI) hus
    (codeAny_mono (F.run _ X.stack _ _ ⟨Value.ref (hp.objs.size + 1) :: us, []⟩ _ _ _ E0 (hr.make C us []) (fun z => guards_make (hgu z)) (I2.env0.make C us []) bb r2 hq) fun r s' hq' => ?_))
  rcases r with er | fl
  · exact (show False by
      obtain ⟨_, _, _, _, _, _, _, _, _, _, _, _, z⟩ := hq'
      exact z).elim
  · cases fl with
    | ret u =>
      obtain ⟨v, H2, os2, bare2, un2, hok2, rv, ev, d, fs, ea, ed, hd1, q2⟩ := hq'
      subst ev
      obtain ⟨h2, g2, d2, t2, os'⟩ := s'
      exact ⟨rv, mk_end (raises_own T.exC T.tyC) I1 hsz kk un2 hok2 os2 bare2 ea ed hd1 q2⟩
    | next => exact hq'.elim
    | brk => exact hq'.elim
    | cont => exact hq'.elim
end
end Z
namespace Z
open PySem PySem.Spec PyProof.Rows L2

/-! ### isinstance by a built-in class -/
def knC (c : String) : Bool := c == "int" || c == "str" || c == "bool" || c == "list" || c == "tuple" || c == "dict"
/-- the kind of an object -/
def TyR (K : PySem.W.Frag) (H : Hp) (a : Addr) (t : String) : Prop :=
  (t = "list" ∧ ∃ xs, SqL K H a xs) ∨ (t = "tuple" ∧ ∃ xs, SqT K H a xs) ∨ (t = "dict" ∧ ((∃ kvs, H a = some (.dK kvs)) ∨ ∃ kvs, H a = some (.dT kvs)))
def zIsi (K : PySem.W.Frag) : List V → Hp → VK → Prop := fun xs H Q => match xs with
  | [.non, .ty c] => knC c = true ∧ Q (.bl false) H
  | [.bl _, .ty c] => knC c = true ∧ Q (.bl (c == "bool" || c == "int")) H
  | [.int _, .ty c] => knC c = true ∧ Q (.bl (c == "int")) H
  | [.str _, .ty c] => knC c = true ∧ Q (.bl (c == "str")) H
  | [.ref a, .ty c] => knC c = true ∧ ∃ t, TyR K H a t ∧ Q (.bl (c == t)) H
  | _ => False
theorem knC_cases {c : String} (h : knC c = true) : c = "int" ∨ c = "str" ∨ c = "bool" ∨ c = "list" ∨ c = "tuple" ∨ c = "dict" := by
  simpa [knC, or_assoc] using h
theorem TyR.ty {K : PySem.W.Frag} {H : Hp} {a : Addr} {t : String} (h : TyR K H a t) : TyX K H (.ref a) (.type t) ∧ (t = "list" ∨ t = "tuple" ∨ t = "dict") := by
  rcases h with ⟨rfl, xs, (h | ⟨o, h⟩) | ⟨o, its, n, h, h2, _⟩⟩ | ⟨rfl, xs, (h | ⟨o, h⟩) | ⟨o, its, n, h, h2, _⟩⟩ | ⟨rfl, ⟨kvs, h⟩ | ⟨kvs, h⟩⟩
  · exact ⟨.base (.lst h), .inl rfl⟩
  · exact ⟨.base (.frz h), .inl rfl⟩
  · exact ⟨.kList h h2, .inl rfl⟩
  · exact ⟨.base (.tup h), .inr (.inl rfl)⟩
  · exact ⟨.fTuple h, .inr (.inl rfl)⟩
  · exact ⟨.kTuple h h2, .inr (.inl rfl)⟩
  · exact ⟨.base (.dK h), .inr (.inr rfl)⟩
  · exact ⟨.base (.dT h), .inr (.inr rfl)⟩
theorem kit_tab (t c : String) (ht : t = "NoneType" ∨ t = "bool" ∨ t = "int" ∨ t = "str" ∨ t = "list" ∨ t = "tuple" ∨ t = "dict") (hc : knC c = true) :
    kitB t c = some (c == t || (c == "int" && t == "bool")) := by
  rcases ht with rfl | rfl | rfl | rfl | rfl | rfl | rfl <;> rcases knC_cases hc with rfl | rfl | rfl | rfl | rfl | rfl <;> decide +kernel
section
variable {X : Cx}
theorem call_isiZ : CallR X (.builtin "isinstance") (zIsi X.K) := by
  intro pins s σ H xs us Q I r h
  have go : ∀ (x : V) (c t : String), xs = [x, .ty c] → knC c = true → TyX X.K H x (.type t) →
      (t = "NoneType" ∨ t = "bool" ∨ t = "int" ∨ t = "str" ∨ t = "list" ∨ t = "tuple" ∨ t = "dict") →
      Q (.bl (c == t || (c == "int" && t == "bool"))) H → wpAny (model X.prog X.w) X.A (PySem.call (.builtin "isinstance") us) (EP X pins σ Q) X.xe s :=
    fun x c t e hc ty ht q => call_isi pins s σ H xs us Q I r ⟨x, .ty c, .type t, .type c, _, e, .ty c, ty, kit_ty (kit_tab t c ht hc), q⟩
  unfold zIsi at h
  split at h
  · rename_i c
    refine go _ c "NoneType" rfl h.1 (.base .non) (by simp) ?_
    have e : (c == "NoneType" || (c == "int" && "NoneType" == "bool")) = false := by rcases knC_cases h.1 with rfl | rfl | rfl | rfl | rfl | rfl <;> decide
    rw [e]; exact h.2
  · rename_i b c
    refine go _ c "bool" rfl h.1 (.base (.bl b)) (by simp) ?_
    have e : (c == "bool" || (c == "int" && "bool" == "bool")) = (c == "bool" || c == "int") := by rcases knC_cases h.1 with rfl | rfl | rfl | rfl | rfl | rfl <;> decide
    rw [e]; exact h.2
  · rename_i i c
    refine go _ c "int" rfl h.1 (.base (.int i)) (by simp) ?_
    have e : (c == "int" || (c == "int" && "int" == "bool")) = (c == "int") := by rcases knC_cases h.1 with rfl | rfl | rfl | rfl | rfl | rfl <;> decide
    rw [e]; exact h.2
  · rename_i z c
    refine go _ c "str" rfl h.1 (.base (.str z)) (by simp) ?_
    have e : (c == "str" || (c == "int" && "str" == "bool")) = (c == "str") := by rcases knC_cases h.1 with rfl | rfl | rfl | rfl | rfl | rfl <;> decide
    rw [e]; exact h.2
  · rename_i a c
    obtain ⟨hc, t, ty, q⟩ := h
    obtain ⟨ty, ht⟩ := ty.ty
    refine go _ c t rfl hc ty (by rcases ht with rfl | rfl | rfl <;> simp) ?_
    have e : (c == t || (c == "int" && t == "bool")) = (c == t) := by
      rcases ht with rfl | rfl | rfl <;> rcases knC_cases hc with rfl | rfl | rfl | rfl | rfl | rfl <;> decide
    rw [e]; exact q
  · exact h.elim
end

/-! ### repr of data -/
/-- a flat thing as data -/
def flatD : V → Option PyData
  | .non => some .none | .bl b => some (.bool b) | .int i => some (.int i) | .str x => some (.str x) | _ => none
theorem flatD_reads {h : Heap} {v : V} {u : Value} {d : PyData} (e : flatD v = some d) (r : RelV v u) : Reads h u d [] := by
  cases v <;> simp [flatD] at e <;> subst e
  · cases r; exact .none
  · cases r; exact .bool _
  · obtain ⟨t, rfl⟩ := r; exact .int _ _
  · obtain ⟨t, rfl⟩ := r; exact .str _ _
def keyD : Key → PyData
  | .inl i => .int i
  | .inr x => .str x
/-- data without dicts, or a dict of flat things -/
def DpR (K : PySem.W.Frag) (H : Hp) (x : V) (d : PyData) : Prop :=
  (Dp K H x d ∧ d.hasDict = false) ∨ ∃ a kvs kds, x = .ref a ∧ H a = some (.dK kvs) ∧ d = .dict kds ∧
    Paired (fun (p : Key × V) (q : PyData × PyData) => keyD p.1 = q.1 ∧ flatD p.2 = some q.2) kvs kds
theorem dict_reads {P : Program} {w : World} {h : Heap} {es : List DictEntry} {vs : List (Key × Value)} (hp : Pairs (mixKind P w) es vs) :
    ∀ {kvs : List (Key × V)} {kds : List (PyData × PyData)}, KV kvs vs → Paired (fun (p : Key × V) (q : PyData × PyData) => keyD p.1 = q.1 ∧ flatD p.2 = some q.2) kvs kds →
      ReadsAll h (es.map (·.key)) (kds.map (·.1)) [] ∧ ReadsAll h (es.map (·.val)) (kds.map (·.2)) [] := by
  induction hp with
  | nil =>
    intro kvs kds r q
    cases r
    cases q
    exact ⟨.nil, .nil⟩
  | cons h1 hv _ ih =>
    intro kvs kds r q
    cases r with
    | cons r1 r2 =>
      cases q with
      | cons q1 q2 =>
        obtain ⟨i1, i2⟩ := ih r2 q2
        obtain ⟨e1, rv⟩ := r1
        obtain ⟨e2, e3⟩ := q1
        rename_i en kv es' kvs' hpp p ps q qs
        have k1 : Reads h en.key q.1 [] := by
          rw [← e2, e1]
          rcases keyIs_shape h1 with ⟨i, t, ek, ev⟩ | ⟨x, t, ek, ev⟩
          · rw [ek, ev]
            exact .int _ _
          · rw [ek, ev]
            exact .str _ _
        have k2 : Reads h en.val q.2 [] := by
          rw [hv]
          exact flatD_reads e3 rv
        exact ⟨ReadsAll.cons (as := []) (bs := []) k1 i1, ReadsAll.cons (as := []) (bs := []) k2 i2⟩
section
variable {X : Cx} {pins : List (Addr × Obj)} {σ : St} {H : Hp} {s : Shared}
theorem DpR.reads (I : Inv X pins σ H s) {d : PyData} {v : V} {u : Value} (h : DpR X.K H v d) (r : RelV v u) : ∃ as, Reads s.heap u d as ∧ (d.hasDict = true → sysModules ∉ as) := by
  rcases h with ⟨h, hd⟩ | ⟨a, kvs, kds, rfl, ha, rfl, hp⟩
  · obtain ⟨as, q⟩ := Dp.reads I d v u h r
    exact ⟨as, q, fun z => by rw [hd] at z; exact absurd z Bool.false_ne_true⟩
  · cases r
    obtain ⟨_, hy, vs, rv, o, es, ep, e1, e2, e3, _, e5, _⟩ := (show ObjOk X.prog X.w H s.heap a (.dK kvs) from I.hok a _ ha)
    obtain ⟨r1, r2⟩ := dict_reads (h := s.heap) e5 rv hp
    refine ⟨_, Reads.dict e1 e2.1 e3 r1 r2, fun _ z => ?_⟩
    have z' : sysModules = a := by simpa using z
    rw [z'] at hy
    simp at hy
def zRepr (K : PySem.W.Frag) : List V → Hp → VK → Prop := fun xs H Q => ∃ x d, xs = [x] ∧ DpR K H x d ∧ d.showable = true ∧ d.depth ≤ 32 ∧ d.shown.length ≤ sizeLine ∧ Q (.str d.shown) H
theorem call_reprZ (hg : X.A.guards = some []) (hu : X.A.units + 64 < cLine) : CallR X (.builtin "repr") (zRepr X.K) := by
  intro pins s σ H xs us Q I r h
  obtain ⟨x, d, rfl, hd, hs, hdp, hz, q⟩ := h
  obtain ⟨u, rfl, ru⟩ := vals1 r
  obtain ⟨as, hr, hsm⟩ := hd.reads I ru
  cases hr with
  | none => exact PySem.P.repr_of_none ⟨.str _, H, I.tok _, ⟨_, rfl⟩, q⟩
  | bool b => exact PySem.P.repr_of_bool ⟨.str _, H, I.tok _, ⟨_, rfl⟩, q⟩
  | int i t => exact PySem.P.repr_of_int (by simpa [PyData.showable] using hs) ⟨.str _, H, I.tok _, ⟨_, rfl⟩, q⟩
  | str y t => exact PySem.P.repr_of_str ⟨.str _, H, I.tok _, ⟨_, rfl⟩, q⟩ (by simpa only [PyData.shown] using hz)
  | list h1 h2 h3 h4 =>
    exact PySem.repr_of_reads' (.list h1 h2 h3 h4) hs hsm hg (by omega) (fun _ _ z => z) (fun h' u tk hk => ⟨.str _, H, I.kept (t' := tk) hk, ⟨_, rfl⟩, q⟩) hz
  | tuple h1 h2 h3 h4 =>
    exact PySem.repr_of_reads' (.tuple h1 h2 h3 h4) hs hsm hg (by omega) (fun _ _ z => z) (fun h' u tk hk => ⟨.str _, H, I.kept (t' := tk) hk, ⟨_, rfl⟩, q⟩) hz
  | dict h1 h2 h3 h4 h5 =>
    exact PySem.repr_of_reads' (.dict h1 h2 h3 h4 h5) hs hsm hg (by omega) (fun _ _ z => z) (fun h' u tk hk => ⟨.str _, H, I.kept (t' := tk) hk, ⟨_, rfl⟩, q⟩) hz
end
end Z
namespace Z
open PySem PySem.Spec PyProof.Rows L2

/-! ### readings that reckon by themselves -/
theorem PE.to {X : Cx} {e : Expr} {t t' : TE} (h : PE X e t) (k : ∀ σ H Q, t' σ H Q → t σ H Q) : PE X e t' := ⟨fun pins s σ H Q I q => h.run pins s σ H Q I (k σ H Q q)⟩
theorem PT.to {X : Cx} {e : Expr} {t t' : TT} (h : PT X e t) (k : ∀ σ H Q, t' σ H Q → t σ H Q) : PT X e t' := ⟨fun pins s σ H Q I q => h.run pins s σ H Q I (k σ H Q q)⟩
theorem PS.to {X : Cx} {e : Stmt} {t t' : TS} (h : PS X e t) (k : ∀ D σ H, t' D σ H → t D σ H) : PS X e t' := ⟨fun pins s σ H D I q => h.run pins s σ H D I (k D σ H q)⟩
theorem CallR.to {X : Cx} {f : Value} {r r' : List V → Hp → VK → Prop} (h : CallR X f r) (k : ∀ xs H Q, r' xs H Q → r xs H Q) : CallR X f r' :=
  fun pins s σ H xs us Q I rv q => h pins s σ H xs us Q I rv (k xs H Q q)
def zVar (i : Nat) : TE := fun σ H Q => match σ[i]? with
  | some (some v) => Q v H
  | _ => False
def zTest (t : TE) : TT := fun σ H Q => t σ H fun x H' => match x with
  | .bl k => Q k H'
  | _ => False
def zTru (K : PySem.W.Frag) (t : TE) : TT := fun σ H Q => t σ H fun x H' => match x with
  | .non => Q false H'
  | .bl k => Q k H'
  | .int i => Q (i != 0) H'
  | x => ∃ k, TruV K x H' k ∧ Q k H'
def zAndV (ta tb : TE) : TE := fun σ H Q => ta σ H fun x H1 => match x with
  | .bl c => if c = true then tb σ H1 Q else Q (.bl false) H1
  | _ => False
def zOrV (ta tb : TE) : TE := fun σ H Q => ta σ H fun x H1 => match x with
  | .bl c => if c = true then Q (.bl true) H1 else tb σ H1 Q
  | _ => False
def zNotV (ta : TE) : TE := fun σ H Q => ta σ H fun x H1 => match x with
  | .bl c => Q (.bl (!c)) H1
  | _ => False
def zChain (r r' : R2) (ta tb tc : TE) : TE := fun σ H Q => ta σ H fun x H1 => tb σ H1 fun y H2 => r x y H2 fun z H3 => match z with
  | .bl k => if k = true then tc σ H3 fun w' H4 => r' y w' H4 Q else Q (.bl false) H3
  | _ => False
def zNeg (ta : TE) : TE := fun σ H Q => ta σ H fun x H1 => match x with
  | .int i => Q (.int (-i)) H1
  | _ => False
def zLen (K : PySem.W.Frag) : List V → Hp → VK → Prop := fun xs H Q => match xs with
  | [.str z] => z.length ≤ sizeLine ∧ Q (.int z.length) H
  | [.ref p] => ∃ ys, (SqL K H p ys ∨ SqT K H p ys) ∧ Q (.int ys.length) H
  | _ => False
def rAbs : List V → Hp → VK → Prop := fun xs H Q => match xs with
  | [.int i] => Q (.int (if i < 0 then -i else i)) H
  | _ => False
def rMx2 : List V → Hp → VK → Prop := fun xs H Q => match xs with
  | [.int i, .int j] => Q (.int (if j > i then j else i)) H
  | _ => False
def rMn2 : List V → Hp → VK → Prop := fun xs H Q => match xs with
  | [.int i, .int j] => Q (.int (if j < i then j else i)) H
  | _ => False
def rInt1 : List V → Hp → VK → Prop := fun xs H Q => match xs with
  | [.int i] => Q (.int i) H
  | [.bl k] => Q (.int (if k then 1 else 0)) H
  | _ => False
def rListOf (K : PySem.W.Frag) : List V → Hp → VK → Prop := fun xs H Q => match xs with
  | [.ref p] => ∃ ys, (SqL K H p ys ∨ SqT K H p ys) ∧ ∀ l, H l = none → Q (.ref l) (upd H l (.lst ys))
  | _ => False
def zRaise (W : WX) (C : Addr) (sp : Sp) (ta : TA) : TS := fun _ σ H => zMkO C sp ta σ H fun cls d H' => W cls d σ H'

/-! ### isinstance by a built-in class, the class known -/
inductive Kd where
  | int | str | bool | list | tuple | dict
  deriving DecidableEq
def Kd.nm : Kd → String
  | .int => "int" | .str => "str" | .bool => "bool" | .list => "list" | .tuple => "tuple" | .dict => "dict"
def Kd.isB : Kd → Bool
  | .bool => true | .int => true | _ => false
def Kd.isI : Kd → Bool
  | .int => true | _ => false
def Kd.isS : Kd → Bool
  | .str => true | _ => false
def KndR (K : PySem.W.Frag) (H : Hp) (a : Addr) : Kd → Prop
  | .list => ∃ xs, SqL K H a xs
  | .tuple => ∃ xs, SqT K H a xs
  | .dict => (∃ kvs, H a = some (.dK kvs)) ∨ ∃ kvs, H a = some (.dT kvs)
  | _ => False
def zIsiV (K : PySem.W.Frag) (k : Kd) (x : V) (H : Hp) (Q : VK) : Prop := match x with
  | .non => Q (.bl false) H
  | .bl _ => Q (.bl k.isB) H
  | .int _ => Q (.bl k.isI) H
  | .str _ => Q (.bl k.isS) H
  | .ref a => ∃ t, KndR K H a t ∧ Q (.bl (decide (t = k))) H
  | _ => False
def zIsiT (K : PySem.W.Frag) (k : Kd) (te : TE) : TE := fun σ H Q => te σ H fun x H1 => zIsiV K k x H1 Q
theorem KndR.ty {K : PySem.W.Frag} {H : Hp} {a : Addr} {t : Kd} (h : KndR K H a t) : TyR K H a t.nm := by
  cases t <;> first | exact h.elim | exact .inl ⟨rfl, h⟩ | exact .inr (.inl ⟨rfl, h⟩) | exact .inr (.inr ⟨rfl, h⟩)
theorem nm_kn (k : Kd) : knC k.nm = true := by cases k <;> decide +kernel
theorem nm_eq (k t : Kd) : (k.nm == t.nm) = decide (t = k) := by cases k <;> cases t <;> decide +kernel
theorem zIsiV_to {K : PySem.W.Frag} {k : Kd} {x : V} {H : Hp} {Q : VK} (h : zIsiV K k x H Q) : zIsi K [x, .ty k.nm] H Q := by
  cases x with
  | non => exact ⟨nm_kn k, h⟩
  | bl b =>
    refine ⟨nm_kn k, ?_⟩
    have e : (k.nm == "bool" || k.nm == "int") = k.isB := by cases k <;> decide +kernel
    rw [e]
    exact h
  | int i =>
    refine ⟨nm_kn k, ?_⟩
    have e : (k.nm == "int") = k.isI := by cases k <;> decide +kernel
    rw [e]
    exact h
  | str z =>
    refine ⟨nm_kn k, ?_⟩
    have e : (k.nm == "str") = k.isS := by cases k <;> decide +kernel
    rw [e]
    exact h
  | ref a =>
    obtain ⟨t, ht, q⟩ := h
    refine ⟨nm_kn k, t.nm, ht.ty, ?_⟩
    rw [nm_eq]
    exact q
  | byt _ => exact h.elim
  | flt _ => exact h.elim
  | ty _ => exact h.elim
section
variable {X : Cx} {x y : Str} {pos p p1 p2 : Pos} {e a b c : Expr} {rest : List Expr} {te ta tb tc : TE}
theorem zv (i : Nat) (hN : X.N[i]? = some x := by rfl) (hv : Vis X.env.scope x := by first | exact Or.inl rfl | exact Or.inr (Or.inl rfl) | exact Or.inr (Or.inr rfl))
    (hd : (x == ("__debug__" : Str)) = false := by decide) (hcd : (x == ("__classdict__" : Str)) = false := by decide) : PE X (.Name x pos) (zVar i) :=
  PE.to (pe_var hN hv hd hcd) fun σ H Q h => by
    unfold zVar at h
    split at h
    · rename_i v e
      exact ⟨v, e, h⟩
    · exact h.elim
theorem bl_eq {x : V} {R : Bool → Prop} : (match x with | .bl k => R k | _ => False) = ∃ k, x = .bl k ∧ R k := by
  apply propext
  constructor
  · intro h
    split at h
    · exact ⟨_, rfl, h⟩
    · exact h.elim
  · rintro ⟨k, rfl, h⟩
    exact h
theorem zTest_eq (t : TE) : zTest t = tTest t := by
  funext σ H Q
  exact congrArg (t σ H) (funext fun x => funext fun H' => bl_eq)
theorem zAndV_eq : zAndV ta tb = tAndV ta tb := by
  funext σ H Q
  exact congrArg (ta σ H) (funext fun x => funext fun H' => bl_eq)
theorem zOrV_eq : zOrV ta tb = tOrV ta tb := by
  funext σ H Q
  exact congrArg (ta σ H) (funext fun x => funext fun H' => bl_eq)
theorem zNotV_eq : zNotV ta = tNotV ta := by
  funext σ H Q
  exact congrArg (ta σ H) (funext fun x => funext fun H' => bl_eq)
theorem zChain_eq {r r' : R2} : zChain r r' ta tb tc = tChain r r' ta tb tc := by
  funext σ H Q
  refine congrArg (ta σ H) (funext fun x => funext fun H1 => congrArg (tb σ H1) (funext fun y => funext fun H2 => congrArg (r x y H2) (funext fun z => funext fun H3 => ?_)))
  exact bl_eq
theorem zTru_eq {K : PySem.W.Frag} : zTru K te = fun σ H Q => te σ H fun x H' => ∃ k, TruV K x H' k ∧ Q k H' := by
  funext σ H Q
  refine congrArg (te σ H) (funext fun x => funext fun H' => propext ?_)
  cases x with
  | non => exact ⟨fun h => ⟨_, rfl, h⟩, fun ⟨k, e, h⟩ => by cases e; exact h⟩
  | bl b => exact ⟨fun h => ⟨_, rfl, h⟩, fun ⟨k, e, h⟩ => by cases e; exact h⟩
  | int i => exact ⟨fun h => ⟨_, rfl, h⟩, fun ⟨k, e, h⟩ => by cases e; exact h⟩
  | str _ => exact Iff.rfl
  | byt _ => exact Iff.rfl
  | flt _ => exact Iff.rfl
  | ref _ => exact Iff.rfl
  | ty _ => exact Iff.rfl
theorem ptz_cmp {op : CmpOp} {r : R2} (ho : OpR X (compareOp op) r) (ha : PE X a ta) (hb : PE X b tb) (hm : behindInMarks op b = false) : PT X (.Compare a [op] [b] pos) (zTest (tOp r ta tb)) := by
  rw [zTest_eq]
  exact pt_cmpR ho ha hb hm
theorem pez_chain {op op' : CmpOp} {r r' : R2} (ho : OpR X (compareOp op) r) (ho' : OpR X (compareOp op') r') (ha : PE X a ta) (hb : PE X b tb) (hc : PE X c tc)
    (hm : lastMarks [op, op'] [b, c] = false := by with_unfolding_all rfl) : PE X (.Compare a [op, op'] [b, c] pos) (zChain r r' ta tb tc) := by
  rw [zChain_eq]
  exact pe_chain ho ho' ha hb hc hm
theorem ptz_chain {op op' : CmpOp} {r r' : R2} (ho : OpR X (compareOp op) r) (ho' : OpR X (compareOp op') r') (ha : PE X a ta) (hb : PE X b tb) (hc : PE X c tc)
    (hm : lastMarks [op, op'] [b, c] = false := by with_unfolding_all rfl) : PT X (.Compare a [op, op'] [b, c] pos) (zTest (zChain r r' ta tb tc)) := by
  rw [zTest_eq, zChain_eq]
  exact pt_chain ho ho' ha hb hc hm
theorem ptz_truth (ha : PE X a ta) (he : ∀ whole, isTrue a X.env whole = (do let v ← whole; standAt a.pos; holding [v] (truthy v))) : PT X a (zTru X.K ta) := by
  rw [zTru_eq]
  exact pt_truth ha he
theorem pez_and (ha : PE X a ta) (hb : PE X (.BoolOp .And (b :: rest) pos) tb) : PE X (.BoolOp .And (a :: b :: rest) pos) (zAndV ta tb) := by
  rw [zAndV_eq]
  exact pe_and ha hb
theorem pez_or (ha : PE X a ta) (hb : PE X (.BoolOp .Or (b :: rest) pos) tb) : PE X (.BoolOp .Or (a :: b :: rest) pos) (zOrV ta tb) := by
  rw [zOrV_eq]
  exact pe_or ha hb
theorem pez_not (ha : PE X a ta) : PE X (.UnaryOp .Not a pos) (zNotV ta) := by
  rw [zNotV_eq]
  exact pe_not ha
theorem pez_neg (ha : PE X a ta) : PE X (.UnaryOp .USub a pos) (zNeg ta) := by
  have e : zNeg ta = tUn (rU fun i => .int (-i)) ta := by
    funext σ H Q
    refine congrArg (ta σ H) (funext fun x => funext fun H1 => propext ⟨fun h => ?_, fun ⟨i, ei, h⟩ => by cases ei; exact h⟩)
    cases x with
    | int i => exact ⟨i, rfl, h⟩
    | _ => exact h.elim
  rw [e]
  exact pe_un un_neg ha
theorem pe_isi {kd : Kd} {fx cx : Str} (he : PE X e te) (hg : Gl X fx) (hm : X.mg fx = none) (hv : bootBuiltins fx = some (.builtin "isinstance"))
    (hc : Gl X cx) (hcm : X.mg cx = none) (hcv : bootBuiltins cx = some (.type kd.nm)) (h1 : fx ≠ "__name__" := by decide) (h2 : (fx == ("__debug__" : Str)) = false := by decide)
    (h3 : cx ≠ "__name__" := by decide) (h4 : (cx == ("__debug__" : Str)) = false := by decide)
    (h5 : starEach [e, .Name cx p2] X.env = (false, eval e X.env) :: starEach [.Name cx p2] X.env := by rfl) (h6 : (backTo pos (starEach [.Name cx p2] X.env)).any (·.1) = false := by rfl)
    (h7 : starEach [.Name cx p2] X.env = (false, eval (.Name cx p2) X.env) :: starEach [] X.env := by rfl) :
    PE X (.Call (.Name fx p1) [e, .Name cx p2] [] pos) (zIsiT X.K kd te) :=
  PE.to (pe_callB call_isiZ hg hm hv (pa_cons he (pa_cons (pe_bltn (v := .ty kd.nm) hc hcm hcv rfl h3 h4) pa_nil h7) h5) h1 h2 h5 h6) fun σ H Q h => by
    have e1 : (fun x H1 => zIsiV X.K kd x H1 Q) = fun x H1 => zIsi X.K [x, .ty kd.nm] H1 Q := by
      funext x H1
      refine propext ⟨zIsiV_to, fun h => ?_⟩
      cases x with
      | non => exact h.2
      | bl b =>
        have e : (kd.nm == "bool" || kd.nm == "int") = kd.isB := by cases kd <;> decide +kernel
        have q := h.2
        rw [e] at q
        exact q
      | int i =>
        have e : (kd.nm == "int") = kd.isI := by cases kd <;> decide +kernel
        have q := h.2
        rw [e] at q
        exact q
      | str i =>
        have e : (kd.nm == "str") = kd.isS := by cases kd <;> decide +kernel
        have q := h.2
        rw [e] at q
        exact q
      | ref i =>
        obtain ⟨_, t, ty, q⟩ := h
        rcases ty with ⟨rfl, z⟩ | ⟨rfl, z⟩ | ⟨rfl, z⟩
        · refine ⟨.list, z, ?_⟩
          rw [← nm_eq]
          exact q
        · refine ⟨.tuple, z, ?_⟩
          rw [← nm_eq]
          exact q
        · refine ⟨.dict, z, ?_⟩
          rw [← nm_eq]
          exact q
      | byt _ => exact h.elim
      | flt _ => exact h.elim
      | ty _ => exact h.elim
    show te σ H fun x H1 => zIsi X.K [x, .ty kd.nm] H1 Q
    rw [← e1]
    exact h
theorem pe_cint {i : Int} (hg : Gl X x) (h : ∃ t, X.mg x = some (.int i t)) (hd : (x == ("__debug__" : Str)) = false := by decide) : PE X (.Name x pos) (tC (.int i)) := by
  obtain ⟨t, h⟩ := h
  exact pe_glob hg h ⟨t, rfl⟩ hd
theorem pe_cstr {z : Str} (hg : Gl X x) (h : ∃ t, X.mg x = some (.str z t)) (hd : (x == ("__debug__" : Str)) = false := by decide) : PE X (.Name x pos) (tC (.str z)) := by
  obtain ⟨t, h⟩ := h
  exact pe_glob hg h ⟨t, rfl⟩ hd
theorem call_lenZ : CallR X (.builtin "len") (zLen X.K) := by
  intro pins s σ H xs us Q I r h
  unfold zLen at h
  split at h
  · exact call_len_str pins s σ H _ us Q I r ⟨_, rfl, h.1, h.2⟩
  · obtain ⟨ys, hq, q⟩ := h
    exact call_len_seq pins s σ H _ us Q I r ⟨_, ys, rfl, hq, q⟩
  · exact h.elim
theorem call_absZ : CallR X (.builtin "abs") rAbs := by
  intro pins s σ H xs us Q I r h
  unfold rAbs at h
  split at h
  · exact call_abs pins s σ H _ us Q I r ⟨_, rfl, h⟩
  · exact h.elim
theorem call_mx2 (hc : X.calm = true) : CallR X (.builtin "max") rMx2 := by
  intro pins s σ H xs us Q I r h
  unfold rMx2 at h
  split at h
  · exact call_max2 hc pins s σ H _ us Q I r ⟨_, _, rfl, h⟩
  · exact h.elim
theorem call_mn2 (hc : X.calm = true) : CallR X (.builtin "min") rMn2 := by
  intro pins s σ H xs us Q I r h
  unfold rMn2 at h
  split at h
  · exact call_min2 hc pins s σ H _ us Q I r ⟨_, _, rfl, h⟩
  · exact h.elim
theorem call_intZ : CallR X (.type "int") rInt1 := by
  intro pins s σ H xs us Q I r h
  unfold rInt1 at h
  split at h
  · exact call_int1 pins s σ H _ us Q I r (.inl ⟨_, rfl, h⟩)
  · exact call_int1 pins s σ H _ us Q I r (.inr ⟨_, rfl, h⟩)
  · exact h.elim
theorem call_listZ : CallR X (.type "list") (rListOf X.K) := by
  intro pins s σ H xs us Q I r h
  unfold rListOf at h
  split at h
  · obtain ⟨ys, hq, q⟩ := h
    exact call_list_of pins s σ H _ us Q I r ⟨_, ys, rfl, hq, q⟩
  · exact h.elim
end
end Z
namespace Z
open PySem PySem.Spec PyProof.Rows L2

/-! ### heaps -/
theorem Same.put {H : Hp} {p : Addr} {o : HO} (n : H p = none) : Same H (upd H p o) := fun b u e => by
  rw [upd_ne (ne_of_none e n)]
  exact e
/-- all stands but what is at p -/
def But (p : Addr) (H H' : Hp) : Prop := ∀ b o, H b = some o → b ≠ p → H' b = some o
theorem But.refl (p : Addr) (H : Hp) : But p H H := fun _ _ e _ => e
theorem But.same {p : Addr} {H H' : Hp} (s : Same H H') : But p H H' := fun b o e _ => s b o e
theorem But.trans {p : Addr} {H H1 H2 : Hp} (a : But p H H1) (b : But p H1 H2) : But p H H2 := fun c o e n => b c o (a c o e n) n
theorem But.put {p : Addr} {H : Hp} {o : HO} : But p H (upd H p o) := fun b u e n => by
  rw [upd_ne n]
  exact e
/-- behind a change of p alone, p being new since H0 -/
theorem But.old {p : Addr} {H0 H H' : Hp} (b : But p H H') (s : Same H0 H) (n : H0 p = none) : Same H0 H' := fun c o e => b c o (s c o e) (ne_of_none e n)

/-! ### tests -/
theorem zite {b : Bool} {A B : Prop} (h1 : b = true → A) (h2 : b = false → B) : if b = true then A else B := by
  cases b
  · exact h2 rfl
  · exact h1 rfl

/-! ### loops and comprehensions, what is walked once reckoned -/
def forGo (J : It) (g : TG) (tb : TS) (D : Ends) (σ : St) (H1 : Hp) : Prop := ∃ W : Nat → Nat → St → Hp → Prop, (∃ m, W 0 m σ H1) ∧ ∀ i m σ H, W i m σ H →
  (J.stop i H ∧ D.nx σ H) ∨ (J.go i H ∧ ∃ N : St → Hp → Prop, (∀ σ' H', N σ' H' → ∃ m', m' < m ∧ W (i + 1) m' σ' H') ∧
    ∀ x H', J.yld i H x H' → g x σ H' fun σ2 H2 => tb { D with nx := N, ct := N, bk := D.nx } σ2 H2)
def zFor (wi : TI) (g : TG) (tb : TS) : TS := fun D σ H => wi σ H fun J H1 => forGo J g tb D σ H1
def lcGo (J : It) (g : TG) (tt : TT) (te : TE) (vs : List Nat) (σ : St) (H1 : Hp) (Q : VK) : Prop := ∀ D, H1 D = none →
  ∃ W : Nat → Nat → Hp → Prop, (∃ m, W 0 m (upd H1 D (.lst []))) ∧ ∀ i m H, W i m H →
    (J.stop i H ∧ Q (.ref D) H) ∨ (J.go i H ∧ ∃ Nx : Hp → Prop, (∀ H', Nx H' → ∃ m', m' < m ∧ W (i + 1) m' H') ∧
      ∀ x H', J.yld i H x H' → g x (wipe σ vs) H' fun σ2 H2 => wipe σ2 vs = wipe σ vs ∧ tt σ2 H2 fun b H3 =>
        if b = true then te σ2 H3 fun y H4 => ∃ acc, H4 D = some (.lst acc) ∧ acc.length < sizeLine ∧ Nx (upd H4 D (.lst (acc ++ [y]))) else Nx H3)
def zLc (wi : TI) (g : TG) (tt : TT) (te : TE) (vs : List Nat) : TE := fun σ H Q => wi σ H fun J H1 => lcGo J g tt te vs σ H1 Q
section
variable {X : Cx}
theorem psz_for {tg iter : Expr} {body : List Stmt} {wi : TI} {g : TG} {tb : TS} {pos : Pos} (hp : PassesOwn (model X.prog X.w) X.A X.env X.xe) (hc : X.calm = true) (hi : PI X tg iter wi) (hg : PG X tg g)
    (hb : PSs X body tb) (hs : ∀ x, foldedSetIterable iter X.env x = pure x := by intro _; rfl) : PS X (.For tg iter body [] pos) (zFor wi g tb) :=
  ps_for hp hc hi hg hb hs
theorem pez_lc {elt tg iter : Expr} {ifs : List Expr} {scope : Scope} {own : List (Str × Nat)} {pos : Pos} {wi : TI} {g : TG} {tt : TT} {te : TE} (hc : X.calm = true) (hN : X.N.Nodup) (hi : PI X tg iter wi)
    (ok : BlkOk X.N X.env.scope scope own)
    (hg : ∀ (s : Shared) (H : Hp) (C : Addr) (cl : List (Str × Addr)) (fp : List Addr), PG (X.blk s H scope (compEnvC scope cl C X.env) fp) tg g)
    (ht : ∀ (s : Shared) (H : Hp) (C : Addr) (cl : List (Str × Addr)) (fp : List Addr), PTs (X.blk s H scope (compEnvC scope cl C X.env) fp) ifs tt)
    (he : ∀ (s : Shared) (H : Hp) (C : Addr) (cl : List (Str × Addr)) (fp : List Addr), PE (X.blk s H scope (compEnvC scope cl C X.env) fp) elt te)
    (hs : ∀ x, foldedSetIterable iter X.env x = pure x := by intro _; rfl) :
    PE X (.ListComp elt [⟨tg, iter, ifs, 0⟩] scope pos) (zLc wi g tt te (own.map (·.2))) := pe_lc hc hN hi ok hg ht he hs
theorem psz_setLc {i : Nat} {y : Str} {py : Pos} {elt tg iter : Expr} {ifs : List Expr} {scope : Scope} {own : List (Str × Nat)} {pos spos : Pos} {wi : TI} {g : TG} {tt : TT} {te : TE}
    (hc : X.calm = true) (hN : X.N.Nodup) (hy : X.N[i]? = some y) (hyl : X.env.scope.names.lookup y = some .local)
    (hsw : swapsWith (.ListComp elt [⟨tg, iter, ifs, 0⟩] scope pos) (some (.Name y py)) spos.line X.env = pure true) (hi : PI X tg iter wi) (ok : BlkOk X.N X.env.scope scope own)
    (hg : ∀ (s : Shared) (H : Hp) (C : Addr) (cl : List (Str × Addr)) (fp : List Addr), PG (X.blk s H scope (compEnvC scope cl C X.env) fp) tg g)
    (ht : ∀ (s : Shared) (H : Hp) (C : Addr) (cl : List (Str × Addr)) (fp : List Addr), PTs (X.blk s H scope (compEnvC scope cl C X.env) fp) ifs tt)
    (he : ∀ (s : Shared) (H : Hp) (C : Addr) (cl : List (Str × Addr)) (fp : List Addr), PE (X.blk s H scope (compEnvC scope cl C X.env) fp) elt te)
    (hs : ∀ x, foldedSetIterable iter X.env x = pure x := by intro _; rfl) :
    PS X (.Assign [.Name y py] (.ListComp elt [⟨tg, iter, ifs, 0⟩] scope pos) spos) (tAsg (zLc wi g tt te (own.map (·.2))) (gName i)) :=
  ps_setLc hc hN hy hyl hsw hi ok hg ht he hs
end
section
variable {J : It} {n : Nat} {G : Hp → Prop} {Y : Nat → Hp → V → Hp → Prop}
/-- a for by its invariant -/
theorem for_z (w : Walk J n G Y) {g : TG} {tb : TS} {D : Ends} {σ : St} {H : Hp} (Pv : Nat → St → Hp → Prop) (h0 : Pv 0 σ H) (hG : ∀ i σ H, i ≤ n → Pv i σ H → G H)
    (hs : ∀ i x σ H H', i < n → Pv i σ H → Y i H x H' → g x σ H' fun σ2 H2 => tb { D with nx := Pv (i + 1), ct := Pv (i + 1), bk := D.nx } σ2 H2) (hd : ∀ σ H, Pv n σ H → D.nx σ H) :
    forGo J g tb D σ H := for_it w Pv h0 hG hs hd
/-- a comprehension by an invariant of the heap -/
theorem lc_z (w : Walk J n G Y) {g : TG} {tt : TT} {te : TE} {vs : List Nat} {σ : St} {H1 : Hp} {Q : VK} (Pv : Addr → Nat → Hp → Prop) (h0 : ∀ D, H1 D = none → Pv D 0 (upd H1 D (.lst [])))
    (hG : ∀ D i H, H1 D = none → i ≤ n → Pv D i H → G H)
    (hs : ∀ D i x H H', H1 D = none → i < n → Pv D i H → Y i H x H' → g x (wipe σ vs) H' fun σ2 H2 => wipe σ2 vs = wipe σ vs ∧ tt σ2 H2 fun b H3 =>
      if b = true then te σ2 H3 fun y H4 => ∃ acc, H4 D = some (.lst acc) ∧ acc.length < sizeLine ∧ Pv D (i + 1) (upd H4 D (.lst (acc ++ [y]))) else Pv D (i + 1) H3)
    (hd : ∀ D H, H1 D = none → Pv D n H → Q (.ref D) H) : lcGo J g tt te vs σ H1 Q :=
  fun D hD => lc_it w (Qd := fun H => Q (.ref D) H) (Pv D) (h0 D hD) (fun i H => hG D i H hD) (fun i x H H' => hs D i x H H' hD) fun H => hd D H hD
/-- a comprehension whose elements change nothing -/
theorem lc_map (w : Walk J n G Y) {g : TG} {tt : TT} {te : TE} {vs : List Nat} {σ : St} {H1 : Hp} {Q : VK} (f : Nat → V) (hn : n ≤ sizeLine) (hG : ∀ H', Same H1 H' → G H')
    (hs : ∀ i x H H', i < n → Same H1 H → Y i H x H' → H' = H ∧ ∃ σ2, (∀ R : St → Hp → Prop, R σ2 H → g x (wipe σ vs) H R) ∧ wipe σ2 vs = wipe σ vs ∧
      (∀ R : Bool → Hp → Prop, R true H → tt σ2 H R) ∧ (∀ R : VK, R (f i) H → te σ2 H R))
    (hd : ∀ D, H1 D = none → Q (.ref D) (upd H1 D (.lst ((List.range n).map f)))) : lcGo J g tt te vs σ H1 Q := by
  refine lc_z w (fun D i H => H = upd H1 D (.lst ((List.range i).map f))) (fun D hD => rfl) (fun D i H hD _ e => ?_) (fun D i x H H' hD hi e y => ?_) (fun D H hD e => ?_)
  · subst e
    exact hG _ (Same.put hD)
  · subst e
    obtain ⟨e2, σ2, h1, h2, h3, h4⟩ := hs i x _ H' hi (Same.put hD) y
    subst e2
    refine h1 _ ⟨h2, h3 _ ?_⟩
    show te σ2 _ _
    refine h4 _ ⟨_, upd_same, by simp; omega, ?_⟩
    rw [upd_upd, List.range_succ, List.map_append]
    rfl
  · subst e
    exact hd D hD
end
end Z
namespace Z
open PySem PySem.Spec PyProof.Rows L2

/-! ### the law's end, for defs of this layer -/
theorem law_callZ {P : Program} {w : World} {K : PySem.W.Frag} {mg mb : Str → Option Value} {k : Nat} {fa a : Addr} {fd : FuncData} {x : Str} {sp : Sp} {s₁ : Shared} {vs : List Value} {ns : List Int}
    (KX : K.In s₁.heap) (hns : s₁.heap.Ns mainGlobals mg) (hb : s₁.heap.Ns builtinsNs mb) (hbb : ∀ x : Str, x ≠ "__name__" → mb x = bootBuiltins x) (hlim : s₁.heap.NoLimit) (hg : s₁.gens = #[])
    (ha : s₁.heap.get? a = some { cls := .type "list", data := .seq vs.toArray }) (hi : IntsAre vs ns) (hl : ns.length ≤ sizeLine) (hr : Room k callerA)
    (F : ∀ base : Heap, K.In base → base.Ns mainGlobals mg → FnZ P w K mg base k fa fd [x] sp) (hbind : ∀ (s : Shared) (u : Value), BindsTo s fd ⟨[u], []⟩ [(x, u)])
    (hsp : ∀ H : Hp, Only H → SqL K H a (ns.map V.int) → sp [.ref a] H (fun v _ => v = .bl true) fun _ _ _ => False) :
    codeAny (model P w) callerA (.call (.ref fa) ⟨[.ref a], []⟩) (fun r s' => r = .ok (.ret (.bool true)) ∧ OldK s₁.heap s'.heap ∧ s'.os = s₁.os ∧ AllBare s'.gens) s₁ := by
  have rv := vals_ints hi
  have lenV := hi.length
  have core : ∀ H : Hp, Only H → SqL K H a (ns.map V.int) → HOk P w H s₁.heap → (∀ b, H b ≠ none → b = a) → (H a ≠ none → K.lookup a = none) →
      codeAny (model P w) callerA (.call (.ref fa) ⟨[.ref a], []⟩) (fun r s' => r = .ok (.ret (.bool true)) ∧ OldK s₁.heap s'.heap ∧ s'.os = s₁.os ∧ AllBare s'.gens) s₁ := by
    intro H hO hS hok hA hK
    have base_of : ∀ {b : Addr} {o : Obj}, s₁.heap.get? b = some o → H b = none → (hidT s₁.heap H).get? b = some o := fun e n => hidT_get e n
    have noA : ∀ {b : Addr} {o : Obj} {es : Array DictEntry} {ep : Nat}, s₁.heap.get? b = some o → o.data = .dict es ep → H b = none := fun {b o es ep} e d => by
      cases q : H b with
      | none => rfl
      | some u =>
        have e' : b = a := hA b (by rw [q]; simp)
        subst e'
        rw [ha] at e; cases e
        have d' : Data.seq vs.toArray _ = Data.dict es ep := d
        cases d'
    have nsK : ∀ {b : Addr} {m : Str → Option Value}, s₁.heap.Ns b m → (hidT s₁.heap H).Ns b m := fun {b m} ⟨o, es, ep, e, d, r⟩ => ⟨o, es, ep, base_of e (noA e d), d, r⟩
    have hKb : K.In (hidT s₁.heap H) := fun b o e => base_of (KX b o e) (by
      cases q : H b with
      | none => rfl
      | some u =>
        have e' : b = a := hA b (by rw [q]; simp)
        subst e'
        rw [hK (by rw [q]; simp)] at e; cases e)
    have hM : Mod K mg (hidT s₁.heap H) := ⟨hKb, nsK hns, ⟨mb, nsK hb, hbb⟩, let ⟨mc, h1, h2⟩ := hlim; ⟨mc, nsK h1, h2⟩⟩
    have e0 : Env0 P w K mg (hidT s₁.heap H) callerA [] s₁ H := ⟨rfl, hM, fun b o e => of_hidT e, Nat.le_of_eq (hidT_size _ _), trivial, fun b hb => absurd (show b ∈ ([] : List Addr) from hb) (by simp), hok, .of_eq hg⟩
    refine codeAny_mono ((F _ hKb (nsK hns)).run callerA [] s₁ H ⟨[.ref a], []⟩ [.ref a] [.ref a] _ _ hr (fun _ => rfl) e0 (hbind s₁ (.ref a)) (.cons rfl .nil) (hsp H hO hS)) fun r s' h => ?_
    cases r with
    | error e =>
      obtain ⟨_, _, _, _, _, _, _, _, _, _, _, _, z⟩ := h
      exact False.elim z
    | ok fl =>
      cases fl with
      | next => exact False.elim h
      | brk => exact False.elim h
      | cont => exact False.elim h
      | ret u =>
        obtain ⟨v, H', os, bare, un, hok', r', q⟩ := h
        have q' : v = .bl true := q
        subst q'
        obtain rfl : u = Value.bool true := r'
        refine ⟨rfl, OldK.of_keep fun b o e => ?_, os, bare⟩
        cases q : H b with
        | none => exact un.keep b o e q (by intro z; exact absurd (show b ∈ ([] : List Addr) from z) (by simp)) (by simp)
        | some u =>
          rcases hO b with z | ⟨ob, xs, z⟩
          · rw [q] at z; cases z
          · have z2 := un.frzs b ob _ z
            obtain ⟨e1, _⟩ := hok b _ z
            obtain ⟨e2, _⟩ := hok' b _ z2
            rw [e] at e1; cases e1
            exact e2
  cases hk : K.lookup a with
  | some o =>
    have e := KX a o hk
    rw [ha] at e
    cases e
    refine core (fun _ => none) (fun _ => .inl rfl) (.inr ⟨_, vs.toArray, _, hk, rfl, rfl, rfl, by rw [List.size_toArray, lenV]; exact hl, by simpa using rv⟩) (fun b u z => by have z' : (none : Option HO) = some u := z; cases z') (fun b z => absurd rfl z) fun z => absurd rfl z
  | none =>
    refine core (fun b => if b = a then some (.frz { cls := .type "list", data := .seq vs.toArray } (.lst (ns.map V.int))) else none) (fun b => ?_) (.inl (.inr ⟨{ cls := .type "list", data := .seq vs.toArray }, if_pos rfl⟩)) (fun b u z => ?_) (fun b z => ?_) fun _ => hk
    · by_cases hb : b = a
      · exact .inr ⟨_, _, if_pos hb⟩
      · exact .inl (if_neg hb)
    · by_cases hb : b = a
      · have z' := (if_pos hb).symm.trans z
        cases z'
        subst hb
        exact ⟨ha, by rw [List.length_map]; exact hl, vs, _, rv, ha⟩
      · have z' := (if_neg hb).symm.trans z
        cases z'
    · by_cases hb : b = a
      · exact hb
      · exact absurd (if_neg hb) z
theorem walk_ofZ {l : PySem.W.OpenLaw} {n k : Nat} {q : Program} {loose : List Str} {XP : (Str → Option Value) → Heap → Prop} {YP : World → Heap → Prop} {d : DefRec} {K : Params → PySem.W.Frag} {sp : PySem.W.Frag → Sp} {x : Str}
    (hn : l.most = some n) (hn2 : n ≤ sizeLine) (hdf : d.params.defaults = []) (hr : Room k callerA)
    (hY : ∀ (w : World) (h : Heap), YP w h → (K w.params).In h)
    (F : ∀ (w : World) (mg : Str → Option Value) (fa : Addr) (h : Heap), (K w.params).In h → h.Ns mainGlobals mg → mg d.name = some (.ref fa) →
      ∃ fd : FuncData, (∀ (s : Shared) (u : Value), BindsTo s fd ⟨[u], []⟩ [(x, u)]) ∧
        ∀ base : Heap, (K w.params).In base → base.Ns mainGlobals mg → FnZ l.prog w (K w.params) mg base k fa fd [x] (sp (K w.params)))
    (hsp : ∀ (K : PySem.W.Frag) (H : Hp) (a : Addr) (ns : List Int), ns.length ≤ n → Only H → SqL K H a (ns.map V.int) → sp K [.ref a] H (fun v _ => v = .bl true) fun _ _ _ => False) :
    PySem.W.WalkO q loose XP YP l.row.toRowW d [] (fun f vs => PySem.call f vs) := by
  refine Att.attach_call hn hdf fun w s₀ s₁ mg mb fa o pm cd doc a vs ns G Y ho hd hcd hmg hobj hints hlen hg => ?_
  have KX := hY w _ Y
  obtain ⟨fd, hb, hF⟩ := F w mg fa _ KX G.T.g hmg
  exact law_callZ KX G.T.g G.T.b G.T.builtins G.T.nolimit hg hobj hints (Nat.le_trans hlen hn2) hr hF hb (fun H hO hS => hsp (K w.params) H a ns hlen hO hS)
/-- the promise of a law: whatever the script, True -/
def spLaw (K : PySem.W.Frag) : Sp := fun vs H Q E => ∃ (a : Addr) (ns : List Int), vs = [.ref a] ∧ SqL K H a (ns.map V.int) ∧ ns.length ≤ 63 ∧ ∀ H', Q (.bl true) H'
theorem law_walk {l : PySem.W.OpenLaw} {k : Nat} {q : Program} {loose : List Str} {XP : (Str → Option Value) → Heap → Prop} {YP : World → Heap → Prop} {d : DefRec} {K : Params → PySem.W.Frag} (hn : l.most = some 63) (hdf : d.params.defaults = []) (hr : Room k callerA)
    (hY : ∀ (w : World) (h : Heap), YP w h → (K w.params).In h)
    (F : ∀ (w : World) (mg : Str → Option Value) (fa : Addr) (h : Heap), (K w.params).In h → h.Ns mainGlobals mg → mg d.name = some (.ref fa) →
      ∃ fd : FuncData, (∀ (s : Shared) (u : Value), BindsTo s fd ⟨[u], []⟩ [("script", u)]) ∧
        ∀ base : Heap, (K w.params).In base → base.Ns mainGlobals mg → FnZ l.prog w (K w.params) mg base k fa fd ["script"] (spLaw (K w.params))) :
    PySem.W.WalkO q loose XP YP l.row.toRowW d [] (fun f vs => PySem.call f vs) :=
  walk_ofZ (n := 63) (k := k) (x := "script") (sp := spLaw) hn (by decide) hdf hr hY F fun _ _ a ns hl _ hS => ⟨a, ns, rfl, hS, hl, fun _ => rfl⟩
/-- «except C» names an error of the class at C itself -/
theorem exm_own {K : PySem.W.Frag} {C : Addr} (b : PySem.W.subIn K (.ref C) (.type "BaseException") = some true) (c : PySem.W.isClsIn K C = true) (t : PySem.W.typeIn K (.ref C) = some (.type "type")) (u : PySem.W.subIn K (.ref C) (.ref C) = some true) :
    PySem.W.exmOne K (.ref C) (.ref C) = some true := by
  have c' : (PySem.W.clsIn K C).isSome = true := c
  simp [PySem.W.exmOne, PySem.W.kitCls, b, c', t, u]
end Z
namespace Z
open PySem PySem.Spec PyProof.Rows L2

/-! ### enumerate(tuple) -/
theorem enum1_meets {v : Value} {o : Obj} {G : Heap → Prop} (B : Begins v o G) :
    Meets (Builtin.«enumerate.__new__» ⟨[.type "enumerate", v], []⟩) (fun _ R s => G s.heap ∧
      R (.ok (.ret (.ref (s.heap.push o).objs.size))) { s with heap := (s.heap.push o).push { cls := .type "enumerate", data := .fields #[.none, .bool false, .ref s.heap.objs.size, rawInt 0, .none, .none] } }) :=
  .of_wp fun prog w A R s hh => by
    obtain ⟨hp, g, d, tk, os⟩ := s
    obtain ⟨hG, hR⟩ := hh
    have hsub := sub_enumerate
    have it1 : ∀ {A' : Around} {E : Value → Shared → Prop} {Q : Value → Shared → Prop}, Q (.ref hp.objs.size) ⟨hp.push o, g, d, tk, os⟩ → wpAny (model prog w) A' (pyIter v) Q E ⟨hp, g, d, tk, os⟩ :=
      fun q => B.iter prog w _ _ _ _ hG q
    wp_walk using it1
    refine wpAny_stack_any fun _ => wpAny_pure ?_
    split
    · rename_i c _ _ _ _ _
      cases (c == Value.type "enumerate") <;>
      · wp_walk using it1
        exact ⟨_, rfl, hR⟩
    · wp_walk using it1
      exact ⟨_, rfl, hR⟩
theorem enum1_call {prog : Program} {w : World} {A : Around} {E : Value → Shared → Prop} {s : Shared} {v : Value} {o : Obj} {G : Heap → Prop} {Q : Value → Shared → Prop} (B : Begins v o G) (hG : G s.heap)
    (k : ∀ h', IsEnum h' (s.heap.objs.size + 1) s.heap.objs.size 0 .none → h'.get? s.heap.objs.size = some o → (∀ b u, s.heap.get? b = some u → h'.get? b = some u) → Q (.ref (s.heap.objs.size + 1)) { s with heap := h' }) :
    wpAny (model prog w) A (call (.type "enumerate") [v]) Q E s := by
  have z1 : (s.heap.push o).objs.size = s.heap.objs.size + 1 := Heap.size_push ..
  have e1 : IsEnum ((s.heap.push o).push { cls := .type "enumerate", data := .fields #[.none, .bool false, .ref s.heap.objs.size, rawInt 0, .none, .none] }) (s.heap.objs.size + 1) s.heap.objs.size 0 .none := by
    rw [← z1]
    exact Heap.get?_push_size _ rfl
  refine callType_new F.called_enumerate (by decide) (F.typeCall_enumerate_1 _) (F.newCall_enumerate_1 _) (fun obj => F.args_object_init_2 obj _) F.entry_enumerate_new (enum1_meets B) ⟨hG, ?_⟩
  show _ ∧ _
  rw [z1]
  exact ⟨⟨_, e1, rfl⟩, k _ e1 (Heap.get?_push_of_some _ (Heap.get?_push_size _ B.free)) fun b u x => Heap.get?_push_of_some _ (Heap.get?_push_of_some _ x)⟩
/-- the tuple at a, each item with its index in a new pair -/
def ZeT (K : PySem.W.Frag) (a : Addr) : It where
  go := fun i H => ∃ (xs : List V) (x : V), SqT K H a xs ∧ xs[i]? = some x
  yld := fun i H v H' => ∃ T x, v = .ref T ∧ H T = none ∧ H' = upd H T (.tup [.int (i : Nat), x]) ∧ ∀ xs, SqT K H a xs → xs[i]? = some x
  stop := fun i H => ∃ xs : List V, SqT K H a xs ∧ xs.length ≤ i
theorem isTup_tuple {h : Heap} {a : Addr} {its : Array Value} (p : IsTup h a its) : h.IsTuple a its := by
  obtain ⟨o, e, c, n, d⟩ := p
  exact ⟨o, e, c, n, d⟩
theorem turn_zeT {P : Program} {w : World} {K : PySem.W.Frag} {elts : List Expr} {kk : Nat} {tpos : Pos} (a e it : Addr) :
    Turn P w K (.Tuple elts kk tpos) (ZeT K a) [e, it] e (fun i h => (∃ old, IsEnum h e it ((i : Nat) : Int) old) ∧ h.IsTupleIter it a i ∧ e ≠ it) where
  mem := by simp
  obj := fun i h st b hb => by
    obtain ⟨⟨old, he⟩, ⟨o, ho, hc, hd⟩, _⟩ := st
    simp only [List.mem_cons, List.not_mem_nil, or_false] at hb
    rcases hb with rfl | rfl
    · exact ⟨_, he, fun v q => nomatch q⟩
    · exact ⟨o, ho, fun v q => by rw [hd] at q; cases q⟩
  keep := fun i h h' st k => by
    obtain ⟨⟨old, he⟩, hi, hne⟩ := st
    exact ⟨⟨old, k e (by simp) _ he⟩, hi.at fun o q => k it (by simp) o q, hne⟩
  item := by
    intro X hP hw hK hc i pins s σ H E I hf st hg
    subst hP hw hK
    obtain ⟨⟨old, he⟩, hit, hne⟩ := st
    obtain ⟨xs, x, hq, hx⟩ := hg
    obtain ⟨its, rv, p, _⟩ := I.tuple hq
    obtain ⟨u, hu, ru⟩ := rv.get hx
    have pt := isTup_tuple p
    have nai : a ≠ it := fun z => by
      obtain ⟨o1, e1, c1, _⟩ := pt
      obtain ⟨o2, e2, c2, _⟩ := hit
      rw [z, e2] at e1
      cases e1
      rw [c2] at c1
      exact absurd c1 (by decide)
    have nea : e ≠ a := fun z => by
      obtain ⟨o1, e1, c1, _⟩ := pt
      have e2 : s.heap.get? e = _ := he
      rw [z, e1] at e2
      obtain rfl := Option.some.inj e2
      exact absurd (show Value.type "enumerate" = Value.type "tuple" from c1) (by decide)
    have lte : e < s.heap.objs.size := Heap.lt_size he
    have lti : it < s.heap.objs.size := by obtain ⟨_, q, _⟩ := hit; exact Heap.lt_size q
    have lts : i < its.toArray.size := by
      have := (List.getElem?_eq_some_iff.mp hu).1
      simpa using this
    refine wpAny_pyNext_enum_itemC (Draws.tuple (A := X.A.in1) (I.ok.hd hc) it a nai its.toArray) he ⟨hit, pt⟩ lts hne (by simp [hne, nea]) fun y h' tk hy ho hst hT hsz hk => ?_
    obtain rfl : y = u := by
      have hy' : its[i]? = some y := by simpa using hy
      rw [hu] at hy'
      exact (Option.some.inj hy').symm
    refine ⟨_, rfl, wpAny_letOwnedTupleGo_enum (s := { s with heap := h', toks := tk + 1 }) ho fun h2 he2 sb => ?_⟩
    have hT2 : h2.get? s.heap.objs.size = some { cls := .type "tuple", data := .seq #[.int i tk, y] } := (sb.2 _ (Nat.ne_of_gt lte)).trans hT
    have new : ObjOk X.prog X.w (upd H s.heap.objs.size (.tup [.int (i : Nat), x])) h2 s.heap.objs.size (.tup [.int (i : Nat), x]) :=
      ⟨show 2 ≤ sizeLine by decide, [.int i tk, y], .cons ⟨_, rfl⟩ (.cons ru .nil), ⟨_, hT2, rfl, _, rfl⟩⟩
    have I1 : Inv X pins σ (upd H s.heap.objs.size (.tup [.int (i : Nat), x])) { s with heap := h2, toks := tk + 1 } :=
      I.turnedNew (ch := [e, it]) (fun b ob hb q => (sb.2 b (fun z => hb (by simp [z]))).trans (hk b ob (fun z => hb (by simp [z])) (fun z => hb (by simp [z])) q)) hf (Nat.le_refl _) new
    refine ⟨.ref s.heap.objs.size, _, I1, rfl, ⟨_, x, rfl, I.hok.fresh (Nat.le_refl _), rfl, fun ys hy2 => by rw [I.tuple_inj hy2 hq]; exact hx⟩, ⟨⟨y, ?_⟩, hst.1.at fun o q => (sb.2 it (Ne.symm hne)).trans q, hne⟩, fun b hb => ?_⟩
    · have e1 : ((i + 1 : Nat) : Int) = (i : Int) + 1 := by omega
      rw [e1]
      exact he2
    · have lt : b < s.heap.objs.size := by
        simp only [List.mem_cons, List.not_mem_nil, or_false] at hb
        rcases hb with rfl | rfl
        · exact lte
        · exact lti
      rw [upd_ne (Nat.ne_of_lt lt)]
      exact (hf b hb).1
  done := by
    intro X hP hw hK hc i pins s σ H E I hf st hg
    subst hP hw hK
    obtain ⟨⟨old, he⟩, hit, hne⟩ := st
    obtain ⟨xs, hq, hx⟩ := hg
    obtain ⟨its, rv, p, _⟩ := I.tuple hq
    have pt := isTup_tuple p
    obtain ⟨f0, f1, f2, f3, f4, f5⟩ := hf it (by simp)
    have hl := rv.length
    have T := I.ok.hd hc
    have fin : ∀ h', Heap.ExtBut it s.heap h' → Inv X pins σ H { s with heap := h' } := fun h' eb => I.turned (t' := s.toks) (fun b o hb q => eb b o hb q) f0 f1 f3 f4 f5
    have D : Draws X.prog X.w X.A.in1 it [it, a] i (fun _ _ => True) (fun k h => k = i ∧ h.IsTupleIter it a i ∧ h.IsTuple a its.toArray) := {
      live := fun _ _ z => let ⟨o, ho, _⟩ := z.2.1; ⟨o, ho⟩
      frame := fun _ _ _ z hk => ⟨z.1, z.2.1.at fun o q => hk it (by simp) o q, z.2.2.at fun o q => hk a (by simp) o q⟩
      item := fun k _ _ _ lt z _ => absurd z.1 (Nat.ne_of_lt lt)
      done := fun s' Q' E' z hE => wpAny_nextOf_tuple_end (A := X.A.in1) T z.2.1 z.2.2 (by simp; omega) hE }
    exact wpAny_pyNext_enum_endD D he ⟨rfl, hit, pt⟩ fun h' eb => ⟨rfl, fin h' eb⟩
  self := fun A i s Q E st h => by
    obtain ⟨⟨_, he⟩, _⟩ := st
    exact wpAny_pyIter_enum he h
/-- enumerate of a list or of a tuple -/
def zEnum (K : PySem.W.Frag) (ta : TA) : TI := fun σ H R => ta σ H fun vs H1 => ∃ a xs, vs = [.ref a] ∧ ((SqL K H1 a xs ∧ R (Ite K a) H1) ∨ (SqT K H1 a xs ∧ R (ZeT K a) H1))
theorem pi_zEnum {X : Cx} {e : Expr} {ta : TA} {p pos tpos : Pos} {elts : List Expr} {kk : Nat} (hg : Gl X "enumerate") (hm : X.mg "enumerate" = none) (ha : PA X [e] ta) (hs : starEach [e] X.env = [(false, eval e X.env)] := by rfl) :
    PI X (.Tuple elts kk tpos) (.Call (.Name "enumerate" p) [e] [] pos) (zEnum X.K ta) := by
  constructor
  intro pins s σ H R I h
  refine Call_ (ld_blt I hg hm boot_enumerate (PyProof.Rows.callWith_type1 (thn (ha.run pos pins s σ H _ I h) ?_) hs rfl))
  rintro us s1 ⟨vs, H1, I1, r1, a, xs, rfl, q⟩
  cases r1 with
  | cons r rr =>
    cases rr
    cases r
    have foot : ∀ b ∈ [s1.heap.objs.size + 1, s1.heap.objs.size], FpOk X pins H1 b := fun b hb => by
      have le : s1.heap.objs.size ≤ b := by
        simp only [List.mem_cons, List.not_mem_nil, or_false] at hb
        omega
      exact I1.fpOk le (I1.hok.fresh le)
    rcases q with ⟨hq, q⟩ | ⟨hq, q⟩
    · obtain ⟨its, rv, p', hz⟩ := I1.list hq
      refine call_enumerate_list p'.isList fun h' he hit hsz hk => wpAny_pyIter_enum he ?_
      exact ⟨s1.heap.objs.size + 1, [s1.heap.objs.size + 1, s1.heap.objs.size], _, _, H1, rfl, I1.kept (t' := s1.toks) hk, turn_enum a (s1.heap.objs.size + 1) s1.heap.objs.size, ⟨⟨.none, he⟩, hit, Nat.succ_ne_self _⟩, foot, q⟩
    · obtain ⟨its, rv, p', hz⟩ := I1.tuple hq
      refine enum1_call (begins_tuple a its.toArray) (isTup_tuple p') fun h' he hit hk => wpAny_pyIter_enum he ?_
      exact ⟨s1.heap.objs.size + 1, [s1.heap.objs.size + 1, s1.heap.objs.size], _, _, H1, rfl, I1.kept (t' := s1.toks) hk, turn_zeT a (s1.heap.objs.size + 1) s1.heap.objs.size, ⟨⟨.none, he⟩, ⟨_, hit, rfl, rfl⟩, Nat.succ_ne_self _⟩, foot, q⟩
theorem walk_zeT {K : PySem.W.Frag} {a : Addr} {xs : List V} : Walk (ZeT K a) xs.length (fun H => SqT K H a xs) (YPair (fun i => some (.int (i : Nat))) (fun i => xs[i]?)) := by
  refine ⟨fun i _ hi q => ⟨xs, xs[i], q, by simp [hi]⟩, fun _ q => ⟨xs, q, Nat.le_refl _⟩, fun i H v H' _ q y => ?_⟩
  obtain ⟨T, x, h1, h2, h3, h4⟩ := y
  exact ⟨T, .int (i : Nat), x, h1, h2, h3, rfl, h4 xs q⟩
end Z
namespace Z
open PySem PySem.Spec PyProof.Rows L2

/-! ### {e for x in xs if t}: a set of keys (texts, ints) -/
def scGo (P : Program) (w : World) (J : It) (g : TG) (tt : TT) (te : TE) (vs : List Nat) (σ : St) (H1 : Hp) (Q : VK) : Prop := ∀ D, H1 D = none →
  ∃ W : Nat → Nat → Hp → Prop, (∃ m, W 0 m (upd H1 D (SetK P w D (fun _ => false) 0))) ∧ ∀ i m H, W i m H →
    (J.stop i H ∧ Q (.ref D) H) ∨ (J.go i H ∧ ∃ Nx : Hp → Prop, (∀ H', Nx H' → ∃ m', m' < m ∧ W (i + 1) m' H') ∧
      ∀ x H', J.yld i H x H' → g x (wipe σ vs) H' fun σ2 H2 => wipe σ2 vs = wipe σ vs ∧ tt σ2 H2 fun b H3 =>
        if b = true then te σ2 H3 fun y H4 => rSAddK P w (.ref D) [y] H4 fun _ H5 => Nx H5 else Nx H3)
def zSc (P : Program) (w : World) (wi : TI) (g : TG) (tt : TT) (te : TE) (vs : List Nat) : TE := fun σ H Q => wi σ H fun J H1 => scGo P w J g tt te vs σ H1 Q
/-- an empty set -/
abbrev set0 (w : World) : Obj := { cls := .type "set", dict := none, data := .set #[] 0 (.fresh 0 0 (!w.params.followText "set-order")) }
theorem set0_key {P : Program} {w : World} {h : Heap} : (h.push (set0 w)).SetOf (mixKind P w) h.objs.size (fun _ => false) 0 := by
  refine ⟨_, #[], 0, _, Heap.get?_push_size _ rfl, ⟨rfl, rfl, rfl⟩, rfl, ?_, ?_, by decide, rfl, rfl⟩
  · intro e he
    simp at he
  · intro k
    simp
section
variable {X : Cx} {elt tg iter : Expr} {ifs : List Expr} {scope : Scope} {own : List (Str × Nat)} {wi : TI} {g : TG} {tt : TT} {te : TE}
/-- where the block runs -/
abbrev blkAt (X : Cx) (s : Shared) (H : Hp) (scope : Scope) (fp : List Addr) : Cx :=
  X.blk s H scope (compEnvC scope (cellsFrom (s.heap.objs.size + 1) scope.names (cloFrom X.env.cells scope.names [])) s.heap.objs.size X.env) fp
abbrev InBlk (X : Cx) (scope : Scope) (e : Expr → Cx → Prop) (a : Expr) : Prop := ∀ (s : Shared) (H : Hp) (C : Addr) (cl : List (Str × Addr)) (fp : List Addr), e a (X.blk s H scope (compEnvC scope cl C X.env) fp)
theorem sc_turns {s3 : Shared} {fp : List Addr} {it D : Addr} {ce : Env} {J : It} {tn : Nat → Heap → Prop} {vs : List Nat} {σ : St} {Q : VK} {pos : Pos} {s4 : Shared} {m0 : Nat} {H3 : Hp} {R : Result → Shared → Prop} {W : Nat → Nat → Hp → Prop}
    (hc : X.calm = true) (T : Turn X.prog X.w X.K tg J fp it tn) (hg : PG (X.blk s3 H3 scope ce fp) tg g) (ht : PTs (X.blk s3 H3 scope ce fp) ifs tt) (he : PE (X.blk s3 H3 scope ce fp) elt te)
    (turn : ∀ i m H, W i m H → (J.stop i H ∧ Q (.ref D) H) ∨ (J.go i H ∧ ∃ Nx : Hp → Prop, (∀ H', Nx H' → ∃ m', m' < m ∧ W (i + 1) m' H') ∧
      ∀ x H', J.yld i H x H' → g x (wipe σ vs) H' fun σ2 H2 => wipe σ2 vs = wipe σ vs ∧ tt σ2 H2 fun b H3 =>
        if b = true then te σ2 H3 fun y H4 => rSAddK X.prog X.w (.ref D) [y] H4 fun _ H5 => Nx H5 else Nx H3))
    (I4 : Inv (X.blk s3 H3 scope ce fp) [] (wipe σ vs) H3 s4) (st4 : tn 0 s4.heap) (nfp : ∀ b ∈ fp, H3 b = none) (w0 : W 0 m0 H3)
    (out : ∀ H5 s6, Inv (X.blk s3 H3 scope ce fp) [] (wipe σ vs) H5 s6 → Q (.ref D) H5 → R (.ok .next) s6) :
    codeAny (model X.prog X.w) X.A (.compLoop (.SetComp elt [⟨tg, iter, ifs, 0⟩] scope pos) 0 (.ref it) (.ref D) ce) R s4 := by
  refine PpSet.compLoopS_any (fun n s' => ∃ i H', Inv (X.blk s3 H3 scope ce fp) [] (wipe σ vs) H' s' ∧ tn i s'.heap ∧ (∀ b ∈ fp, H' b = none) ∧ W i n H') ?_ m0 ⟨0, H3, I4, st4, nfp, w0⟩
  have stat : ∀ {σ' : St} {H' : Hp} {s' : Shared}, Inv (X.blk s3 H3 scope ce fp) [] σ' H' s' → (∀ b ∈ fp, H' b = none) → ∀ b ∈ fp, FpOk (X.blk s3 H3 scope ce fp) [] H' b := by
    intro σ' H' s' I' hn b hb
    obtain ⟨x1, x2⟩ := I'.ok.exf b hb
    refine ⟨hn b hb, x1, I'.ok.exfs b hb, .inl hb, fun x c e => x2 x c e, fun p hp => ?_⟩
    simp at hp
  rintro n s5 ⟨i, H5, I5, st5, n5, w5⟩
  rcases turn i n H5 w5 with ⟨stop, qq⟩ | ⟨go, Nx, hNx, step⟩
  · refine thnF (T.done (X.blk s3 H3 scope ce fp) rfl rfl rfl hc i [] s5 _ H5 (fun _ _ => False) I5 (stat I5 n5) st5 stop) ?_
    rintro r s6 ⟨rfl, I6⟩
    exact out H5 s6 I6 qq
  · refine thnF (T.item (X.blk s3 H3 scope ce fp) rfl rfl rfl hc i [] s5 _ H5 (fun _ _ => False) I5 (stat I5 n5) st5 go) ?_
    rintro r s6 ⟨u, rfl, h6⟩
    refine thnF h6 ?_
    rintro _ s7 ⟨x, H7, I7, r7, y7, st7, n7⟩
    have I7' := I7.pinned (stat I7 n7) (T.obj _ _ st7)
    refine thnF (hg.run _ s7 _ H7 x u _ I7' r7 (step x H7 y7)) ?_
    rintro _ s8 ⟨σ8, H8, I8, hw8, q8⟩
    refine thnF (ht.run _ s8 σ8 H8 _ I8 q8) ?_
    rintro b s9 ⟨H9, I9, q9⟩
    have fin : ∀ {s' : Shared} {H' : Hp}, Inv (X.blk s3 H3 scope ce fp) ([] ++ pinsAt fp s7.heap) σ8 H' s' → Nx H' →
        ∃ m, m < n ∧ ∃ i H', Inv (X.blk s3 H3 scope ce fp) [] (wipe σ vs) H' s' ∧ tn i s'.heap ∧ (∀ b ∈ fp, H' b = none) ∧ W i m H' := by
      intro s' H' I' nx
      obtain ⟨m', hm, w'⟩ := hNx H' nx
      have pin' : ∀ b ∈ fp, ∀ o, s7.heap.get? b = some o → s'.heap.get? b = some o ∧ H' b = none := fun b hb o e => by
        obtain ⟨z1, z2, _⟩ := I'.pin (b, o) (List.mem_append_right _ (List.mem_append_right _ (mem_pinsAt hb e)))
        exact ⟨z1, z2⟩
      have hl : (wipe σ vs).length = σ8.length := by rw [← hw8, wipe_length]
      refine ⟨m', hm, i + 1, H', (I'.unpinned (pins := [])).weak hl ?_, T.keep _ _ _ st7 fun b hb o e => (pin' b hb o e).1, ?_, w'⟩
      · intro j v e
        rw [← hw8] at e
        exact (wipe_some e).1
      · intro b hb
        obtain ⟨o, e, _⟩ := T.obj _ _ st7 b hb
        exact (pin' b hb o e).2
    cases b
    · simp only [Bool.false_eq_true, if_false] at q9 ⊢
      exact fin I9 q9
    · simp only [if_true] at q9 ⊢
      refine thnF (he.run _ s9 σ8 H9 _ I9 q9) ?_
      rintro z s10 ⟨yv, H10, I10, r10, q10⟩
      refine thnF (mt_saddK _ s10 σ8 H10 (.ref D) [yv] (.ref D) [z] _ I10 rfl (.cons r10 .nil) q10) ?_
      rintro _ s11 ⟨_, H11, I11, _, nx⟩
      exact fin I11 nx
theorem sc_run {pins : List (Addr × Obj)} {s : Shared} {σ : St} {H : Hp} {Q : VK} {pos pos' : Pos} {use : Option (Value → Sem Unit)} {Qf : Value → Shared → Prop} (hc : X.calm = true) (hN : X.N.Nodup) (I : Inv X pins σ H s) (hi : PI X tg iter wi) (ok : BlkOk X.N X.env.scope scope own)
    (hg : ∀ (s : Shared) (H : Hp) (C : Addr) (cl : List (Str × Addr)) (fp : List Addr), PG (X.blk s H scope (compEnvC scope cl C X.env) fp) tg g)
    (ht : ∀ (s : Shared) (H : Hp) (C : Addr) (cl : List (Str × Addr)) (fp : List Addr), PTs (X.blk s H scope (compEnvC scope cl C X.env) fp) ifs tt)
    (he : ∀ (s : Shared) (H : Hp) (C : Addr) (cl : List (Str × Addr)) (fp : List Addr), PE (X.blk s H scope (compEnvC scope cl C X.env) fp) elt te)
    (hs : ∀ x, foldedSetIterable iter X.env x = pure x) (h : zSc X.prog X.w wi g tt te (own.map (·.2)) σ H Q)
    (done : ∀ D C s' m H', Inv X pins σ H' s' → Q (.ref D) H' → s'.heap.Ns C m → FpOk X pins H' C → compPost (model X.prog X.w) X.A X.xe use Qf (.ref D) C (.ok .next) s') :
    wpAny (model X.prog X.w) X.A (comprehension (.SetComp elt [⟨tg, iter, ifs, 0⟩] scope pos) scope X.env pos' (newSet (.type "set")) false (eval iter X.env) use) Qf X.xe s := by
  have hfree : ∀ y ∈ scope.names, y.2 = .free → ∃ c, X.env.cells.lookup y.1 = some c := by
    intro y hy e
    rcases ok.free y hy e with k | k
    · exact I.ok.has _ (.inl k)
    · exact I.ok.has _ (.inr k)
  refine wpAny_comprehension_free (use := use) rfl hs (closure_ok hfree) ok.kind (fun y hy e => by rw [ok.uniq y hy, e]) (thn (hi.run pins s σ H _ I h) fun xv s1 hx => thn hx ?_)
  rintro itv s2 ⟨it, fp, tn, J, H2, rfl, I2, T, st2, f2, q⟩
  refine PpSet.newSet_ok (newEnv_comp ?_)
  have hDn : H2 s2.heap.objs.size = none := I2.hok.fresh (Nat.le_refl _)
  obtain ⟨W, ⟨m0, w0⟩, turn⟩ := q _ hDn
  -- the new set is known
  have I3 : Inv X pins σ (upd H2 s2.heap.objs.size (SetK X.prog X.w s2.heap.objs.size (fun _ => false) 0)) { s2 with heap := s2.heap.push (set0 X.w) } :=
    I2.laid (t' := s2.toks) (fun b o e => Heap.get?_push_of_some _ e) (Nat.le_refl _) (setK_new set0_key)
  have f3 : ∀ b ∈ fp, FpOk X pins (upd H2 s2.heap.objs.size (SetK X.prog X.w s2.heap.objs.size (fun _ => false) 0)) b ∧ b < (s2.heap.push (set0 X.w)).objs.size := by
    intro b hb
    obtain ⟨o, e, _⟩ := T.obj _ _ st2 b hb
    have lt := Heap.lt_size e
    refine ⟨⟨?_, (f2 b hb).2⟩, by rw [Heap.size_push]; exact Nat.lt_succ_of_lt lt⟩
    rw [upd_ne (Nat.ne_of_lt lt)]
    exact (f2 b hb).1
  have st3 : tn 0 (s2.heap.push (set0 X.w)) := T.keep _ _ _ st2 fun b _ o e => Heap.get?_push_of_some _ e
  generalize hs3 : ({ s2 with heap := s2.heap.push (set0 X.w) } : Shared) = s3 at I3
  have h3 : s3.heap = s2.heap.push (set0 X.w) := by rw [← hs3]
  rw [← h3] at f3 st3
  generalize hH3 : upd H2 s2.heap.objs.size (SetK X.prog X.w s2.heap.objs.size (fun _ => false) 0) = H3 at I3 f3 w0
  have I4 := block_start I3 ok hN f3
  show codeAny _ _ (.compStart (.SetComp elt [⟨tg, iter, ifs, 0⟩] scope pos) 0 (.ref it) (.ref s2.heap.objs.size) (compEnvC scope (cellsFrom (s3.heap.objs.size + 1) scope.names (cloFrom X.env.cells scope.names [])) s3.heap.objs.size X.env)) (compPost (model X.prog X.w) X.A X.xe use Qf (.ref s2.heap.objs.size) s3.heap.objs.size) { s3 with heap := pushCells (s3.heap.push { cls := .type "dict", data := .dict #[] }) scope.names }
  have st4 : tn 0 (pushCells (s3.heap.push { cls := .type "dict", data := .dict #[] }) scope.names) := T.keep _ _ _ st3 fun b _ o e => pushCells_keeps _ _ _ _ (Heap.get?_push_of_some _ e)
  have nfp : ∀ b ∈ fp, H3 b = none := fun b hb => (f3 b hb).1.1
  have pg := hg s3 H3 s3.heap.objs.size (cellsFrom (s3.heap.objs.size + 1) scope.names (cloFrom X.env.cells scope.names [])) fp
  have pt := ht s3 H3 s3.heap.objs.size (cellsFrom (s3.heap.objs.size + 1) scope.names (cloFrom X.env.cells scope.names [])) fp
  have pe := he s3 H3 s3.heap.objs.size (cellsFrom (s3.heap.objs.size + 1) scope.names (cloFrom X.env.cells scope.names [])) fp
  generalize hce : compEnvC scope (cellsFrom (s3.heap.objs.size + 1) scope.names (cloFrom X.env.cells scope.names [])) s3.heap.objs.size X.env = ce at I4 pg pt pe ⊢
  have cL : ce.locals = s3.heap.objs.size := by
    rw [← hce]
    rfl
  have out : ∀ H5 s6, Inv (X.blk s3 H3 scope ce fp) [] (wipe σ (own.map (·.2))) H5 s6 → Q (.ref s2.heap.objs.size) H5 →
      compPost (model X.prog X.w) X.A X.xe use Qf (.ref s2.heap.objs.size) s3.heap.objs.size (.ok .next) s6 := by
    intro H5 s6 I6 qq
    have I7 : Inv X pins σ H5 s6 := I3.call' (ch := fp) I6.os I6.base I6.hok I6.bare fun b hb => by
      obtain ⟨⟨_, g1, _, g3, g4, g5⟩, _⟩ := f3 b hb
      exact ⟨g3, g1, g4, g5⟩
    have nC : H5 s3.heap.objs.size = none := by
      have z : H5 ce.locals = none := I6.free
      rwa [cL] at z
    obtain ⟨m, hn, _⟩ := I6.loc
    have hn : s6.heap.Ns ce.locals m := hn
    rw [cL] at hn
    exact done _ _ s6 m H5 I7 qq hn (I3.fpOk (Nat.le_refl _) nC)
  have loop := sc_turns (elt := elt) (iter := iter) (pos := pos) hc T pg pt pe turn I4 st4 nfp w0 out
  exact PpSet.codeAny_compStart_set loop (T.self X.A 0 _ _ _ st4 loop)
theorem pez_sc {pos : Pos} (hc : X.calm = true) (hN : X.N.Nodup) (hi : PI X tg iter wi) (ok : BlkOk X.N X.env.scope scope own)
    (hg : ∀ (s : Shared) (H : Hp) (C : Addr) (cl : List (Str × Addr)) (fp : List Addr), PG (X.blk s H scope (compEnvC scope cl C X.env) fp) tg g)
    (ht : ∀ (s : Shared) (H : Hp) (C : Addr) (cl : List (Str × Addr)) (fp : List Addr), PTs (X.blk s H scope (compEnvC scope cl C X.env) fp) ifs tt)
    (he : ∀ (s : Shared) (H : Hp) (C : Addr) (cl : List (Str × Addr)) (fp : List Addr), PE (X.blk s H scope (compEnvC scope cl C X.env) fp) elt te)
    (hs : ∀ x, foldedSetIterable iter X.env x = pure x := by intro _; rfl) :
    PE X (.SetComp elt [⟨tg, iter, ifs, 0⟩] scope pos) (zSc X.prog X.w wi g tt te (own.map (·.2))) := by
  constructor
  intro pins s σ H Q I h
  rw [PpSet.eval_SetComp]
  refine sc_run hc hN I hi ok hg ht he hs h fun D C s' m H' I' q hn f => ⟨m, hn, fun h2 sb => ?_⟩
  obtain ⟨g0, g1, g2, g3, g4, g5⟩ := f
  exact ⟨.ref D, H', I'.turned (t' := s'.toks) (fun b o hb e => (sb.2 b hb).trans e) g0 g1 g3 g4 g5, rfl, q⟩
/-- name = {..} on one line -/
theorem psz_setSc {i : Nat} {y : Str} {py pos spos : Pos} (hc : X.calm = true) (hN : X.N.Nodup) (hy : X.N[i]? = some y) (hyl : X.env.scope.names.lookup y = some .local)
    (hsw : swapsWith (.SetComp elt [⟨tg, iter, ifs, 0⟩] scope pos) (some (.Name y py)) spos.line X.env = pure true) (hi : PI X tg iter wi) (ok : BlkOk X.N X.env.scope scope own)
    (hg : ∀ (s : Shared) (H : Hp) (C : Addr) (cl : List (Str × Addr)) (fp : List Addr), PG (X.blk s H scope (compEnvC scope cl C X.env) fp) tg g)
    (ht : ∀ (s : Shared) (H : Hp) (C : Addr) (cl : List (Str × Addr)) (fp : List Addr), PTs (X.blk s H scope (compEnvC scope cl C X.env) fp) ifs tt)
    (he : ∀ (s : Shared) (H : Hp) (C : Addr) (cl : List (Str × Addr)) (fp : List Addr), PE (X.blk s H scope (compEnvC scope cl C X.env) fp) elt te)
    (hs : ∀ x, foldedSetIterable iter X.env x = pure x := by intro _; rfl) :
    PS X (.Assign [.Name y py] (.SetComp elt [⟨tg, iter, ifs, 0⟩] scope pos) spos) (tAsg (zSc X.prog X.w wi g tt te (own.map (·.2))) (gName i)) := by
  constructor
  intro pins s σ H D I h
  rw [exec_Assign_Name_used _ _ _ _ hsw]
  refine wpAny_bind (wpAny_standAt (wpAny_bind ?_))
  have h : zSc X.prog X.w wi g tt te (own.map (·.2)) σ H (fun x H1 => gName i x σ H1 D.nx) := h
  show wpAny _ X.A (do let _ ← comprehension (.SetComp elt [⟨tg, iter, ifs, 0⟩] scope pos) scope X.env (firstIterPos [⟨tg, iter, ifs, 0⟩] pos) (newSet (.type "set")) false (eval iter X.env) (some (assign (.Name y py) X.env))) _ _ s
  refine wpAny_bind (thn (sc_run (Qf := fun _ s' => SP X pins D .next s') hc hN I hi ok hg ht he hs h ?_) fun _ s' hq => wpAny_pure (wpAny_pure hq))
  intro L C s' m H' I' q hn f
  show wpAny _ _ (assign (.Name y py) X.env (.ref L)) _ _ _
  refine wpAny_assign_Name (store_ok2 (v := V.ref L) I' hN hy (.inl hyl) rfl (fun s2 I2 ha => ?_) (.inr hyl))
  obtain ⟨a, sb, ha⟩ := ha
  obtain ⟨g0, g1, g2, g3, g4, g5⟩ := f
  have nCa : C ≠ a := by
    rcases ha with z | z
    · rw [z]
      exact g1
    · exact fun e => g4 y a z e.symm
  exact ⟨m, hn.sameBut sb nCa, fun h3 sb3 => ⟨_, H', I2.turned (t' := s2.toks) (fun b o hb e => (sb3.2 b hb).trans e) g0 g1 g3 g4 g5, q⟩⟩
theorem sw_sc {gs : List Comprehension} {pos py : Pos} {y : Str} {l : Nat} {env : Env} (hk : env.scope.kind = .function) (hy : env.scope.names.lookup y = some .local) (hl : (py.line == pos.line) = true)
    (ha : (scope.names.any fun (n, k) => n == y && (k == .local || k == .cell)) = false) : swapsWith (.SetComp elt gs scope pos) (some (.Name y py)) l env = pure true := by
  have e1 : env.kindOf y = some .local := hy
  have e2 : env.blockKind = .function := by
    unfold Env.blockKind
    rw [hk]
    rfl
  unfold swapsWith
  simp only [e1, e2, ha, Expr.pos, hl]
  rfl
end
end Z
namespace Z
open PySem PySem.Spec PyProof.Rows L2

theorem passN {X : Cx} : Passes (L2.CX X.prog X.w) X (fun _ _ _ => False) := fun pins σ H s e s' I h => by
  obtain ⟨_, _, _, _, _, _, _, _, _, _, _, _, z⟩ := h
  exact False.elim z
section
variable {X : Cx}
/-! ### k in d, d a dict -/
def zDIn (neg : Bool) : R2 := fun x y H Q => ∃ a o, y = .ref a ∧ DGet H a x o ∧ Q (.bl (if neg = true then !o.isSome else o.isSome)) H
theorem op_zDIn (hu : X.A.units + 1 < cLine) : OpR X (compareOp .In) (zDIn false) := by
  intro pins s σ H x y v u Q I rx ry h
  obtain ⟨a, o, rfl, g, q⟩ := h
  obtain rfl : u = Value.ref a := ry
  exact d_in hu I g rx fun s2 I2 => ⟨.bl o.isSome, H, I2, rfl, q⟩
theorem op_zDNin (hu : X.A.units + 1 < cLine) : OpR X (compareOp .NotIn) (zDIn true) := by
  intro pins s σ H x y v u Q I rx ry h
  obtain ⟨a, o, rfl, g, q⟩ := h
  obtain rfl : u = Value.ref a := ry
  exact d_notIn hu I g rx fun s2 I2 => ⟨.bl (!o.isSome), H, I2, rfl, q⟩

/-! ### == and in of own instances -/
variable {n : Nat} {C f : Addr} {sp : Sp}
/-- one == other, both instances of the class at C -/
def zEqO (C : Addr) (sp : Sp) : R2 := fun x y H Q => ∃ a b dx dy fs gs, x = .ref a ∧ y = .ref b ∧ H a = some (.ins C dx fs) ∧ H b = some (.ins C dy gs) ∧
  sp [x, y] H (fun v H1 => ∃ c, v = .bl c ∧ Q v H1) fun _ _ _ => False
theorem op_zEqO (F : FnR X.prog X.w X.K X.mg X.base (L2.CX X.prog X.w) n f sp) (hs : PySem.W.findIn X.K (.ref C) "__eq__" = some (some (.ref f))) (hf : PySem.W.isFn X.K (.ref f) = true) (hr : Room n X.A) :
    OpR X (compareOp .Eq) (zEqO C sp) := by
  intro pins s σ H x y v u Q I rx ry h
  obtain ⟨a, b, dx, dy, fs, gs, rfl, rfl, ha, hb, h⟩ := h
  obtain rfl : v = Value.ref a := rx
  obtain rfl : u = Value.ref b := ry
  obtain ⟨mA, J1, _⟩ := ins_get I.hok ha
  obtain ⟨mB, J2, _⟩ := ins_get I.hok hb
  obtain ⟨od1, J1, _⟩ := J1.look
  obtain ⟨od2, J2, _⟩ := J2.look
  obtain ⟨m, hF⟩ := I.fr
  show wpAny (model X.prog X.w) X.A (richCompare .Eq (.ref a) (.ref b)) (EP X pins σ Q) X.xe s
  refine PySem.W.cmp_K (op := .Eq) (tb := .ref C) hr.units0 hF I.ok.mod.kin J1 J2.type (by simp [PySem.W.notFirst]) hs hf ?_
  refine thn (wpAny_call (run_fnR (us := [.ref a, .ref b]) (vs := [.ref a, .ref b]) F hr passN I (.cons rfl (.cons rfl .nil)) h)) ?_
  rintro w s2 ⟨z, H2, I2, rz, c, rfl, q⟩
  obtain rfl : w = Value.bool c := rz
  exact ⟨.bl c, H2, I2, rfl, q⟩
/-- x in o, o an instance of the class at C -/
def zInO (C : Addr) (sp : Sp) : R2 := fun x y H Q => ∃ b dy gs, y = .ref b ∧ H b = some (.ins C dy gs) ∧ sp [y, x] H (fun v H1 => ∃ c, v = .bl c ∧ Q v H1) fun _ _ _ => False
theorem op_zInO (F : FnR X.prog X.w X.K X.mg X.base (L2.CX X.prog X.w) n f sp) (hs : PySem.W.findIn X.K (.ref C) "__contains__" = some (some (.ref f))) (hf : PySem.W.isFn X.K (.ref f) = true) (hr : Room n X.A) :
    OpR X (compareOp .In) (zInO C sp) := by
  intro pins s σ H x y v u Q I rx ry h
  obtain ⟨b, dy, gs, rfl, hb, h⟩ := h
  obtain rfl : u = Value.ref b := ry
  obtain ⟨mB, J2, _⟩ := ins_get I.hok hb
  obtain ⟨od2, J2, _⟩ := J2.look
  obtain ⟨m, hF⟩ := I.fr
  refine PySem.W.in_K hF I.ok.mod.kin J2 hs hf ?_
  refine thn (wpAny_call (run_fnR (us := [.ref b, v]) (vs := [.ref b, x]) F hr passN I (.cons rfl (.cons rx .nil)) h)) ?_
  rintro w s2 ⟨z, H2, I2, rz, c, rfl, q⟩
  obtain rfl : w = Value.bool c := rz
  exact wpAny_pure ⟨.bl c, H2, I2, rfl, q⟩

/-! ### C(*xs), C in a local name -/
variable {k i : Nat} {x : Str} {e : Expr} {te : TE} {p pos sp_ : Pos} {E : XK}
def zNewL (K : PySem.W.Frag) (i : Nat) (C : Addr) (sp : Sp) (E : XK) (te : TE) : TE := fun σ H Q => σ[i]? = some (some (.ref C)) ∧ te σ H fun y H1 => ∃ a xs, y = .ref a ∧ (SqT K H1 a xs ∨ SqL K H1 a xs) ∧
  ∀ o dx, H1 o = none → H1 dx = none → dx ≠ o → sp (.ref o :: xs) (upd (upd H1 dx (.own o)) o (.ins C dx [])) (fun v H2 => v = .non ∧ Q (.ref o) H2) E
theorem pe_zNewL (M : Mk X.K C f) (F : FnR X.prog X.w X.K X.mg X.base (L2.CX X.prog X.w) k f sp) (hr : Room (k + 1) X.A) (hN : X.N[i]? = some x) (hv : Vis X.env.scope x) (hx : Passes (L2.CX X.prog X.w) X E) (he : PE X e te)
    (hdb : (x == ("__debug__" : Str)) = false := by decide) (hcd : (x == ("__classdict__" : Str)) = false := by decide) (hst : starEach [.Starred e sp_] X.env = [(true, eval e X.env)] := by rfl) :
    PE X (.Call (.Name x p) [.Starred e sp_] [] pos) (zNewL X.K i C sp E te) := by
  constructor
  intro pins s σ H Q I h
  obtain ⟨hs, ht⟩ := h
  refine wpAny_Call_Name_kw (thn ((pe_var (pos := p) hN hv hdb hcd).run pins s σ H (fun v H1 => v = .ref C ∧ H1 = H) I ⟨.ref C, hs, rfl, rfl⟩) ?_)
  rintro u s1 ⟨v, H1, I1, r1, rfl, rfl⟩
  cases r1
  refine PySem.W.callWith_S (h₀ := X.base) I.ok.mod.kin M.kp (thn (he.run pins s1 σ _ _ I1 ht) ?_) hst
  rintro w s2 ⟨y, H2, I2, ry, a, xs, rfl, hxs, q⟩
  obtain rfl : w = Value.ref a := ry
  exact StX.star_any I2 hxs fun us s3 I3 rv => ⟨I3.kIn, StX.run_makeR M F hr hx I3 rv q⟩

/-! ### isinstance of an own instance -/
structure CIns (K : PySem.W.Frag) (C : Addr) : Prop where
  cl : Cls K C
  ha : PySem.W.findIn K (.ref C) "__class__" = some (some (.builtin "object.__class__"))
  hn : PySem.W.specialIn K (.builtin "object.__class__") "__get__" = some (some (.builtin "getset_descriptor.__get__"))
  ht : PySem.W.takesIn K (.builtin "object.__class__") = some true
  hm : PySem.W.mroIn K C (.type "object") = some true
theorem isi_own {K : PySem.W.Frag} {C : Addr} {H : Hp} {Q : VK} {a dx : Addr} {fs : List (Str × V)} (c : CIns K C) (ea : H a = some (.ins C dx fs)) (q : Q (.bl true) H) : rIsi K [.ref a, .ref C] H Q :=
  ⟨_, _, .ref C, .ref C, true, rfl, .own C, .base (.ins ea c.cl c.ha c.hn c.ht c.hm), by simp [PySem.W.kitOne], q⟩
end
section
variable {X : Cx}
/-! ### tuple(x) -/
def zTupOf (K : PySem.W.Frag) : List V → Hp → VK → Prop := fun xs H Q => match xs with
  | [.ref p] => ∃ ys, (SqL K H p ys ∧ ∀ l, H l = none → Q (.ref l) (upd H l (.tup ys))) ∨ (SqT K H p ys ∧ Q (.ref p) H)
  | _ => False
theorem call_tupZ : CallR X (.type "tuple") (zTupOf X.K) := by
  intro pins s σ H xs us Q I r h
  unfold zTupOf at h
  split at h
  · obtain ⟨ys, h⟩ := h
    exact call_tuple_of pins s σ H _ us Q I r ⟨_, ys, rfl, h⟩
  · exact h.elim
end

/-! ### def f(a, *xs) -/
def spStar (n : Nat) (sp : Sp) : Sp := fun vs H Q E => ∃ ws rest, vs = ws ++ rest ∧ ws.length = n ∧ rest.length ≤ sizeLine ∧ ∀ p, H p = none → sp (ws ++ [.ref p]) (upd H p (.tup rest)) Q E
section
variable {P : Program} {w : World} {K : PySem.W.Frag} {mg : Str → Option Value} {base : Heap}
theorem okStar {x qual pv : Str} {st : Stmt} {f : Addr} {fd : FuncData} {N ps : List Str} {k : Nat} {sp : Sp} (F : Fun K x qual st f fd) (S : FnScope N (ps ++ [pv]) (defScope st))
    (hb : ∀ (kV doc pm : Value) (an : Option Addr) (cdv ct : Value) (us rest : List Value), us.length = ps.length →
      bindArgs (PySem.W.fnOf x qual (defArgs st) (defBody st) (defScope st) .none kV doc pm an cdv ct) ⟨us ++ rest, []⟩ = (newTuple rest >>= fun t => pure (ps.zip us ++ [(pv, t)])))
    (hbody : ∀ (cdv : Value) (A : Around) (outer : List Env) (s : Shared) (H : Hp) (vs : List V) (Q : VK) (E : XK),
      Room k (A.deeper (envOfC qual (defScope st) s.heap.objs.size f cdv)) → sp vs H Q E →
      ∃ t, PSs (cxOf (L2.CX P w) P w K mg base N qual (defScope st) f cdv A outer s H E) (defBody st) t ∧ t { nx := fun _ H' => Q .non H', rt := Q } (start N vs) H) :
    FnR P w K mg base (L2.CX P w) (k + 1) f (spStar ps.length sp) := by
  obtain ⟨oc, od, kV, doc, pm, an, cdv, ct, osl, rfl, lk, hcd⟩ := F.ex
  exact StX.fn_star (sp := sp) lk hcd S StX.cxUp (hb kV doc pm an cdv ct) fun A outer s H vs Q E hr hs => hbody cdv A outer s H vs Q E hr hs
end

/-- a set of keys over a walk -/
theorem sc_z {P : Program} {w : World} {J : It} {n : Nat} {G : Hp → Prop} {Y : Nat → Hp → V → Hp → Prop} (wk : Walk J n G Y) {g : TG} {tt : TT} {te : TE} {vs : List Nat} {σ : St} {H1 : Hp} {Q : VK} (Pv : Addr → Nat → Hp → Prop)
    (h0 : ∀ D, H1 D = none → Pv D 0 (upd H1 D (SetK P w D (fun _ => false) 0))) (hG : ∀ D i H, H1 D = none → i ≤ n → Pv D i H → G H)
    (hs : ∀ D i x H H', H1 D = none → i < n → Pv D i H → Y i H x H' → g x (wipe σ vs) H' fun σ2 H2 => wipe σ2 vs = wipe σ vs ∧ tt σ2 H2 fun b H3 =>
      if b = true then te σ2 H3 fun y H4 => rSAddK P w (.ref D) [y] H4 fun _ H5 => Pv D (i + 1) H5 else Pv D (i + 1) H3)
    (hd : ∀ D H, H1 D = none → Pv D n H → Q (.ref D) H) : scGo P w J g tt te vs σ H1 Q := by
  intro D hD
  refine ⟨fun i m H => m = n - i ∧ i ≤ n ∧ Pv D i H, ⟨n, by simp, Nat.zero_le _, h0 D hD⟩, ?_⟩
  rintro i m H ⟨rfl, hi, p⟩
  have q := hG D i H hD hi p
  rcases Nat.lt_or_ge i n with lt | ge
  · exact .inr ⟨wk.goes i H lt q, Pv D (i + 1), fun H' p' => ⟨n - (i + 1), by omega, rfl, lt, p'⟩, fun x H' y => hs D i x H H' hD lt p (wk.yields i H x H' lt q y)⟩
  · obtain rfl : i = n := Nat.le_antisymm hi ge
    exact .inl ⟨wk.stops H q, hd D H hD p⟩

theorem seq_of {a b : TS} {D : Ends} {σ : St} {H : Hp} (h : a { D with nx := b D } σ H) : tSeq a b D σ H := h
theorem ifS_of {t : TT} {a b : TS} {D : Ends} {σ : St} {H : Hp} (c : Bool) (ht : ∀ Q : Bool → Hp → Prop, Q c H → t σ H Q) (h1 : c = true → a D σ H) (h2 : c = false → b D σ H) : tIfS t a b D σ H := ht _ (zite h1 h2)
end Z
namespace Z
open PySem PySem.Spec PyProof.Rows L2
open AutoSeq1 (wpAny_loadPart')
open MeetsSeq

/-! ### x in a list, each question at its own state -/
section
variable {prog : Program} {w : World} {A : Around} {E : Value → Shared → Prop}
/-- at each turn the list is read anew; the items up to here were not it -/
def HasI (prog : Program) (w : World) (A : Around) (E : Value → Shared → Prop) (l : Addr) (x : Value) (N : Nat) (I : Nat → Shared → Prop) : Prop :=
  ∀ i s, I i s → ∃ (items : Array Value) (n : Nat), s.heap.get? l = some { cls := .type "list", data := .seq items n } ∧ items.size = N ∧
    ∀ h1 : i < items.size, wpAny (model prog w) A.in1 (eqBool items[i] x) (fun r s' => r = false ∧ I (i + 1) s') E s
theorem has_loop {R : Result → Shared → Prop} (l : Addr) (x : Value) (N : Nat) (I : Nat → Shared → Prop) (hl : HasI prog w A (fun e s' => R (.error e) s') l x N I) (fin : ∀ s, I N s → R (.ok (.ret (.bool false))) s) (k : Nat) :
    ∀ i : Nat, N - i = k → i ≤ N → ∀ s, I i s → wpAny (model prog w) A.in1 (Builtin.«list.__contains__.loop» ⟨[.ref l, x, rawInt i], []⟩) (GQ.FinOf prog w A R) (fun e s' => R (.error e) s') s := by
  induction k with
  | zero =>
    intro i hk hi s h
    obtain ⟨items, n, hg, hs, _⟩ := hl _ _ h
    obtain rfl : i = N := by omega
    have hR := fin s h
    obtain ⟨hp, g, d, tk, os⟩ := s
    wp_walk using wpAny_loadPart' hg
    have e1 : items[((i : Nat) : Int).toNat]? = none := by simp; omega
    rw [e1]
    wp_walk
    exact hR
  | succ k ih =>
    intro i hk hi s h
    obtain ⟨items, n, hg, hs, turn⟩ := hl _ _ h
    have lt : i < items.size := by omega
    have ht := turn lt
    obtain ⟨hp, g, d, tk, os⟩ := s
    wp_walk using wpAny_loadPart' hg
    have e1 : items[((i : Nat) : Int).toNat]? = some items[i] := by simp [lt]
    rw [e1]
    refine wpAny_bind (wpAny_mono ht ?_ fun _ _ z => z)
    rintro r s2 ⟨rfl, h2⟩
    have hrec := ih (i + 1) (by omega) (by omega) s2 h2
    obtain ⟨hp2, g2, d2, tk2, os2⟩ := s2
    have hc : ((i : Int) + 1) = ((i + 1 : Nat) : Int) := by omega
    wp_walk
    rw [hc]
    exact ⟨plainId_quiet plain_contains_loop _, codeAny_builtin entry_contains_loop (by
      rw [Around.under_plainId plain_contains_loop _]
      exact hrec)⟩
theorem in_none {l : Addr} {x : Value} {N : Nat} {s : Shared} {Q : Value → Shared → Prop} (I : Nat → Shared → Prop) (hl : HasI prog w A E l x N I) (h : I 0 s) (fin : ∀ s, I N s → Q (.bool false) s) :
    wpAny (model prog w) A (compareOp .In x (.ref l)) Q E s := by
  obtain ⟨items, n, hg, hs, _⟩ := hl _ _ h
  have hT : s.TypeIs (.ref l) "list" := ⟨_, hg, rfl⟩
  show wpAny _ A (do return .bool (← contains (.ref l) x)) Q E s
  refine wpAny_bind (wpAny_contains_slot hT F.slot_list_contains (wpAny_mono (GQ.call_here (Q := fun v s' => v = .bool false ∧ Q (.bool false) s') F.slot_list_contains hT F.entry_list_contains (F.args_list_contains_2 _ _) ?_) ?_ fun _ _ z => z))
  · have loop := has_loop (prog := prog) (w := w) (A := A) (R := wants (fun v s' => v = .bool false ∧ Q (.bool false) s') E) l x N I hl (fun s' h' => ⟨rfl, fin s' h'⟩) (N - 0) 0 rfl (Nat.zero_le _) s h
    obtain ⟨hp, g, d, tk, os⟩ := s
    wp_walk using wpAny_loadPart' hg
    exact ⟨plainId_quiet plain_contains_loop _, codeAny_builtin entry_contains_loop (by
      rw [Around.under_plainId plain_contains_loop _]
      exact loop)⟩
  · rintro v s' ⟨rfl, q⟩
    exact wpAny_truthy_bool (wpAny_pure q)
end
/-! ### == of another thing and an own instance -/
section
variable {prog : Program} {w : World} {A : Around} {E : Value → Shared → Prop} {s : Shared} {K : PySem.W.Frag} {x C f : Addr} {ox : Obj} {od : Option Obj} {v : Value} {T ida : String}
theorem rc_other {Q : Value → Shared → Prop} (hT : s.TypeIs v T) (slot : Slot T "__eq__" ida) (J : PySem.W.InstAt s.heap x ox C od) (X : K.In s.heap) (hsub : PySem.W.subIn K (.ref C) (.type T) = some false)
    (hs : PySem.W.findIn K (.ref C) "__eq__" = some (some (.ref f))) (hf : PySem.W.isFn K (.ref f) = true) (hu : A.units < cLine)
    (dec : ∀ Q' : Value → Shared → Prop, Q' .notImplemented s → wpAny (model prog w) A (call (.builtin ida) [v, .ref x]) Q' E s)
    (h : wpAny (model prog w) A (call (.ref f) [.ref x, v]) (PySem.W.CmpBack Q) E s) : wpAny (model prog w) A (richCompare .Eq v (.ref x)) Q E s := by
  have one : wpAny (model prog w) A (tryCompare (.ref x) "__eq__" v) (fun r s' => ∃ u, r = some u ∧ Q u s') E s := by
    unfold tryCompare
    refine wpAny_bind (PySem.W.ifBound_K X J hs hf (wpAny_mono h (fun u s' hv => ?_) fun _ _ e => e))
    cases u <;> first | exact hv.elim | exact wpAny_pure ⟨_, rfl, hv⟩
  rcases hi : cmpInfo CmpOp.Eq with ⟨sym, f', r⟩
  have e1 : f' = "__eq__" := by cases hi; rfl
  have e2 : r = "__eq__" := by cases hi; rfl
  subst e1 e2
  simp only [richCompare, hi, hT.oneThing_none]
  try with_reducible refine wpAny_holding ?_
  refine wpAny_bind (wpAny_cRoomFor hu ?_)
  refine wpAny_bind (wpAny_typeOf hT (wpAny_bind (J.type.here ?_)))
  have ne : (Value.type T != Value.ref C) = true := by simp
  simp only [ne, if_true]
  refine wpAny_bind ((PySem.W.looks_subIn X hsub).here ?_)
  simp only [Bool.false_eq_true, if_false, Bool.not_false, if_true]
  refine wpAny_bind (m := tryCompare v _ (.ref x)) (wpAny_tryCompare_declines hT slot (dec _ ⟨rfl, ?_⟩))
  refine wpAny_bind (wpAny_mono one (fun r s' z => ?_) fun _ _ e => e)
  obtain ⟨u, rfl, q⟩ := z
  exact wpAny_pure q
end

section
variable {prog : Program} {w : World} {A : Around} {E : Value → Shared → Prop} {s : Shared} {x : Addr} {ox : Obj}
theorem dec_none {Q : Value → Shared → Prop} (h : Q .notImplemented s) : wpAny (model prog w) A (call (.builtin "NoneType.__eq__") [.none, .ref x]) Q E s :=
  call_gives F.slot_NoneType_eq rfl F.entry_NoneType_eq (F.args_NoneType_eq_2 _ _) (SeqAt.NoneType___eq___none_ref_0 x) h
theorem dec_str {z : Str} {t : Tok} {Q : Value → Shared → Prop} (hx : s.heap.get? x = some ox) (hd : ox.data = .plain) (h : Q .notImplemented s) : wpAny (model prog w) A (call (.builtin "str.__eq__") [.str z t, .ref x]) Q E s := by
  refine GQ.call_here F.slot_str_eq (typeIs_str s z t) F.entry_str_eq (F.args_str_eq_2 _ _) ?_
  obtain ⟨cls, dd, data, sl⟩ := ox
  simp only at hd
  subst hd
  obtain ⟨hp, g, d, tk, os⟩ := s
  wp_walk using wpAny_load hx
  exact h
theorem dec_list {l : Addr} {items : Array Value} {n : Nat} {Q : Value → Shared → Prop} (hl : s.heap.get? l = some { cls := .type "list", data := .seq items n })
    (hi : ∀ (A' : Around) (Q' : Bool → Shared → Prop) (E' : Value → Shared → Prop), Q' false s → wpAny (model prog w) A' (isInstance (.ref x) (.type "list")) Q' E' s) (h : Q .notImplemented s) :
    wpAny (model prog w) A (call (.builtin "list.__eq__") [.ref l, .ref x]) Q E s := by
  refine GQ.call_here F.slot_list_eq ⟨_, hl, rfl⟩ F.entry_list_eq (F.args_list_eq_2 _ _) ?_
  obtain ⟨hp, g, d, tk, os⟩ := s
  have hi' : ∀ {A' : Around} {Q' : Bool → Shared → Prop} {E' : Value → Shared → Prop}, Q' false ⟨hp, g, d, tk, os⟩ → wpAny (model prog w) A' (isInstance (.ref x) (.type "list")) Q' E' ⟨hp, g, d, tk, os⟩ := fun q => hi _ _ _ q
  wp_walk using wpAny_loadPart' hl, hi'
  exact h
theorem dec_tuple {l : Addr} {items : Array Value} {n : Nat} {dd : Option Addr} {sl : Array (Option Value)} {Q : Value → Shared → Prop} (hl : s.heap.get? l = some { cls := .type "tuple", dict := dd, data := .seq items n, slots := sl })
    (hi : ∀ (A' : Around) (Q' : Bool → Shared → Prop) (E' : Value → Shared → Prop), Q' false s → wpAny (model prog w) A' (isInstance (.ref x) (.type "tuple")) Q' E' s) (h : Q .notImplemented s) :
    wpAny (model prog w) A (call (.builtin "tuple.__eq__") [.ref l, .ref x]) Q E s := by
  refine GQ.call_here F.slot_tuple_eq ⟨_, hl, rfl⟩ F.entry_tuple_eq (F.args_tuple_eq_2 _ _) ?_
  obtain ⟨hp, g, d, tk, os⟩ := s
  have hi' : ∀ {A' : Around} {Q' : Bool → Shared → Prop} {E' : Value → Shared → Prop}, Q' false ⟨hp, g, d, tk, os⟩ → wpAny (model prog w) A' (isInstance (.ref x) (.type "tuple")) Q' E' ⟨hp, g, d, tk, os⟩ := fun q => hi _ _ _ q
  wp_walk using wpAny_loadPart' hl, hi'
  exact h
end

theorem eqBool_of {prog : Program} {w : World} {A : Around} {E : Value → Shared → Prop} {s : Shared} {u : Value} {x : Addr} {Q : Bool → Shared → Prop} (hu : u = .none ∨ (∃ z t, u = .str z t) ∨ ∃ b, u = .ref b ∧ b ≠ x)
    (h : wpAny (model prog w) A (richCompare .Eq u (.ref x)) (fun v s' => ∃ r, v = .bool r ∧ Q r s') E s) : wpAny (model prog w) A (eqBool u (.ref x)) Q E s := by
  have fin : ∀ v s', (∃ r, v = .bool r ∧ Q r s') → wpAny (model prog w) A (truthOfDropped v) Q E s' := by
    rintro v s' ⟨r, rfl, q⟩
    exact wpAny_truthy_bool q
  rcases hu with rfl | ⟨z, t, rfl⟩ | ⟨b, rfl, hb⟩
  · unfold eqBool
    refine wpAny_holding (wpAny_ite_split (fun e => ?_) fun _ => wpAny_bind (wpAny_mono h fin fun _ _ z => z))
    exact absurd (eq_of_beq e) (fun z => by cases z)
  · unfold eqBool
    refine wpAny_holding (wpAny_ite_split (fun e => ?_) fun _ => wpAny_bind (wpAny_mono h fin fun _ _ z => z))
    exact absurd (eq_of_beq e) (fun z => by cases z)
  · unfold eqBool
    refine wpAny_holding (wpAny_ite_split (fun e => ?_) fun _ => wpAny_bind (wpAny_mono h fin fun _ _ z => z))
    exact absurd (eq_of_beq e) (fun z => by cases z; exact hb rfl)
/-- None, a text, a list, a tuple -/
def Oth (K : PySem.W.Frag) (H : Hp) (v : V) : Prop := v = .non ∨ (∃ z, v = .str z) ∨ (∃ b ys, v = .ref b ∧ H b = some (.lst ys)) ∨ ∃ b ys, v = .ref b ∧ SqT K H b ys
structure OwnNe (K : PySem.W.Frag) (C f : Addr) : Prop where
  none : PySem.W.subIn K (.ref C) (.type "NoneType") = some false
  str : PySem.W.subIn K (.ref C) (.type "str") = some false
  list : PySem.W.subIn K (.ref C) (.type "list") = some false
  tup : PySem.W.subIn K (.ref C) (.type "tuple") = some false
  at_ : PySem.W.findIn K (.ref C) "__eq__" = some (some (.ref f))
  fn : PySem.W.isFn K (.ref f) = true
def zInL (K : PySem.W.Frag) (C : Addr) (sp : Sp) : R2 := fun x y H Q => ∃ a dx fs l xs, x = .ref a ∧ y = .ref l ∧ H a = some (.ins C dx fs) ∧ H l = some (.lst xs) ∧
  (∀ v ∈ xs, Oth K H v ∧ ∀ H', Same H H' → sp [.ref a, v] H' (fun r H2 => r = .bl false ∧ Same H' H2) fun _ _ _ => False) ∧ ∀ H', Same H H' → Q (.bl false) H'
section
variable {X : Cx} {n : Nat} {C f : Addr} {sp : Sp}
theorem op_zInL (F : FnR X.prog X.w X.K X.mg X.base (L2.CX X.prog X.w) n f sp) (o : OwnNe X.K C f) (hr : Room (n + 1) X.A) : OpR X (compareOp .In) (zInL X.K C sp) := by
  intro pins s σ H x y v u Q I rx ry h
  obtain ⟨a, dx, fs, l, xs, rfl, rfl, ha, hl, hv, q⟩ := h
  obtain rfl : v = Value.ref a := rx
  obtain rfl : u = Value.ref l := ry
  refine in_none (N := xs.length) (fun i s' => ∃ H', Inv X pins σ H' s' ∧ Same H H') ?_ ⟨H, I, Same.refl H⟩ ?_
  · rintro i s1 ⟨H1, I1, z1⟩
    obtain ⟨_, its, m, rv, ln, hg⟩ := I1.lstM (z1 _ _ hl)
    refine ⟨its.toArray, m, hg, by simp [ln], fun h1 => ?_⟩
    have k1 : i < xs.length := by
      rw [ln]
      simpa using h1
    obtain ⟨u, hu, ru⟩ := rv.get (List.getElem?_eq_getElem k1)
    have eu : its.toArray[i] = u := by
      have h1' : i < its.length := by simpa using h1
      rw [List.getElem?_eq_getElem h1'] at hu
      simpa using Option.some.inj hu
    rw [eu]
    obtain ⟨ot, sp1⟩ := hv _ (List.getElem_mem k1)
    have ha1 := z1 _ _ ha
    obtain ⟨ox, od, J, hp⟩ := StX.insC_at I1 (.inr ⟨dx, fs, ha1⟩)
    have room : Room n X.A.in1 := hr.in1
    have hun : X.A.in1.units < cLine := room.units0
    -- the question itself
    have ask : ∀ Q' : Value → Shared → Prop, (∀ s2 H2, Inv X pins σ H2 s2 → Same H H2 → Q' (.bool false) s2) → wpAny (model X.prog X.w) X.A.in1 (call (.ref f) [.ref a, u]) (PySem.W.CmpBack Q') X.xe s1 := by
      intro Q' hQ
      have e := I1.env0
      have e0 : Env0 X.prog X.w X.K X.mg X.base X.A.in1 X.stack s1 H1 := ⟨e.frames, e.mod, e.bs, e.bsz, e.funs, e.frf, e.hok, e.bare⟩
      refine wpAny_call (codeAny_mono (F X.A.in1 X.stack s1 H1 [.ref a, u] [.ref a, xs[i]] _ _ room e0 (.cons (show RelV (.ref a) (.ref a) from rfl) (.cons ru .nil)) (sp1 H1 z1)) fun r s2 hq => ?_)
      rcases r with er | fl
      · exact passN pins σ H1 s1 er s2 I1 hq
      · cases fl with
        | ret w =>
          obtain ⟨z, H2, I2, rz, ez, z2⟩ := I1.after hq
          subst ez
          obtain rfl : w = Value.bool false := rz
          exact hQ s2 H2 I2 (z1.trans z2)
        | next => exact hq.elim
        | brk => exact hq.elim
        | cont => exact hq.elim
    have inst : ∀ T : String, PySem.W.subIn X.K (.ref C) (.type T) = some false → ∀ (A' : Around) (Q' : Bool → Shared → Prop) (E' : Value → Shared → Prop), Q' false s1 → wpAny (model X.prog X.w) A' (isInstance (.ref a) (.type T)) Q' E' s1 := by
      intro T hT A' Q' E' q'
      simp only [isInstance]
      exact wpAny_bind (J.type.here ((PySem.W.looks_subIn I1.kIn hT).here q'))
    have back : ∀ s2 H2, Inv X pins σ H2 s2 → Same H H2 → ∃ r, Value.bool false = .bool r ∧ r = false ∧ ∃ H', Inv X pins σ H' s2 ∧ Same H H' := fun s2 H2 I2 z2 => ⟨false, rfl, rfl, H2, I2, z2⟩
    generalize xs[i] = v at ot sp1 ru
    rcases ot with rfl | ⟨z, rfl⟩ | ⟨b, ys, rfl, hb⟩ | ⟨b, ys, rfl, hb⟩
    · obtain rfl : u = Value.none := ru
      exact eqBool_of (.inl rfl) (rc_other (T := "NoneType") rfl PySem.F.slot_NoneType_eq J I1.kIn o.none o.at_ o.fn hun (fun Q' q' => dec_none q') (ask _ back))
    · obtain ⟨t, rfl⟩ := ru
      exact eqBool_of (.inr (.inl ⟨_, _, rfl⟩)) (rc_other (T := "str") rfl PySem.F.slot_str_eq J I1.kIn o.str o.at_ o.fn hun (fun Q' q' => dec_str J.at_ hp q') (ask _ back))
    · obtain rfl : u = Value.ref b := ru
      have hb1 := z1 _ _ hb
      obtain ⟨_, its2, m2, _, _, hg2⟩ := I1.lstM hb1
      have ne : b ≠ a := fun z => by rw [z, ha1] at hb1; cases hb1
      exact eqBool_of (.inr (.inr ⟨_, rfl, ne⟩)) (rc_other (T := "list") ⟨_, hg2, rfl⟩ PySem.F.slot_list_eq J I1.kIn o.list o.at_ o.fn hun (fun Q' q' => dec_list hg2 (inst "list" o.list) q') (ask _ back))
    · obtain rfl : u = Value.ref b := ru
      obtain ⟨its2, _, p2, _⟩ := I1.tuple (show SqT X.K H1 b ys from by
        rcases hb with (h | ⟨o, h⟩) | h
        · exact .inl (.inl (z1 _ _ h))
        · exact .inl (.inr ⟨o, z1 _ _ h⟩)
        · exact .inr h)
      obtain ⟨ob, e1, c1, m2, d1⟩ := p2
      obtain ⟨cls, dd, data, sl⟩ := ob
      simp only at c1 d1
      subst c1 d1
      have ne : b ≠ a := fun z => by
        rw [z, J.at_] at e1
        cases e1
        have := J.cls
        cases this
      exact eqBool_of (.inr (.inr ⟨_, rfl, ne⟩)) (rc_other (T := "tuple") ⟨_, e1, rfl⟩ PySem.F.slot_tuple_eq J I1.kIn o.tup o.at_ o.fn hun (fun Q' q' => dec_tuple e1 (inst "tuple" o.tup) q') (ask _ back))
  · rintro s2 ⟨H2, I2, z2⟩
    exact ⟨.bl false, H2, I2, rfl, q H2 z2⟩
end

/-! ### C() of a class whose __init__ takes any number; str(int) -/
theorem pe_zMakeR0 {X : Cx} {k : Nat} {f C : Addr} {sp : Sp} {E : XK} {x : Str} {p pos : Pos} (M : Mk X.K C f) (F : FnR X.prog X.w X.K X.mg X.base (L2.CX X.prog X.w) k f sp) (hr : Room (k + 1) X.A) (hg : Gl X x) (hm : X.mg x = some (.ref C))
    (hx : Passes (L2.CX X.prog X.w) X E) (hdb : (x == ("__debug__" : Str)) = false := by decide) : PE X (.Call (.Name x p) [] [] pos) (StX.tMakeR C sp E tNil) := by
  constructor
  intro pins s σ H Q I h
  refine wpAny_Call_Name_kw (ld_glob I hg hm ?_ hdb)
  exact PySem.W.callWith_K0 I.kIn M.kp (StX.run_makeR (us := []) M F hr hx I .nil h)
def rStrI : List V → Hp → VK → Prop := fun xs H Q => ∃ i : Int, xs = [.int i] ∧ i.natAbs.log2 < 1920 ∧ Q (.str (toString i)) H
theorem call_strZ {X : Cx} : CallR X (.type "str") rStrI := call_str_int
end Z
namespace Z
open PySem PySem.Spec PyProof.Rows L2
/-! ### C.m(..), m a staticmethod of the class C -/
structure SMet (K : PySem.W.Frag) (C : Addr) (mc : Value) (m : Str) (p g : Addr) : Prop where
  at_ : PySem.W.findCls K (.ref C) mc m = some (.get (.builtin "staticmethod.__get__") (.ref p) .none (.ref C))
  rc : ∃ rest, PySem.W.recIn K p "staticmethod" = some (.ref g :: rest)
  kp : PySem.W.keepIn K (.ref g) = true
def tSMeth (C : Addr) (sp : Sp) (E : XK) (ta : TE) (t : TA) : TE := fun σ H Q => ta σ H fun x H1 => x = .ref C ∧ t σ H1 fun vs H2 => sp vs H2 Q E
section
variable {X : Cx} {CX : CXT} {k : Nat} {C p g : Addr} {mc : Value} {sp : Sp} {E : XK} {o e : Expr} {es : List Expr} {m : Str} {pos apos : Pos} {ta : TE} {t : TA} {pl : Sem Bool}
theorem pe_smeth (he : PE X o ta) (r : ClX.CRead X.K C mc) (c : SMet X.K C mc m p g) (F : FnR X.prog X.w X.K X.mg X.base CX k g sp) (hr : Room k X.A) (hx : Passes CX X E) (ha : PA X (e :: es) t)
    (hst : starEach (e :: es) X.env = (false, eval e X.env) :: starEach es X.env := by rfl) (hpl : (backTo pos (starEach es X.env)).any (·.1) = false := by rfl)
    (ht : eval (.Call (.Attribute o m apos) (e :: es) [] pos) X.env = (do
      let ov ← eval o X.env
      standAt apos.atName
      let (f, first) ← holding [ov] (getMethod ov m pl)
      callWith pos f first (backTo pos (starEach (e :: es) X.env)) (backToKw pos (keywordEach [] X.env))) := by rfl) :
    PE X (.Call (.Attribute o m apos) (e :: es) [] pos) (tSMeth C sp E ta t) := by
  refine ⟨fun pins s σ H Q I h => ?_⟩
  refine PySem.W.methodCall_KW (pl := pl) (thn (he.run pins s σ H _ I h) fun u s1 ⟨x, H1, I1, rx, ex, q⟩ => ?_) ht
  subst ex
  obtain rfl : u = Value.ref C := rx
  obtain ⟨rest, hp⟩ := c.rc
  refine PySem.W.method_cls I1.kIn r.ga (PySem.W.cls_bind I1.kIn r.rd c.at_ ?_)
  refine wpAny_call (PySem.W.sm_get (s := { s1 with toks := s1.toks + 1 }) (show X.K.In s1.heap from I1.kIn) hp (PySem.W.handed_on rfl ?_))
  have I2 := I1.tok (t := s1.toks + 1)
  refine PySem.W.callWith_K (h₀ := X.base) I2.ok.mod.kin c.kp (thn (ha.run pos pins _ σ H1 _ I2 q) ?_) hst hpl
  rintro us s3 ⟨vs, H2, I3, rv, q2⟩
  exact ⟨I3.kIn, wpAny_call (run_fnR (us := us) (vs := vs) F hr hx I3 rv q2)⟩
end
/-! ### int of a text, a cut of a text -/
def rIntS : List V → Hp → VK → Prop := fun xs H Q => match xs with
  | [.str a] => ∃ n, PySem.intText? a = some n ∧ a.length ≤ 640 ∧ Q (.int n) H
  | xs => rInt1 xs H Q
theorem call_intS {X : Cx} : CallR X (.type "int") rIntS := by
  intro pins s σ H xs us Q I r h
  unfold rIntS at h
  split at h
  · obtain ⟨n, h1, h2, q⟩ := h
    exact call_int_str pins s σ H _ us Q I r ⟨_, n, rfl, h1, h2, q⟩
  · exact call_intZ pins s σ H _ us Q I r h
end Z
namespace Z
open PySem PySem.Spec PyProof.Rows L2
/-! ### an exception as a thing that is tracked -/
def ExV (cls : Value) (d : Option Addr) (a : Addr) : HO := .ext fun h => ∃ (oe : Obj) (vs : Array Value), h.get? a = some oe ∧ Zc cls d oe ∧ oe.data = .fields vs
theorem exV_ok {P : Program} {w : World} {H : Hp} {h : Heap} {a : Addr} {cls : Value} {d : Option Addr} {oe : Obj} (e : h.get? a = some oe) (z : Zc cls d oe) (f : ∃ vs, oe.data = .fields vs) : ObjOk P w H h a (ExV cls d a) := by
  obtain ⟨vs, f⟩ := f
  exact ⟨⟨oe, vs, e, z, f⟩, ⟨oe, e⟩, fun _ _ ⟨o, v, q, r⟩ k => ⟨o, v, k o q, r⟩⟩
section
variable {X : Cx} {pins : List (Addr × Obj)} {σ : St} {H : Hp} {s : Shared} {a : Addr} {o : HO}
/-- what stands there, new since the entry, is tracked from now on -/
theorem track (I : Inv X pins σ H s) (hn : H a = none) (hc : ∃ ob vs, s.heap.get? a = some ob ∧ ob.data = .fields vs) (n0 : ∀ ob, X.s_0.heap.get? a = some ob → a ∉ X.ex → False) (nL : a ≠ X.env.locals)
    (np : ∀ p ∈ X.pn ++ pins, p.1 ≠ a) (new : ObjOk X.prog X.w (upd H a o) s.heap a o) : Inv X pins σ (upd H a o) s := by
  have ne : ∀ {b : Addr} {u : HO}, H b = some u → b ≠ a := fun e z => by rw [z, hn] at e; cases e
  have up : ∀ {b : Addr} {u : HO}, H b = some u → upd H a o b = some u := fun e => by rw [upd_ne (ne e)]; exact e
  have B := I.base
  refine ⟨I.ok, I.os, I.bare, ⟨B.keep, B.slot, ?_, B.there, ?_, ?_, ?_⟩, I.loc, I.cell, ?_, ?_, ?_, ?_, I.len⟩
  · intro b ob e n hx
    have nb : b ≠ a := fun z => n0 ob (z ▸ e) (z ▸ hx)
    rw [upd_ne nb]
    exact B.free b ob e n hx
  · intro b xs e
    exact up (B.tups b xs e)
  · intro b ob u e
    exact up (B.frzs b ob u e)
  · intro b ps e
    obtain ⟨m, q⟩ := B.tbls b ps e
    exact ⟨m, up q⟩
  · rw [upd_ne nL.symm]
    exact I.free
  · intro x c e
    have nc : c ≠ a := fun z => by
      obtain ⟨v, ob, e1, d1⟩ := I.cell x c e
      obtain ⟨ob2, vs, e2, d2⟩ := hc
      rw [z, e2] at e1
      cases e1
      rw [d2] at d1
      cases d1
    rw [upd_ne nc]
    exact I.freeC x c e
  · intro p hp
    obtain ⟨e, n, r⟩ := I.pin p hp
    exact ⟨e, by rw [upd_ne (np p hp)]; exact n, r⟩
  · intro b u e
    by_cases hb : b = a
    · subst hb
      rw [upd_same] at e
      cases e
      exact new
    · rw [upd_ne hb] at e
      exact (I.hok b u e).stay (fun _ _ _ q => q) (fun _ q => up q) fun _ _ q => up q
end
/-! ### its fields, its class -/
structure ExT (K : PySem.W.Frag) (C : Addr) : Prop where
  xf : XfC K C
  cl : (PySem.W.clsIn K C).isSome = true
  ha : PySem.W.findIn K (.ref C) "__class__" = some (some (.builtin "object.__class__"))
  hn : PySem.W.specialIn K (.builtin "object.__class__") "__get__" = some (some (.builtin "getset_descriptor.__get__"))
  ht : PySem.W.takesIn K (.builtin "object.__class__") = some true
  hm : PySem.W.mroIn K C (.type "object") = some true
/-- an exception of the class at C with these fields -/
def ExA (H : Hp) (a C : Addr) (fs : List (Str × V)) : Prop := ∃ dd, H a = some (ExV (.ref C) (some dd) a) ∧ H dd = some (.xd fs)
theorem ExA.same {H H' : Hp} {a C : Addr} {fs : List (Str × V)} (s : Same H H') (h : ExA H a C fs) : ExA H' a C fs := by
  obtain ⟨dd, h1, h2⟩ := h
  exact ⟨dd, s _ _ h1, s _ _ h2⟩
def tXv (C : Addr) (f : Str) (te : TE) : TE := fun σ H Q => te σ H fun x H1 => ∃ (a : Addr) (fs : List (Str × V)) (v : V), x = .ref a ∧ ExA H1 a C fs ∧ fs.lookup f = some v ∧ Q v H1
/-- isinstance(e, c) -/
def rIsV (K : PySem.W.Frag) : List V → Hp → VK → Prop := fun xs H Q => ∃ (a C : Addr) (fs : List (Str × V)) (c : V) (u : Value) (b : Bool), xs = [.ref a, c] ∧ ExA H a C fs ∧ ExT K C ∧ ClsV c u ∧ PySem.W.kitOne K (.ref C) u = some b ∧ Q (.bl b) H
def rIsVT (K : PySem.W.Frag) : List V → Hp → VK → Prop := fun xs H Q => ∃ (a C tp : Addr) (fs : List (Str × V)) (cs : List V) (us : List Value) (b : Bool), xs = [.ref a, .ref tp] ∧ H tp = some (.tup cs) ∧ Paired ClsV cs us ∧ ExA H a C fs ∧ ExT K C ∧
  PySem.W.kitAny K (.ref C) us = some b ∧ Q (.bl b) H
section
variable {X : Cx}
theorem exa_at {pins : List (Addr × Obj)} {σ : St} {H : Hp} {s : Shared} {a C : Addr} {fs : List (Str × V)} (I : Inv X pins σ H s) (h : ExA H a C fs) :
    ∃ (oe od : Obj) (mA : Str → Option Value), PySem.W.InstAt s.heap a oe C (some od) ∧ (∀ f, PySem.W.lookIn f od = some (mA f)) ∧ ∀ f, RelO (fs.lookup f) (mA f) := by
  obtain ⟨dd, e1, e2⟩ := h
  obtain ⟨⟨oe, vs, ho, hz, hd⟩, _, _⟩ := I.hok a _ e1
  obtain ⟨mA, ns, rel⟩ := (show ObjOk X.prog X.w H s.heap dd (.xd fs) from I.hok dd _ e2)
  obtain ⟨od, h1, h2⟩ := lookIn_ns ns
  refine ⟨oe, od, mA, ⟨ho, hz.1, ?_, ?_⟩, h2, rel⟩
  · unfold PySem.W.notCls
    rw [hd]
  · rw [hz.2]
    exact h1
theorem pe_xv {C : Addr} {e : Expr} {te : TE} {pos : Pos} {n : Str} (T : ExT X.K C) (hno : PySem.W.findIn X.K (.ref C) n = some none) (he : PE X e te) (hb : attributeBase e n X.env (eval e X.env) = eval e X.env := by rfl) :
    PE X (.Attribute e n pos) (tXv C n te) := by
  constructor
  intro pins s σ H Q I h
  refine attr_of hb (thn (he.run pins s σ H _ I h) ?_)
  rintro u s1 ⟨x, H1, I1, rx, a, fs, v, rfl, ha, hl, q⟩
  obtain rfl : u = Value.ref a := rx
  obtain ⟨oe, od, mA, J, lk, rel⟩ := exa_at I1 ha
  obtain ⟨u, hu, ru⟩ := RelO.some_of (v := v) (o := mA n) (by rw [← hl]; exact rel n)
  exact HandSPX.exc_get I1.kIn J T.xf.ga T.xf.gg T.xf.exC (PySem.W.findObj_own T.xf.hdC hno rfl (by rw [lk, hu])) (handed_of ru) ⟨v, H1, I1.tok _, ru, q⟩
theorem call_isV : CallR X (.builtin "isinstance") (rIsV X.K) := by
  intro pins s σ H xs us Q I r h
  obtain ⟨a, C, fs, c, cv, b, rfl, ha, T, k, e, q⟩ := h
  obtain ⟨u1, u2, rfl, r1, r2⟩ := vals2 r
  have e2 := k.eq r2
  subst e2
  obtain rfl : u1 = Value.ref a := r1
  obtain ⟨oe, od, mA, J, _⟩ := exa_at I ha
  exact PySem.W.kia_one (PySem.W.kitx_exc T.cl T.xf.ga T.xf.gg T.xf.exC T.ha T.hn T.ht T.hm) I.kIn J e (fun z => nomatch z) fun tk => ⟨.bl b, H, I.tok tk, rfl, q⟩
theorem call_isVT : CallR X (.builtin "isinstance") (rIsVT X.K) := by
  intro pins s σ H xs us Q I r h
  obtain ⟨a, C, tp, fs, cs, ws, b, rfl, hT, k, ha, T, e, q⟩ := h
  obtain ⟨u1, u2, rfl, r1, r2⟩ := vals2 r
  obtain rfl : u1 = Value.ref a := r1
  obtain rfl : u2 = Value.ref tp := r2
  obtain ⟨oe, od, mA, J, _⟩ := exa_at I ha
  obtain ⟨_, its, rv, ⟨oc, od2, dt, sl⟩, h1, h2, n, h3⟩ := (show ObjOk X.prog X.w H s.heap tp (.tup cs) from I.hok tp _ hT)
  have e3 := ClsV.all k rv
  simp only at h2 h3
  subst e3 h2 h3
  exact PySem.W.kia_tup (PySem.W.kitx_exc T.cl T.xf.ga T.xf.gg T.xf.exC T.ha T.hn T.ht T.hm) I.kIn J h1 e (fun z => nomatch z) fun tk => ⟨.bl b, H, I.tok tk, rfl, q⟩
end
theorem kit_cls {K : PySem.W.Frag} {t : Value} {C : Addr} {b : Bool} (ne : (t == Value.ref C) = b) (hc : (PySem.W.clsIn K C).isSome = true) (ht : PySem.W.typeIn K (.ref C) = some (.type "type")) (hs : PySem.W.subIn K t (.ref C) = some b) : PySem.W.kitOne K t (.ref C) = some b := by
  unfold PySem.W.kitOne PySem.W.kitCls
  cases b with
  | true => rw [if_pos ne]
  | false =>
    rw [ne]
    simp [hc, ht, hs]
theorem kit_bt {K : PySem.W.Frag} {C : Addr} {T : String} {b : Bool} (hm : PySem.W.kitMeta T = true) (hs : PySem.W.subIn K (.ref C) (.type T) = some b) : PySem.W.kitOne K (.ref C) (.type T) = some b := by
  unfold PySem.W.kitOne PySem.W.kitCls
  rw [if_neg (by simp)]
  show (if PySem.W.kitMeta T = true then PySem.W.subIn K (.ref C) (.type T) else none) = some b
  rw [if_pos hm]
  exact hs
theorem kit_one {K : PySem.W.Frag} {t : Value} : PySem.W.kitOne K t t = some true := by
  unfold PySem.W.kitOne
  rw [if_pos (beq_self_eq_true _)]
theorem kit_ne {K : PySem.W.Frag} {D C : Addr} (h1 : PySem.W.subIn K (.ref D) (.ref D) = some true) (h2 : PySem.W.subIn K (.ref D) (.ref C) = some false) : (Value.ref D == Value.ref C) = false := by
  rw [beq_eq_false_iff_ne]
  intro e
  rw [← e, h1] at h2
  cases h2
/-! ### try: body / except x as n: suite, what is caught always of that class -/
def wAsV (K : PySem.W.Frag) (c : Value) (i : Nat) (ts : TS) (D : Ends) : WX := fun cls d σ H => PySem.W.exmOne K cls c = some true ∧
  ∀ a, H a = none → ts { nx := fun σ' H' => D.nx (σ'.set i none) H', rt := D.rt, bk := fun σ' H' => D.bk (σ'.set i none) H', ct := fun σ' H' => D.ct (σ'.set i none) H' } (σ.set i (some (.ref a))) (upd H a (ExV cls d a))
/-- the exception on the ground, its name still to be given -/
structure Gr (X : Cx) (pins : List (Addr × Obj)) (σ : St) (H : Hp) (cls : Value) (d : Option Addr) (a : Addr) (B : Heap) (s : Shared) : Prop where
  inv : Inv X pins σ H s
  fl : HandSPX.FlyingZ B (X.env :: X.outer) a (Zc cls d) s.heap
  new : H a = none
  n0 : ∀ ob, X.s_0.heap.get? a = some ob → a ∉ X.ex → False
  nL : a ≠ X.env.locals
  np : ∀ p ∈ X.pn ++ pins, p.1 ≠ a
theorem Gr.of {X : Cx} {pins : List (Addr × Obj)} {σ : St} {H : Hp} {cls : Value} {d : Option Addr} {a : Addr} {B : Heap} {sI s : Shared} (hs : X.stack = X.env :: X.outer) (hf : X.env.frame = some X.env.locals) (J : Inv X pins σ H sI)
    (nb : ∀ b o, sI.heap.get? b = some o → b ∉ frs X.stack → B.get? b = some o) (fl : HandSPX.FlyingZ B (X.env :: X.outer) a (Zc cls d) s.heap) (up : sI.heap.UpToSlots s.heap) (os : s.os = sI.os) (ag : AllBare s.gens) (na : H a = none) : Gr X pins σ H cls d a B s := by
  obtain ⟨oe, vs, he, hz, hd⟩ := fl.there
  have nfr : a ∉ frs (X.env :: X.outer) := fun hm => by
    obtain ⟨_, o2, e2, hn⟩ := fl.2.2.1.mem hm
    rw [he] at e2
    cases e2
    exact hn _ hd
  have gone : ∀ o, sI.heap.get? a = some o → False := fun o e => by
    have := nb a o e (by rw [hs]; exact nfr)
    rw [fl.2.1] at this
    cases this
  refine ⟨J.landed nb fl.1 up os ag, fl, na, fun ob e hx => ?_, fun z => ?_, fun p hp z => ?_⟩
  · obtain ⟨o2, q⟩ := J.base.there a ob e hx
    exact gone _ q
  · exact nfr (List.mem_filterMap.mpr ⟨X.env, List.mem_cons_self, by rw [hf, z]⟩)
  · obtain ⟨e, _⟩ := J.pin p hp
    rw [z] at e
    exact gone _ e
/-- into the suite, the exception tracked -/
theorem Gr.suite {X : Cx} {pins : List (Addr × Obj)} {σ : St} {H : Hp} {cls : Value} {d : Option Addr} {a : Addr} {B : Heap} {s : Shared} (G : Gr X pins σ H cls d a B s) : Inv (X.suite a (X.pn ++ pins)) [] σ (upd H a (ExV cls d a)) s := by
  obtain ⟨oe, vs, he, hz, hd⟩ := G.fl.there
  have T := track G.inv G.new ⟨oe, vs, he, hd⟩ G.n0 G.nL G.np (exV_ok he hz ⟨vs, hd⟩)
  exact ⟨T.ok.suite _ _, T.os, T.bare, T.base, T.loc, T.cell, T.free, T.freeC, fun p hp => T.pin p (by simpa using hp), T.hok, T.len⟩
theorem unsuite {X : Cx} {pins : List (Addr × Obj)} {σ : St} {H : Hp} {a : Addr} {s : Shared} (ok : X.Ok) (I : Inv (X.suite a (X.pn ++ pins)) [] σ H s) : Inv X pins σ H s :=
  ⟨ok, I.os, I.bare, I.base, I.loc, I.cell, I.free, I.freeC, fun p hp => I.pin p (by simpa using hp), I.hok, I.len⟩
section
variable {X : Cx} {x n : Str} {c : Value} {i : Nat} {body suite : List Stmt} {b₀ : Stmt} {np pos pos' : Pos} {tb : WX → TS} {ts : TS}
theorem ps_try_asV (hs : X.stack = X.env :: X.outer) (hf : X.env.frame = some X.env.locals) (hN : X.N.Nodup) (hi : X.N[i]? = some n) (hln : X.env.kindOf n = some .local) (hc : Names X x c)
    (hb : ∀ (W : WX) (pn : List (Addr × Obj)) (xe : Value → Shared → Prop), Takes (X.tr pn xe) W → PassesOwn (model X.prog X.w) X.A X.env xe → PSs (X.tr pn xe) body (tb W))
    (hsu : ∀ (a : Addr) (pn : List (Addr × Obj)), PSs (X.suite a pn) (b₀ :: suite) ts) :
    PS X (.Try body [.ExceptHandler (some (.Name x np)) (some n) (b₀ :: suite) pos'] [] [] pos) (fun D σ H => tb (wAsV X.K c i ts D) D σ H) := by
  constructor
  intro pins s σ H D I h
  have ok := I.ok
  -- behind the suite
  have out : ∀ (a : Addr) (f : Flow) (s6 : Shared), SP (X.suite a (X.pn ++ pins)) [] { nx := fun σ' H' => D.nx (σ'.set i none) H', rt := D.rt, bk := fun σ' H' => D.bk (σ'.set i none) H', ct := fun σ' H' => D.ct (σ'.set i none) H' } f s6 →
      wpAny (model X.prog X.w) X.A (do bindName X.env n .none; unbindBehindTheSuite X.env n pos') (fun _ s7 => SP X pins D f s7) X.xe s6 := by
    intro a f s6 q
    cases f with
    | next =>
      obtain ⟨σ6, H6, S6, q6⟩ := q
      exact gone_ok (unsuite ok S6) hN hi hln fun s7 J7 => ⟨_, _, J7, q6⟩
    | brk =>
      obtain ⟨σ6, H6, S6, q6⟩ := q
      exact gone_ok (unsuite ok S6) hN hi hln fun s7 J7 => ⟨_, _, J7, q6⟩
    | cont =>
      obtain ⟨σ6, H6, S6, q6⟩ := q
      exact gone_ok (unsuite ok S6) hN hi hln fun s7 J7 => ⟨_, _, J7, q6⟩
    | ret u =>
      obtain ⟨v6, σ6, H6, S6, r6, q6⟩ := q
      exact gone_ok (unsuite ok S6) hN hi hln fun s7 J7 => ⟨_, _, _, J7, r6, q6⟩
  -- behind the body
  have done : ∀ (f : Flow) (s1 : Shared), SP (X.tr (X.pn ++ pins) (fun e s₁ => wpAny (model X.prog X.w) X.A (noteFrame e X.env) (fun _ s₂ => wpAny (model X.prog X.w) X.A (setFlight e none) (fun _ s₃ =>
      wpAny (model X.prog X.w) X.A (handleBy e X.env [.ExceptHandler (some (.Name x np)) (some n) (b₀ :: suite) pos']) (SP X pins D) X.xe s₃) X.xe s₂) X.xe s₁)) [] D f s1 →
      (match f with | .next => wpAny (model X.prog X.w) X.A (execs [] X.env) (SP X pins D) X.xe s1 | f => SP X pins D f s1) := by
    intro f s1 q
    cases f with
    | next =>
      obtain ⟨σ2, H2, J2, q2⟩ := q
      exact wpAny_execs_nil ⟨σ2, H2, J2.ofTry ok, q2⟩
    | brk =>
      obtain ⟨σ2, H2, J2, q2⟩ := q
      exact ⟨σ2, H2, J2.ofTry ok, q2⟩
    | cont =>
      obtain ⟨σ2, H2, J2, q2⟩ := q
      exact ⟨σ2, H2, J2.ofTry ok, q2⟩
    | ret u =>
      obtain ⟨v, σ2, H2, J2, r, q2⟩ := q
      exact ⟨v, σ2, H2, J2.ofTry ok, r, q2⟩
  refine wpAny_Try_except (wpAny_mono ((hb (wAsV X.K c i ts D) (X.pn ++ pins) _ ?_ PassesOwn.looking).run [] s σ H D (I.toTry _) h) done fun _ _ q => q)
  rintro u s1 ⟨a, B, sI, pins2, σ1, H1, cls, d, rfl, J2, nb, up, sky, na, os, ag, hm, hy⟩
  have J := J2.ofTry (pins := pins) ok
  have frames : X.A.frames = some (X.env :: X.outer) := by rw [ok.frames, hs]
  refine Sky.land Zc.steady frames hf (show Sky B (X.env :: X.outer) a (Zc cls d) X.env.locals s1.heap by rw [← hs]; exact sky) fun h3 fl3 up3 => ?_
  have G3 : Gr X pins σ1 H1 cls d a B { s1 with heap := h3 } := Gr.of hs hf J nb fl3 (up.trans up3) os ag na
  have S3 := G3.suite
  obtain ⟨oe, vs, he, hz, _⟩ := fl3.there
  refine wpAny_handleBy_cons (codeAny_handlers_test ?_) (by intro q; cases q)
  have ty : PySem.W.Looks (model X.prog X.w) h3 (typeOf (.ref a)) cls := fun A Q E s k q => wpAny_typeOf_ref (k _ _ he) (by rw [hz.1]; exact q)
  have mt := PySem.W.exm_one (M := model X.prog X.w) G3.inv.kIn ty hm
  have nm : ∀ {Q E : Value → Shared → Prop}, Q c { s1 with heap := h3 } → wpAny (model X.prog X.w) (X.A.mark (some (.ref a))) (eval (.Name x np) X.env) Q E { s1 with heap := h3 } := by
    intro Q E q
    obtain ⟨hg, hd, h1 | ⟨h1, h2, h3⟩⟩ := hc
    · exact ld_glob (X := X.suite a (X.pn ++ pins)) S3 hg h1 q hd
    · exact ld_blt (X := X.suite a (X.pn ++ pins)) S3 hg h1 h2 q h3 hd
  refine nm (mt.here (codeAny_handlers_suite_as (HandSPX.lands_againZ fl3 fun h4 fl4 up4 => ?_)))
  have G4 : Gr X pins σ1 H1 cls d a B { s1 with heap := h4 } := Gr.of hs hf J nb fl4 ((up.trans up3).trans up4) os ag na
  refine store_ok (X := X.suite a (X.pn ++ pins)) (v := .ref a) G4.suite hN hi (.inl hln) rfl (fun s5 S5 => ?_) (.inr hln)
  exact wpAny_mono ((hsu a (X.pn ++ pins)).run [] s5 _ _ _ S5 (hy a na)) (fun f s6 q => out a f s6 q) fun _ _ z => z.elim
end
/-! ### exceptions out of C.m(..) and C(..), by the state of the slots -/
def tCMethS (C : Addr) (sp : Sp) (E : St → XK) (ta : TE) (t : TA) : TE := fun σ H Q => ClX.tCMeth C sp (E σ) ta t σ H Q
def tMakeRS (C : Addr) (sp : Sp) (E : St → XK) (t : TA) : TE := fun σ H Q => StX.tMakeR C sp (E σ) t σ H Q
section
variable {X : Cx} {gd : Bool} {k : Nat} {C f g p : Addr} {fd : FuncData} {ps : List Str} {mc : Value} {sp : Sp} {E : St → XK} {o e : Expr} {es : List Expr} {x m : Str} {pos apos np : Pos} {ta : TE} {t : TA} {pl : Sem Bool}
theorem pe_cmethS (he : PE X o ta) (r : ClX.CRead X.K C mc) (c : ClX.CMet X.K C mc m p g) (F : FnG gd X.prog X.w X.K X.mg X.base k g fd ps sp) (hr : Room k X.A) (hgu : gd = true → X.A.guards = some []) (hb : Binds X.K fd ps []) (hx : ∀ σ, PassesAt (L2.CX X.prog X.w) X σ (E σ)) (ha : PA X (e :: es) t)
    (hst : starEach (e :: es) X.env = (false, eval e X.env) :: starEach es X.env := by rfl) (hpl : (backTo pos (starEach es X.env)).any (·.1) = false := by rfl)
    (ht : eval (.Call (.Attribute o m apos) (e :: es) [] pos) X.env = (do
      let ov ← eval o X.env
      standAt apos.atName
      let (f, first) ← holding [ov] (getMethod ov m pl)
      callWith pos f first (backTo pos (starEach (e :: es) X.env)) (backToKw pos (keywordEach [] X.env))) := by rfl) :
    PE X (.Call (.Attribute o m apos) (e :: es) [] pos) (tCMethS C sp E ta t) := by
  constructor
  intro pins s σ H Q I h
  refine PySem.W.methodCall_KW (pl := pl) (thn (he.run pins s σ H _ I h) ?_) ht
  rintro u s1 ⟨z, H1, I1, rz, rfl, q⟩
  obtain rfl : u = Value.ref C := rz
  refine ClX.getmethcm_ok I1 r c fun s2 I2 => ClX.callwith_cm I2 (ClX.base_none I1 (Nat.le_refl _)) c.fi (thn (ha.run pos _ s2 σ H1 _ I2 q) ?_) hst hpl
  rintro us s3 ⟨vs, H2, I3, rv, q2⟩
  have rc : Vals (V.ref C :: vs) (Value.ref C :: us) := .cons rfl rv
  have hl : (Value.ref C :: us).length = ps.length := rc.length.symm.trans (F.len _ _ _ _ q2)
  have z : wpAny (model X.prog X.w) X.A (call (.ref s1.heap.objs.size) us) (EP X ((s1.heap.objs.size, PySem.W.methodObj (.ref g) (.ref C)) :: pins) σ Q) X.xe s3 := by
    refine wpAny_call (PySem.W.method_call (ClX.pin_at I3) ?_)
    refine codeAny_mono (F.run X.A X.stack s3 H2 ⟨Value.ref C :: us, []⟩ (Value.ref C :: us) (V.ref C :: vs) Q (E σ) hr hgu I3.env0 (by simpa using hb s3 (Value.ref C :: us) I3.kIn (by simpa using hl)) rc q2) fun w s4 hq => ?_
    cases w with
    | error er => exact hx σ _ H2 s3 er s4 I3 hq
    | ok fl =>
      cases fl with
      | ret u => exact I3.after hq
      | next => exact hq.elim
      | brk => exact hq.elim
      | cont => exact hq.elim
  exact ⟨⟨ClX.pin_at I3, I3.kIn⟩, thn z fun _ _ y => ClX.unpinE y⟩
theorem pe_makeRS (M : Mk X.K C f) (F : FnR X.prog X.w X.K X.mg X.base (L2.CX X.prog X.w) k f sp) (hr : Room (k + 1) X.A) (hg : Gl X x) (hm : X.mg x = some (.ref C)) (hx : ∀ σ, PassesAt (L2.CX X.prog X.w) X σ (E σ)) (ha : PA X (e :: es) t)
    (hdb : (x == ("__debug__" : Str)) = false := by decide) (he : starEach (e :: es) X.env = (false, eval e X.env) :: starEach es X.env := by rfl) (hpl : (backTo pos (starEach es X.env)).any (·.1) = false := by rfl) :
    PE X (.Call (.Name x np) (e :: es) [] pos) (tMakeRS C sp E t) := by
  constructor
  intro pins s σ H Q I h
  refine wpAny_Call_Name_kw (ld_glob I hg hm ?_ hdb)
  refine PySem.W.callWith_K (h₀ := X.base) I.ok.mod.kin M.kp (thn (ha.run pos pins s σ H _ I h) ?_) he hpl
  rintro us s1 ⟨vs, H1, I1, rv, q⟩
  refine ⟨I1.kIn, wpAny_call ?_⟩
  have hq := q _ _ (I1.hok.fresh (Nat.le_succ s1.heap.objs.size)) (I1.hok.fresh (Nat.le_refl s1.heap.objs.size)) (Nat.ne_of_lt (Nat.lt_succ_self _))
  have I2 := Inv.made (C := C) I1
  have rc : Vals (V.ref (s1.heap.objs.size + 1) :: vs) (Value.ref (s1.heap.objs.size + 1) :: us) := .cons rfl rv
  refine make_map (f := f) I1.kIn M.makes M.init (beq_iff_eq.mp M.fn) (codeAny_mono (F _ X.stack _ _ _ _ _ (E σ) (hr.make C us []) (I2.env0.make C us []) rc hq) fun w s4 hw => ?_)
  cases w with
  | error er => exact hx σ pins _ _ er s4 I2 hw
  | ok fl =>
    cases fl with
    | ret u =>
      obtain ⟨v, H3, I3, r3, e3, q3⟩ := I2.after hw
      subst e3
      exact ⟨r3, ⟨V.ref (s1.heap.objs.size + 1), H3, I3, rfl, q3⟩⟩
    | next => exact hw.elim
    | brk => exact hw.elim
    | cont => exact hw.elim
end
end Z
namespace Z
open PySem PySem.Spec PyProof.Rows L2
open PySem.SeqAt PySem.MeetsSeq PySem.MeetsSeq2 PySem.MeetsSeq3 PySem.SeqRoads2
open PySem.AutoSeq1 (wpAny_loadPart')
/-! ### == of a flat thing and a dict -/
section
variable {A : Around} {s : Shared}
/-- a dict as it stands -/
def DictO (h : Heap) (l : Addr) : Prop := ∃ (dd : Option Addr) (es : Array DictEntry) (ep : Nat) (sl : Array (Option Value)), h.get? l = some { cls := .type "dict", dict := dd, data := .dict es ep, slots := sl }
theorem dict_declines {prog : Program} {w : World} {E : Value → Shared → Prop} {l : Addr} {v : Value} {Q : Value → Shared → Prop} (hl : DictO s.heap l) (hv : v = .none ∨ (∃ i t, v = .int i t) ∨ ∃ z t, v = .str z t) (q : Q .notImplemented s) :
    wpAny (model prog w) A (call (.builtin "dict.__eq__") [.ref l, v]) Q E s := by
  obtain ⟨dd, es, ep, sl, hl⟩ := hl
  refine GQ.call_here F.slot_dict_eq ⟨_, hl, rfl⟩ F.entry_dict_eq (F.args_dict_eq_2 _ _) ?_
  obtain ⟨hp, g, d, tk, os⟩ := s
  have f1 := F.sub_NoneType_dict
  have f2 := F.sub_int_dict
  have f3 := F.sub_str_dict
  rcases hv with rfl | ⟨i, t, rfl⟩ | ⟨z, t, rfl⟩
  · wp_walk using wpAny_loadPart' hl, wpAny_load hl
    exact q
  · wp_walk using wpAny_loadPart' hl, wpAny_load hl
    exact q
  · wp_walk using wpAny_loadPart' hl, wpAny_load hl
    exact q
theorem int_declines {prog : Program} {w : World} {E : Value → Shared → Prop} {l : Addr} {i : Int} {t : Tok} {Q : Value → Shared → Prop} (hl : DictO s.heap l) (q : Q .notImplemented s) : wpAny (model prog w) A (call (.builtin "int.__eq__") [.int i t, .ref l]) Q E s := by
  obtain ⟨dd, es, ep, sl, hl⟩ := hl
  refine GQ.call_here F.slot_int_eq (typeIs_int s i t) F.entry_int_eq (F.args_int_eq_2 _ _) ?_
  obtain ⟨hp, g, d, tk, os⟩ := s
  wp_walk using wpAny_loadPart' hl, wpAny_load hl
  exact q
theorem str_declines {prog : Program} {w : World} {E : Value → Shared → Prop} {l : Addr} {z : Str} {t : Tok} {Q : Value → Shared → Prop} (hl : DictO s.heap l) (q : Q .notImplemented s) : wpAny (model prog w) A (call (.builtin "str.__eq__") [.str z t, .ref l]) Q E s := by
  obtain ⟨dd, es, ep, sl, hl⟩ := hl
  refine GQ.call_here F.slot_str_eq (typeIs_str s z t) F.entry_str_eq (F.args_str_eq_2 _ _) ?_
  obtain ⟨hp, g, d, tk, os⟩ := s
  wp_walk using wpAny_loadPart' hl, wpAny_load hl
  exact q
theorem eq_dict {l : Addr} {v : Value} (hl : DictO s.heap l) (hu : A.units < cLine) (hv : v = .none ∨ (∃ i t, v = .int i t) ∨ ∃ z t, v = .str z t) : EqAt A s v (.ref l) false := by
  intro prog w E Q h
  have ty : s.TypeIs (.ref l) "dict" := by
    obtain ⟨dd, es, ep, sl, hl⟩ := hl
    exact ⟨_, hl, rfl⟩
  have rc : wpAny (model prog w) A (richCompare .Eq v (.ref l)) (fun u s' => u = .bool false ∧ s' = s) E s := by
    rcases hv with rfl | ⟨i, t, rfl⟩ | ⟨z, t, rfl⟩
    · exact rc_eq_decline_or (k := false) (Ta := "NoneType") rfl ty (by decide) F.sub_dict_NoneType F.slot_NoneType_eq F.slot_dict_eq_refl (fun _ hq => dec_none hq) (fun _ hq => dict_declines hl (.inl rfl) hq)
        (fun _ hq => wpAny_of_eq (rfl : isSame .none (.ref l) = pure false) hq) (.inr hu) ⟨rfl, rfl⟩
    · exact rc_eq_decline_or (k := false) (typeIs_int s i t) ty (by decide) F.sub_dict_int F.slot_int_eq F.slot_dict_eq_refl (fun _ hq => int_declines hl hq) (fun _ hq => dict_declines hl (.inr (.inl ⟨_, _, rfl⟩)) hq)
        (fun _ hq => wpAny_of_eq (rfl : isSame (.int i t) (.ref l) = pure false) hq) (.inr hu) ⟨rfl, rfl⟩
    · exact rc_eq_decline_or (k := false) (typeIs_str s z t) ty (by decide) F.sub_dict_str F.slot_str_eq F.slot_dict_eq_refl (fun _ hq => str_declines hl hq) (fun _ hq => dict_declines hl (.inr (.inr ⟨_, _, rfl⟩)) hq)
        (fun _ hq => wpAny_of_eq (rfl : isSame (.str z t) (.ref l) = pure false) hq) (.inr hu) ⟨rfl, rfl⟩
  have fin : ∀ (u : Value) (s' : Shared), u = .bool false ∧ s' = s → wpAny (model prog w) A (truthOfDropped u) Q E s' := by
    rintro u s' ⟨rfl, rfl⟩
    exact wpAny_truthy_bool h
  rcases hv with rfl | ⟨i, t, rfl⟩ | ⟨z, t, rfl⟩
  · unfold eqBool
    exact wpAny_holding (wpAny_ite_split (fun e => absurd (eq_of_beq e) fun z => by cases z) fun _ => wpAny_bind (wpAny_mono rc fin fun _ _ z => z))
  · unfold eqBool
    exact wpAny_holding (wpAny_ite_split (fun e => absurd (eq_of_beq e) fun z => by cases z) fun _ => wpAny_bind (wpAny_mono rc fin fun _ _ z => z))
  · unfold eqBool
    exact wpAny_holding (wpAny_ite_split (fun e => absurd (eq_of_beq e) fun z => by cases z) fun _ => wpAny_bind (wpAny_mono rc fin fun _ _ z => z))
end
/-! ### x in l, l a list of tuples of flat things, x a tuple that begins with a dict -/
def tflat (v : V) : Prop := v = .non ∨ (∃ i, v = .int i) ∨ ∃ z, v = .str z
def rInDict (K : PySem.W.Frag) : R2 := fun x y H Q => ∃ (a d l : Addr) (v : V) (rs : List V) (kvs : List (Key × V)), x = .ref a ∧ y = .ref l ∧ SqT K H a [.ref d, v] ∧ H d = some (.dK kvs) ∧ tflat v ∧ SqL K H l rs ∧
  (∀ r ∈ rs, ∃ (b : Addr) (p q : V), r = .ref b ∧ SqT K H b [p, q] ∧ tflat p ∧ tflat q) ∧ Q (.bl false) H
def zInD (K : PySem.W.Frag) : R2 := fun x y H Q => rInD K x y H Q ∨ rInDict K x y H Q
theorem tflat_flat {v : V} (h : tflat v) : flatV v = true := by
  rcases h with rfl | ⟨i, rfl⟩ | ⟨z, rfl⟩ <;> rfl
section
variable {X : Cx}
theorem op_inDict (hu : X.A.units + 65 < cLine) : OpR X (compareOp .In) (rInDict X.K) := by
  intro pins s σ H x y v u Q I rx ry h
  obtain ⟨a, d, l, v2, rs, kvs, rfl, rfl, ha, hd, fv, hl, hr, q⟩ := h
  obtain rfl : v = Value.ref a := rx
  obtain rfl : u = Value.ref l := ry
  obtain ⟨its, rv, hl', _⟩ := I.list hl
  obtain ⟨xs, rx, px, _⟩ := I.tuple ha
  have dO : DictO s.heap d := by
    obtain ⟨_, _, vs, _, ⟨oc, od, dt, sl⟩, es, ep, e1, e2, e3, _⟩ := (show ObjOk X.prog X.w H s.heap d (.dK kvs) from I.hok d _ hd)
    have c1 := e2.1
    simp only at c1 e3
    subst c1 e3
    exact ⟨od, es, ep, sl, e1⟩
  obtain ⟨u1, u2, rfl, r1, r2⟩ := vals2 rx
  obtain rfl : u1 = Value.ref d := r1
  have he : ∀ y, y ∈ its.toArray → EqAt X.A.in1 s y (.ref a) ((fun _ => false) y) := by
    intro y hy
    obtain ⟨i, hi⟩ := List.getElem?_of_mem (show y ∈ its by simpa using hy)
    have li : i < rs.length := by
      rw [rv.length]
      exact (List.getElem?_eq_some_iff.mp hi).1
    obtain ⟨y2, hy2, ry⟩ := rv.get (List.getElem?_eq_getElem li)
    rw [hi] at hy2
    cases hy2
    obtain ⟨b, p, w, er, hb, fp, fw⟩ := hr _ (List.getElem_mem li)
    rw [er] at ry
    obtain rfl : y = Value.ref b := ry
    obtain ⟨zs, rz, pz, _⟩ := I.tuple hb
    obtain ⟨w1, w2, rfl, k1, k2⟩ := vals2 rz
    have ne : b ≠ a := by
      intro z
      subst z
      obtain ⟨o1, e1, _, n1, d1⟩ := px
      obtain ⟨o2, e2, _, n2, d2⟩ := pz
      rw [e1] at e2
      cases e2
      rw [d1] at d2
      injection d2 with d2
      have d3 := congrArg Array.toList d2
      simp only [List.cons.injEq] at d3
      obtain ⟨d4, _⟩ := d3
      rw [← d4] at k1
      rcases fp with rfl | ⟨i, rfl⟩ | ⟨z, rfl⟩
      · cases k1
      · obtain ⟨_, k1⟩ := k1; cases k1
      · obtain ⟨_, k1⟩ := k1; cases k1
    have rc := RcAt.tuples (A := X.A.in1) (e := fun j => if j = 0 then false else eqU v2 w2) (isTup_tuple pz) (isTup_tuple px) (show X.A.units + 1 < cLine by omega) (fun j h1 h2 => by
      have hj : j = 0 ∨ j = 1 := by
        have : j < 2 := by simpa using h1
        omega
      rcases hj with rfl | rfl
      · refine eq_dict dO (show X.A.units + 2 < cLine by omega) ?_
        rcases fp with rfl | ⟨i, rfl⟩ | ⟨z, rfl⟩
        · exact .inl k1
        · obtain ⟨t, k1⟩ := k1; exact .inr (.inl ⟨_, _, k1⟩)
        · obtain ⟨t, k1⟩ := k1; exact .inr (.inr ⟨_, _, k1⟩)
      · exact mem_eqAt r2 (tflat_flat fv) (xs := [w]) (us := [w2]) (.cons k2 .nil) (by simp [tflat_flat fw]) w2 (by simp))
    have e0 : ((List.range (min (#[w1, w2] : Array Value).size (#[Value.ref d, u2] : Array Value).size)).all (fun j => if j = 0 then false else eqU v2 w2) && (#[w1, w2] : Array Value).size == (#[Value.ref d, u2] : Array Value).size) = false := by
      simp [List.range_succ]
    exact EqAt.of_refs ne (by
      have rc' := rc
      rw [show ([w1, w2].toArray) = #[w1, w2] from rfl, show ([Value.ref d, u2].toArray) = #[Value.ref d, u2] from rfl, e0] at rc'
      exact rc')
  refine in_listAt (fun _ => false) hl'.isList he ?_
  have : its.toArray.any (fun _ => false) = false := by simp
  rw [this]
  exact ⟨.bl false, H, I, rfl, q⟩
theorem op_zInD (hu : X.A.units + 65 < cLine) : OpR X (compareOp .In) (zInD X.K) := OpR.or (op_inD hu) (op_inDict hu)
end
end Z
namespace Z
open PySem PySem.Spec PyProof.Rows L2
/-- xs.insert(i, y) -/
def rInsZ : V → List V → Hp → VK → Prop := fun x vs H Q => ∃ (l : Addr) (xs : List V) (i : Int) (y : V), x = .ref l ∧ vs = [.int i, y] ∧ H l = some (.lst xs) ∧ xs.length < sizeLine ∧ 0 ≤ i ∧ i < 2 ^ 63 ∧ Q .non (upd H l (.lst (xs.take i.toNat ++ [y] ++ xs.drop i.toNat)))
theorem mt_insZ {X : Cx} : MtR X "list.insert" rInsZ := mt_insert
theorem room65 {k : Nat} {A : Around} (r : Room k A) : A.units + 65 < cLine := by
  have := r.un
  omega
/-! ### repr of a list of things of any kind, dicts among them -/
def DpR2 (K : PySem.W.Frag) (H : Hp) (v : V) (d : PyData) : Prop := DpR K H v d ∨ ∃ (a b : Addr) (u : V) (du : PyData), v = .ref a ∧ SqT K H a [.ref b, u] ∧ H b = some (.dK []) ∧ flatD u = some du ∧ d = .tuple [.dict [], du]
def Rdd (h : Heap) (u : Value) (d : PyData) : Prop := ∃ as, Reads h u d as ∧ (d.hasDict = true → sysModules ∉ as)
theorem DpR2.reads {X : Cx} {pins : List (Addr × Obj)} {σ : St} {H : Hp} {s : Shared} (I : Inv X pins σ H s) {d : PyData} {v : V} {u : Value} (h : DpR2 X.K H v d) (r : RelV v u) : Rdd s.heap u d := by
  rcases h with h | ⟨a, b, w, dw, rfl, ha, hb, fw, rfl⟩
  · exact h.reads I r
  · obtain rfl : u = Value.ref a := r
    obtain ⟨its, rv, ⟨o, e1, c1, n, d1⟩, _⟩ := I.tuple ha
    obtain ⟨u1, u2, rfl, r1, r2⟩ := vals2 rv
    obtain ⟨as, h1, h2⟩ := DpR.reads I (d := .dict []) (v := .ref b) (u := u1) (.inr ⟨b, [], [], rfl, hb, rfl, .nil⟩) r1
    have h3 := flatD_reads (h := s.heap) fw r2
    refine ⟨as ++ ([] ++ []), Reads.tuple e1 c1 d1 (.cons h1 (.cons h3 .nil)), fun _ z => h2 (by simp [PyData.hasDict]) (by simpa using z)⟩
section
variable {prog : Program} {w : World} {h₀ : Heap}
theorem repr_each : ∀ {vs : List Value} {ds : List PyData}, Paired (Rdd h₀) vs ds → PyData.showableAll ds = true → (∀ t ∈ PyData.shownAll ds, t.length ≤ sizeLine) →
    (∃ as, ReadsAll h₀ vs ds as) ∧ ∃ bs, ReadAtMost h₀ (PyData.depthAll ds) bs ∧ ReprAllK prog w bs h₀ (PyData.depthAll ds) vs (PyData.shownAll ds)
  | _, _, .nil, _, _ => ⟨⟨_, .nil⟩, [], (fun _ h => nomatch h), by simp only [PyData.shownAll]; exact .nil⟩
  | _, _, .cons ⟨as, r, hm⟩ t, hs, hz => by
    simp only [PyData.showableAll, Bool.and_eq_true] at hs
    obtain ⟨b1, h1, k1⟩ := ReprK.of_reads (prog := prog) (w := w) r hs.1 hm (hz _ (by simp only [PyData.shownAll]; exact List.mem_cons_self ..))
    obtain ⟨⟨as2, r2⟩, b2, h2, k2⟩ := repr_each t hs.2 fun x hx => hz x (by simp only [PyData.shownAll]; exact List.mem_cons_of_mem _ hx)
    refine ⟨⟨_, .cons r r2⟩, b1 ++ b2, ?_, ?_⟩
    · simp only [PyData.depthAll]
      exact (h1.mono (Nat.le_max_left _ _)).append (h2.mono (Nat.le_max_right _ _))
    · simp only [PyData.depthAll, PyData.shownAll]
      exact .cons ((k1.more fun _ q => List.mem_append_left _ q).level_le (Nat.le_max_left _ _)) (k2.more_le (fun _ q => List.mem_append_right _ q) (Nat.le_max_right _ _))
end
theorem rdds {X : Cx} {pins : List (Addr × Obj)} {σ : St} {H : Hp} {s : Shared} (I : Inv X pins σ H s) : ∀ {vs : List V} {us : List Value} {ds : List PyData}, Paired (DpR2 X.K H) vs ds → Vals vs us → Paired (Rdd s.heap) us ds
  | _, _, _, .nil, .nil => .nil
  | _, _, _, .cons h t, .cons r q => .cons (h.reads I r) (rdds I t q)
def rReprL (K : PySem.W.Frag) : List V → Hp → VK → Prop := fun xs H Q => ∃ (a : Addr) (vs : List V) (ds : List PyData), xs = [.ref a] ∧ SqL K H a vs ∧ Paired (DpR2 K H) vs ds ∧ PyData.showableAll ds = true ∧ PyData.depthAll ds ≤ 32 ∧
  (PyData.list ds).shown.length ≤ sizeLine ∧ Q (.str (PyData.list ds).shown) H
theorem call_reprL {X : Cx} (hg : X.A.guards = some []) (hu : X.A.units + 64 < cLine) : CallR X (.builtin "repr") (rReprL X.K) := by
  intro pins s σ H xs us Q I r h
  obtain ⟨a, vs, ds, rfl, hq, hp, hs, hd, hz, q⟩ := h
  obtain ⟨u, rfl, ru⟩ := vals1 r
  obtain rfl : u = Value.ref a := ru
  obtain ⟨its, rv, ⟨oa, n, e1, c1, _, d1⟩, _⟩ := I.list hq
  have hz2 : (listText (PyData.shownAll ds)).length ≤ sizeLine := by simpa only [PyData.shown] using hz
  obtain ⟨⟨as, ra⟩, bs, h1, h2⟩ := repr_each (prog := X.prog) (w := X.w) (rdds I hp rv) hs fun t ht => Nat.le_trans (listText_mem_le ht) hz2
  have hna : a ∉ bs := not_mem_of_deeper (Reads.list e1 c1 d1 ra) (by simp only [PyData.depth]; omega) h1
  have keep : ∀ b o, s.heap.get? b = some o → s.heap.get? b = some o := fun _ _ z => z
  simp only [PyData.shown] at q
  refine call_repr_slot (by omega) ⟨oa, e1, c1⟩ F.slot_list_repr.toG ?_
  cases its with
  | nil =>
    cases ra
    simp only [PyData.shownAll, listText_nil] at q
    exact call_list_repr_empty ⟨oa, e1, c1⟩ e1 d1 ⟨_, _, rfl, ⟨.str _, H, I.tok _, ⟨_, rfl⟩, q⟩⟩
  | cons x l =>
    exact call_list_reprK e1 c1 d1 hna (by simpa using h2.length_eq) (fun i y e => h2.item i y (by simpa using e)) (show X.A.in1.guards = some [] from hg) (fun b _ => Clear.nil b) (show X.A.units + 1 + (PyData.depthAll ds + 1) < cLine by omega) keep
      (fun h' u tk hk => ⟨_, _, rfl, ⟨.str _, H, I.kept (t' := tk) hk, ⟨_, rfl⟩, q⟩⟩) hz2
end Z
namespace Z
open PySem PySem.W PySem.Calls PyProof.Rows PySem.HandSPX
/-! ### type.__call__ on an own exception class, with keywords -/
section
variable {M : Model} {A : Around} {E : Value → Shared → Prop} {h : Heap} {g : Array GenState} {d : Drawn} {t : Nat} {os : OsState}
variable {nm q : Str} {C N : Addr} {bs bm bmB : List Value} {hdct : Bool} {sn : List Str} {sub : List Value} {ab : Bool} {col : Option Bool} {dd : Option Addr} {k0 k1 k2 k3 k5 : Option Value} {B newId initId : String}
theorem check_new_kw (F : ExcBaseFacts B newId initId bmB) (hT : ∀ X : String, bm.contains (.type X) = bmB.contains (.type X)) {rest : List Value} {kw : List (Str × Value)} {Q : Unit → Shared → Prop}
    (hC : h.get? C = some (excClassObj nm q C N bs bm hdct sn sub ab col dd k0 k1 k2 k3 k5 newId)) (hq : Q () ⟨h, g, d, t, os⟩) : wpAny M A (checkBuiltinCall newId ⟨.ref C :: rest, kw⟩) Q E ⟨h, g, d, t, os⟩ := by
  have hcont : (Value.ref C :: bm).contains (.type B) = true := by rw [List.contains_cons, hT, F.hasB, Bool.or_true]
  have hstar := F.noStar
  simp only [checkBuiltinCall, F.newKind, F.newSplit, F.newRow]
  repeat (first | refine wpAny_loadPart_at hC ?_ | (refine wpAny_isSubtype_exc hC ?_; rw [hcont]) | refine wpAny_staticBase_exc hC ?_ | refine wpAny_madeBy_exc hC ?_ | simp only [bne_self_eq_false, Bool.false_eq_true, if_false] | wp_step)
  exact hq
end
section
variable {prog : Program} {w : World} {A : Around} {E : Value → Shared → Prop} {R : Result → Shared → Prop} {h : Heap} {g : Array GenState} {d : Drawn} {t : Nat} {os : OsState}
variable {nm q : Str} {C N : Addr} {bs bm bmB : List Value} {hdct : Bool} {sn : List Str} {sub : List Value} {ab : Bool} {col : Option Bool} {dd : Option Addr} {k0 k1 k2 k3 k5 : Option Value} {B newId initId : String}
theorem new_kw (F : ExcBaseFacts B newId initId bmB) (hT : ∀ X : String, bm.contains (.type X) = bmB.contains (.type X)) {rest : List Value} {kw : List (Str × Value)}
    (hC : h.get? C = some (excClassObj nm q C N bs bm hdct sn sub ab col dd k0 k1 k2 k3 k5 newId))
    (hq : R (.ok (.ret (.ref (h.objs.size + 1)))) ⟨(h.push { cls := .type "tuple", data := .seq rest.toArray }).push
      { cls := .ref C, data := .fields #[.ref h.objs.size, .none, .none, .none, .bool false, .none] }, g, d, t, os⟩) (hrest : rest.length ≤ sizeLine) :
    codeAny (model prog w) A (.builtin newId ⟨.ref C :: rest, kw⟩) R ⟨h, g, d, t, os⟩ := by
  have hends := F.ends
  have hcB : (Value.ref C :: bm).contains (.type B) = true := by rw [List.contains_cons, hT, F.hasB, Bool.or_true]
  have hcA : (Value.ref C :: bm).contains (.type "AttributeError") = false := by rw [List.contains_cons, hT, F.noAttr]; rfl
  have hcN : (Value.ref C :: bm).contains (.type "NameError") = false := by rw [List.contains_cons, hT, F.noName]; rfl
  refine codeAny_builtinAt F.entry ?_
  unfold Builtin.«BaseException.__new__»
  refine PySem.wpAt_bind ?_
  show PySem.wpAt _ _ _ (stack >>= _) _ _ _
  refine PySem.wpAt_bind (PySem.wpAt_stack fun p below => PySem.wpAt_of_wpAny ?_)
  wp_walk
  refine PySem.wpAt_of_wpAny ?_
  rw [F.owner]
  repeat (first | with_reducible refine wpAny_madeHere_exc F.canon hC ?_ | with_reducible refine wpAny_loadPart_at hC ?_ | (with_reducible refine wpAny_isSubtype_exc hC ?_; first | rw [hcB] | rw [hcA] | rw [hcN]) | wp_step)
  show R _ _
  rw [Heap.size_push]
  exact hq
theorem type_call_kw (F : ExcBaseFacts B newId initId bmB) (hT : ∀ X : String, bm.contains (.type X) = bmB.contains (.type X)) {rest : List Value} {kw : List (Str × Value)} {fI : Addr} {Q : Fin → Shared → Prop}
    (hC : h.get? C = some (excClassObj nm q C N bs bm hdct sn sub ab col dd k0 k1 k2 k3 k5 newId))
    (hi : W.Looks (model prog w) h (typeLookup (.ref C) "__init__") (some (.ref fI))) (hb : ∀ self, W.Looks (model prog w) h (bindSpecial (.ref fI) self) (.ref fI, [self])) (hrest : rest.length ≤ sizeLine)
    (hq : codeAny (model prog w) A (.call (.ref fI) ⟨.ref (h.objs.size + 1) :: rest, kw⟩)
      (fun r s' => match r with | .ok (.ret v) => v = .none ∧ Q (.done (.ret (.ref (h.objs.size + 1)))) s' | .ok _ => False | .error e => E e s')
      ⟨(h.push (W.kdv_tup rest)).push (excO C h.objs.size), g, d, t, os⟩) :
    wpAny (model prog w) A (Builtin.«type.__call__» ⟨.ref C :: rest, kw⟩) Q E ⟨h, g, d, t, os⟩ := by
  repeat (first | with_reducible refine wpAny_loadPart_at hC ?_ | with_reducible refine wpAny_madeBy_exc hC ?_ | wp_step)
  refine codeAny_call_builtin_code (Code.quiet_builtin _ F.quiet) (check_new_kw F hT hC ?_)
  refine new_kw F hT hC ?_ hrest
  show wpAny _ _ _ _ _ _
  have k : ∀ b o, h.get? b = some o → ((h.push (W.kdv_tup rest)).push (excO C h.objs.size)).get? b = some o := fun b o e => Heap.get?_push_of_some _ (Heap.get?_push_of_some _ e)
  have hC₁ := k _ _ hC
  have hget : ((h.push (W.kdv_tup rest)).push (excO C h.objs.size)).get? (h.objs.size + 1) = some (excO C h.objs.size) := by heap_get
  have hcC : (Value.ref C :: bm).contains (.ref C) = true := by simp
  have i1 := hi.keeps k
  have b1 := (hb (.ref (h.objs.size + 1))).keeps k
  unfold isInstance
  repeat (first | with_reducible refine wpAny_loadPart_at hget ?_ | (with_reducible refine wpAny_isSubtype_exc hC₁ ?_; rw [hcC]) | wp_step)
  show wpAny _ _ (typeLookup (.ref C) _) _ _ _
  refine i1.at ?_
  refine wpAny_holding (wpAny_bind (b1.at ?_))
  refine wpAny_bind (wpAny_call (codeAny_mono hq fun r s' z => ?_))
  rcases r with e | (v | _ | _ | _) <;> first | exact z | exact z.elim | skip
  obtain ⟨rfl, z⟩ := z
  first
    | exact wpAny_pure (wpAny_pure z)
    | (wp_walk; exact z)
theorem call_kw (F : ExcBaseFacts B newId initId bmB) (hT : ∀ X : String, bm.contains (.type X) = bmB.contains (.type X)) {rest : List Value} {kw : List (Str × Value)} {fI : Addr}
    (hC : h.get? C = some (excClassObj nm q C N bs bm hdct sn sub ab col dd k0 k1 k2 k3 k5 newId))
    (hi : W.Looks (model prog w) h (typeLookup (.ref C) "__init__") (some (.ref fI))) (hb : ∀ self, W.Looks (model prog w) h (bindSpecial (.ref fI) self) (.ref fI, [self])) (hrest : rest.length ≤ sizeLine)
    (hq : codeAny (model prog w) (A.under (.builtin "type.__call__" ⟨.ref C :: rest, kw⟩)) (.call (.ref fI) ⟨.ref (h.objs.size + 1) :: rest, kw⟩) (W.InitBack (h.objs.size + 1) R)
      ⟨(h.push (W.kdv_tup rest)).push (excO C h.objs.size), g, d, t, os⟩) :
    codeAny (model prog w) A (.call (.ref C) ⟨rest, kw⟩) R ⟨h, g, d, t, os⟩ := by
  have f1 := tc_lookup
  have f2 := tc_bind (.ref C)
  have hTy : (⟨h, g, d, t, os⟩ : Shared).TypeIs (.ref C) "type" := ⟨_, hC, rfl⟩
  refine codeAny_of_tree ?_
  show wpAny _ _ (callAny (.ref C) _) _ _ _
  repeat (any_goals (first | assumption | with_reducible refine wpAny_loadPart_at hC ?_ | wp_step))
  refine ⟨rfl, ?_⟩
  refine codeAny_call_builtin_at (Code.quiet_builtin _ (by decide +kernel)) entry_typeCall (wpAny_check_type_call_sub hC (type_call_kw F hT hC hi hb hrest ?_))
  refine codeAny_mono hq fun r s' z => ?_
  rcases r with e | (v | _ | _ | _) <;> exact z
end
section
open Builtin Builtin.ObjectAttr
variable {prog : Program} {w : World} {A : Around} {E : Value → Shared → Prop} {R : Result → Shared → Prop} {hp : Heap} {g : Array GenState} {d : Drawn} {t : Nat} {os : OsState}
theorem isEmpty_of_contains {l : List Value} {v : Value} (h : l.contains v = true) : l.isEmpty = false := by
  cases l with
  | nil => exact absurd h (by simp)
  | cons _ _ => rfl
/-- self.name = v on an exception that has no dict yet -/
theorem osa_new {K : W.Frag} {name : Str} {tk : Tok} {v : Value} {x C : Addr} {fv : Array Value} {cd : ClassData}
    (X : K.In hp) (hx : hp.get? x = some { cls := .ref C, data := .fields fv }) (hcd : W.clsIn K C = some cd) (hm : ∀ self, refuseLoop self "__setattr__" cd.mro = pure ()) (hob : cd.mro.contains (.type "object") = true) (hh : cd.hasDict = true) (ha : W.findIn K (.ref C) name = some none)
    (hq : ∀ h' tk' dx, (∀ b o, b ≠ x → hp.get? b = some o → h'.get? b = some o) → hp.objs.size ≤ dx → dx ≠ x → h'.get? x = some { cls := .ref C, dict := some dx, data := .fields fv } →
      h'.Ns1 dx (fun y => if y = name then some v else none) → R (.ok (.ret .none)) ⟨h', g, d, tk', os⟩) :
    codeAny (model prog w) A (.call (.builtin "object.__setattr__") ⟨[.ref x, .str name tk, v], []⟩) R ⟨hp, g, d, t, os⟩ := by
  have I : W.InstAt hp x { cls := .ref C, data := .fields fv } C none := ⟨hx, rfl, rfl, trivial⟩
  have SF := F.store_object
  have ne := isEmpty_of_contains hob
  have hxs : x ≠ hp.objs.size := Nat.ne_of_lt (Heap.lt_size hx)
  have sub : W.Looks (model prog w) hp (isInstance (.ref x) (.type "object")) true := I.type.andThen (W.looks_mroIn X (by unfold W.mroIn; rw [hcd, Option.bind_some, if_neg (by rw [ne]; decide), hob]))
  refine codeAny_call_builtin SF.slot.plain SF.entry (@W.check_slot (model prog w) _ _ ⟨hp, g, d, t, os⟩ "object.__setattr__" "object" "__setattr__" (.ref x) [.str name tk, v] [] _ SF.kind SF.split sub (SF.args (.ref x) (.str name tk) v) ?_)
  have hmr : W.Looks (model prog w) hp (mroOf (.ref C)) cd.mro := (W.looks_clsIn X hcd).andThen .now
  have L3 : W.Looks (model prog w) hp (storeTaker? none) none := .now
  have hcls : W.Looks (model prog w) hp (classData C) cd := W.looks_clsIn X hcd
  rw [W.osa_eq, refuse_eq]
  refine wpAny_bind (wpAny_bind (I.type.at (wpAny_bind (hmr.at ?_))))
  rw [hm]
  refine wpAny_pure (wpAny_bind (I.type.at (wpAny_bind ((W.looks_findIn X ha).at (wpAny_bind (L3.at ?_))))))
  show wpAny _ _ (storeInOwnDict (.ref x) (.ref C) (.str name tk) name v false) _ _ _
  obtain ⟨nm, bs, mro, ns, qn, hd, sn, sb, ab, col, del⟩ := cd
  dsimp only at hh
  subst hh
  unfold storeInOwnDict ownDictForStores
  repeat (first | with_reducible refine HandSPX.store_in_new ?_ ?_ | with_reducible refine wpAny_loadPart_at hx ?_ | with_reducible refine hcls.at ?_ | wp_step)
  · exact ⟨_, #[], _, (Heap.get?_update_ne _ _ _ _ hxs.symm).trans (Heap.get?_push_at rfl rfl), rfl, fun e he => absurd he (by simp), fun _ => rfl⟩
  · intro h' tk' hn' hs
    have hx₁ : (hp.push { cls := .type "dict", data := .dict #[] }).get? x = some { cls := .ref C, data := .fields fv } := Heap.get?_push_of_some _ hx
    refine hq h' tk' hp.objs.size (fun b o hb ho => ?_) (Nat.le_refl _) hxs.symm ?_ hn'
    · exact (hs.2 b (Nat.ne_of_lt (Heap.lt_size ho))).trans ((Heap.get?_update_ne _ _ _ _ hb).trans (Heap.get?_push_of_some _ ho))
    · exact (hs.2 x hxs).trans (Heap.get?_update_self _ hx₁ rfl)
/-- a further field of an exception that has its dict -/
theorem osa_more {K : W.Frag} {name : Str} {tk : Tok} {v : Value} {x C dx : Addr} {fv : Array Value} {cd : ClassData} {m0 : Str → Option Value} {nl : List Str}
    (X : K.In hp) (hx : hp.get? x = some { cls := .ref C, dict := some dx, data := .fields fv }) (hns : hp.Ns1 dx m0) (hw : Within m0 nl) (hz : nl.length ≤ 1000) (hcd : W.clsIn K C = some cd) (hm : ∀ self, refuseLoop self "__setattr__" cd.mro = pure ()) (hob : cd.mro.contains (.type "object") = true) (hh : cd.hasDict = true)
    (ha : W.findIn K (.ref C) name = some none)
    (hq : ∀ h' tk', (∀ b o, b ≠ dx → hp.get? b = some o → h'.get? b = some o) → h'.Ns1 dx (fun y => if y = name then some v else m0 y) → R (.ok (.ret .none)) ⟨h', g, d, tk', os⟩) :
    codeAny (model prog w) A (.call (.builtin "object.__setattr__") ⟨[.ref x, .str name tk, v], []⟩) R ⟨hp, g, d, t, os⟩ := by
  obtain ⟨oD, esD, epD, hoD, hdD, _⟩ := hns.count hw
  have I : W.InstAt hp x { cls := .ref C, dict := some dx, data := .fields fv } C (some oD) := ⟨hx, rfl, rfl, hoD⟩
  have SF := F.store_object
  have ne := isEmpty_of_contains hob
  have sub : W.Looks (model prog w) hp (isInstance (.ref x) (.type "object")) true := I.type.andThen (W.looks_mroIn X (by unfold W.mroIn; rw [hcd, Option.bind_some, if_neg (by rw [ne]; decide), hob]))
  refine codeAny_call_builtin SF.slot.plain SF.entry (@W.check_slot (model prog w) _ _ ⟨hp, g, d, t, os⟩ "object.__setattr__" "object" "__setattr__" (.ref x) [.str name tk, v] [] _ SF.kind SF.split sub (SF.args (.ref x) (.str name tk) v) ?_)
  have hmr : W.Looks (model prog w) hp (mroOf (.ref C)) cd.mro := (W.looks_clsIn X hcd).andThen .now
  have L3 : W.Looks (model prog w) hp (storeTaker? none) none := .now
  have hcls : W.Looks (model prog w) hp (classData C) cd := W.looks_clsIn X hcd
  rw [W.osa_eq, refuse_eq]
  refine wpAny_bind (wpAny_bind (I.type.at (wpAny_bind (hmr.at ?_))))
  rw [hm]
  refine wpAny_pure (wpAny_bind (I.type.at (wpAny_bind ((W.looks_findIn X ha).at (wpAny_bind (L3.at ?_))))))
  show wpAny _ _ (storeInOwnDict (.ref x) (.ref C) (.str name tk) name v false) _ _ _
  obtain ⟨nm, bs, mro, ns, qn, hd, sn, sb, ab, col, del⟩ := cd
  dsimp only at hh
  subst hh
  unfold storeInOwnDict ownDictForStores
  repeat (first | with_reducible refine OEX.store_in_old hns hw hz ?_ | with_reducible refine wpAny_loadPart_at hx ?_ | with_reducible refine hcls.at ?_ | wp_step)
  intro h' tk' hn' hs
  exact hq h' tk' (fun b o hb ho => (hs.2 b hb).trans ho) hn'
end
end Z

namespace Z
open PySem PySem.Spec PyProof.Rows L2
/-- what the written part says of the class: an own exception over a built-in one -/
structure OexB (K : PySem.W.Frag) (C : Addr) : Prop where
  cls : ∃ B newId initId bmB nm q N bs bm sn sub ab col dd k0 k1 k2 k3 k5, ExcBaseFacts B newId initId bmB ∧ K.lookup C = some (excClassObj nm q C N bs bm true sn sub ab col dd k0 k1 k2 k3 k5 newId) ∧
    (∀ X : String, bm.contains (.type X) = bmB.contains (.type X)) ∧ (∀ self, refuseLoop self "__setattr__" bm = pure ()) ∧ bm.contains (.type "object") = true
  sa : PySem.W.findIn K (.ref C) "__setattr__" = some (some (.builtin "object.__setattr__"))
  exC : PySem.W.subIn K (.ref C) (.type "BaseException") = some true
  tyC : PySem.W.typeIn K (.ref C) = some (.type "type")
  kC : PySem.W.keepIn K (.ref C) = true
section
variable {X : Cx} {pins : List (Addr × Obj)} {σ : St} {H : Hp} {s : Shared} {a C dx : Addr} {f : Str} {y : V} {u : Value} {fs : List (Str × V)} {Q : Unit → Shared → Prop} {E : Value → Shared → Prop} {A : Around}
/-- self.f = y, the first one -/
theorem ostB_new (T : OexB X.K C) (I : Inv X pins σ H s) (e : H a = some (exo a C none)) (hno : PySem.W.findIn X.K (.ref C) f = some none) (ry : RelV y u)
    (h : ∀ dx s', H dx = none → dx ≠ a → Inv X pins σ (upd (upd H dx (exd dx [(f, y)])) a (exo a C (some dx))) s' → Q () s') : wpAny (model X.prog X.w) A (setAttr (.ref a) f u) Q E s := by
  obtain ⟨B, newId, initId, bmB, nm, q, N, bs, bm, sn, sub, ab, col, dd, k0, k1, k2, k3, k5, hF, hC, hT, hbm, hob⟩ := T.cls
  have hcl : PySem.W.clsIn X.K C = some { name := nm, bases := bs, mro := .ref C :: bm, ns := N, qualname := q, hasDict := true, slotNames := sn, subclasses := sub, abstract := ab, collection := col, hasDel := false } := by unfold PySem.W.clsIn; rw [hC] <;> rfl
  obtain ⟨t1, ho⟩ := exo_at I.hok e
  obtain ⟨hp, g, d, t, os⟩ := s
  refine PySem.W.set_plain I.kIn (ox := { cls := .ref C, dict := none, data := .fields #[.ref t1, .none, .none, .none, .bool false, .none] }) (od := none) ⟨ho, rfl, rfl, trivial⟩ T.sa ?_
  refine osa_new I.kIn ho hcl (fun self => by rw [refuseLoop_ref]; exact hbm self) (by simp only [List.contains_cons, hob, Bool.or_true]) rfl hno (fun h' tk' dx k dn dne hx hn => ?_)
  have hnd : H dx = none := I.hok.fresh dn
  have nd : ∀ {b : Addr} {o : Obj}, hp.get? b = some o → b ≠ dx := fun {b o} q => Nat.ne_of_lt (Nat.lt_of_lt_of_le (Heap.lt_size q) dn)
  have na : ∀ {b : Addr}, H b = none → b ≠ a := fun {b} n z => by
    rw [z, e] at n
    cases n
  have Un1 : Un X.fs [] H (upd (upd H dx (exd dx [(f, y)])) a (exo a C (some dx))) hp h' := {
    keep := fun b o q n _ _ => k b o (na n) q
    slot := fun b o q n _ _ => ⟨o.slots, k b o (na n) q⟩
    free := fun b o q n _ => by rw [upd_ne (na n), upd_ne (nd q)]; exact n
    there := fun b o q _ => by
      by_cases hb : b = a
      · exact ⟨_, by rw [hb]; exact hx⟩
      · exact ⟨o, k b o hb q⟩
    tups := fun b xs q => by rw [upd_ne (at_ne e q exo_tup), upd_ne (ne_of_none q hnd)]; exact q
    frzs := fun b o v q => by rw [upd_ne (at_ne e q exo_frz), upd_ne (ne_of_none q hnd)]; exact q
    tbls := fun b ps q => ⟨#[], by rw [upd_ne (at_ne e q exo_tbl), upd_ne (ne_of_none q hnd), q]; simp⟩ }
  refine h dx _ hnd dne (I.un (t' := tk') Un1 fun b o q => ?_)
  by_cases hb : b = a
  · subst hb
    rw [upd_same] at q
    cases q
    exact exo_ok hx
  · rw [upd_ne hb] at q
    by_cases hd : b = dx
    · subst hd
      rw [upd_same] at q
      cases q
      exact exd_ok hn (relO_put (fs := []) ry fun g => True.intro)
    · rw [upd_ne hd] at q
      exact (I.hok b o q).stay (fun c v hc z => k c v (by
          rcases hc with hc | hc
          · rw [hc]
            exact hb
          · exact at_ne e hc exo_own) z)
        (fun c hc => by rw [upd_ne (at_ne e hc exo_own), upd_ne (ne_of_none hc hnd)]; exact hc) (fun c xs hc => by rw [upd_ne (at_ne e hc exo_tup), upd_ne (ne_of_none hc hnd)]; exact hc)
/-- self.f = y, a further one -/
theorem ostB_old (T : OexB X.K C) (I : Inv X pins σ H s) (e : H a = some (exo a C (some dx))) (ed : H dx = some (exd dx fs)) (hl : fs.length ≤ 900) (hno : PySem.W.findIn X.K (.ref C) f = some none) (ry : RelV y u)
    (h : ∀ s', Inv X pins σ (upd H dx (exd dx ((f, y) :: fs))) s' → Q () s') : wpAny (model X.prog X.w) A (setAttr (.ref a) f u) Q E s := by
  obtain ⟨B, newId, initId, bmB, nm, q, N, bs, bm, sn, sub, ab, col, dd, k0, k1, k2, k3, k5, hF, hC, hT, hbm, hob⟩ := T.cls
  have hcl : PySem.W.clsIn X.K C = some { name := nm, bases := bs, mro := .ref C :: bm, ns := N, qualname := q, hasDict := true, slotNames := sn, subclasses := sub, abstract := ab, collection := col, hasDel := false } := by unfold PySem.W.clsIn; rw [hC] <;> rfl
  obtain ⟨t1, ho⟩ := exo_at I.hok e
  obtain ⟨mA, hns, rel⟩ := exd_at I.hok ed
  have hw := within_of rel
  obtain ⟨hp, g, d, t, os⟩ := s
  obtain ⟨oD, _, _, hoD, _, _⟩ := hns.count hw
  refine PySem.W.set_plain I.kIn (ox := { cls := .ref C, dict := some dx, data := .fields #[.ref t1, .none, .none, .none, .bool false, .none] }) (od := some oD) ⟨ho, rfl, rfl, hoD⟩ T.sa ?_
  refine osa_more I.kIn ho hns hw (by rw [List.length_map]; omega) hcl (fun self => by rw [refuseLoop_ref]; exact hbm self) (by simp only [List.contains_cons, hob, Bool.or_true]) rfl hno (fun h' tk' k hn => ?_)
  have hd : ∃ o, h'.get? dx = some o := by
    obtain ⟨o, _, _, e', _⟩ := hn
    exact ⟨o, e'⟩
  exact h _ (I.write (t' := tk') (x := dx) (e := dx) (o := exd dx ((f, y) :: fs)) (by rw [ed]; exact True.intro) (.inl rfl) k hd (exd_ok hn (relO_put ry rel)))
end
/-- self.f = e -/
def tOstB (K : PySem.W.Frag) (f : Str) (to te : TE) : TS := fun D σ H => te σ H fun y H1 => to σ H1 fun x H2 => ∃ a C : Addr, x = .ref a ∧ OexB K C ∧ PySem.W.findIn K (.ref C) f = some none ∧
  ((H2 a = some (exo a C none) ∧ ∀ dx, H2 dx = none → dx ≠ a → D.nx σ (upd (upd H2 dx (exd dx [(f, y)])) a (exo a C (some dx)))) ∨
    ∃ (dx : Addr) (fs : List (Str × V)), H2 a = some (exo a C (some dx)) ∧ H2 dx = some (exd dx fs) ∧ fs.length ≤ 900 ∧ D.nx σ (upd H2 dx (exd dx ((f, y) :: fs))))
section
variable {X : Cx} {o e : Expr} {es : List Expr} {to te : TE} {ta : TA} {f : Str} {p p' p1 p2 pos : Pos}
theorem ps_ostB (ho : PE X o to) (he : PE X e te) (hs : swapsWith e (some (.Attribute o f p')) pos.line X.env = pure false := by rfl) : PS X (.Assign [.Attribute o f p'] e pos) (tOstB X.K f to te) := by
  refine ⟨fun pins s σ H D I h => ?_⟩
  refine plainObj_wpAny_Assign_Attribute (thn (he.run pins s σ H _ I h) fun v s1 ⟨y, H1, I1, r1, q1⟩ => thn (ho.run pins s1 σ H1 _ I1 q1) fun u s2 ⟨x, H2, I2, r2, a, C, ex, T, hno, q⟩ => ?_) hs
  subst ex
  obtain rfl : u = Value.ref a := r2
  rcases q with ⟨ea, q⟩ | ⟨dx, fs, ea, ed, hl, q⟩
  · exact ostB_new T I2 ea hno r1 fun dx s' n ne J => ⟨σ, _, J, q dx n ne⟩
  · exact ostB_old T I2 ea ed hl hno r1 fun s' J => ⟨σ, _, J, q⟩
end
/-! ### C(e, ..) that is raised -/
section
variable {gd : Bool} {X : Cx} {k : Nat} {C fI : Addr} {fd : FuncData} {ps : List Str} {sp : Sp} {x : Str} {p pos : Pos} {e : Expr} {es : List Expr} {t : TA}
/-- C(e, .., k = v): the state behind, and what is known of it -/
theorem run_xmk {pins : List (Addr × Obj)} {σ : St} {H : Hp} {s : Shared} {Q : Addr → Addr → List (Str × V) → Hp → Prop} {P : Value → Shared → Prop} {us all : List Value} {kw : List (Str × Value)} {vs : List V} (T : OexB X.K C) (iC : PySem.W.findIn X.K (.ref C) "__init__" = some (some (.ref fI))) (tI : PySem.W.typeIn X.K (.ref fI) = some (.type "function"))
    (F : FnG gd X.prog X.w X.K X.mg X.base k fI fd ps sp) (hr : Room (k + 1) X.A) (hgu : gd = true → X.A.guards = some [])
    (hb : ∀ (a : Addr) (s : Shared), X.K.In s.heap → BindsTo s fd ⟨.ref a :: us, kw⟩ (ps.zip (.ref a :: all))) (I : Inv X pins σ H s) (r : Vals vs all) (hz : us.length ≤ 1000)
    (h : ∀ a, H a = none → sp (.ref a :: vs) (upd H a (exo a C none)) (fun v H2 => v = .non ∧ ∃ (d : Addr) (fs : List (Str × V)), H2 a = some (exo a C (some d)) ∧ H2 d = some (exd d fs) ∧ H d = none ∧ Q a d fs H2) E0)
    (hP : ∀ a hp2 s' H2 d fs, s.heap.objs.size ≤ a → (∀ b o, s.heap.get? b = some o → hp2.get? b = some o) → s'.os = s.os → AllBare s'.gens → Un (frs X.stack) [] (upd H a (exo a C none)) H2 hp2 s'.heap → HOk X.prog X.w H2 s'.heap →
      Inv X pins σ H2 s' → H2 a = some (exo a C (some d)) → H2 d = some (exd d fs) → H d = none → Q a d fs H2 → P (.ref a) s') :
    wpAny (model X.prog X.w) X.A (call (.ref C) us kw) P X.xe s := by
  obtain ⟨B, newId, initId, bmB, nm, q, N, bs, bm, sn, sub, ab, col, dd, k0, k1, k2, k3, k5, hF, hC, hT, hbm, hob⟩ := T.cls
  obtain ⟨hp, g, dr, tk, os⟩ := s
  have hsz : hp.objs.size ≤ hp.objs.size + 1 := Nat.le_succ _
  have hq := h (hp.objs.size + 1) (I.hok.fresh hsz)
  have kk : ∀ b o, hp.get? b = some o → ((hp.push (PySem.W.kdv_tup us)).push (PySem.HandSPX.excO C hp.objs.size)).get? b = some o :=
    fun b o z => Heap.get?_push_of_some _ (Heap.get?_push_of_some _ z)
  have hget : ((hp.push (PySem.W.kdv_tup us)).push (PySem.HandSPX.excO C hp.objs.size)).get? (hp.objs.size + 1) =
      some (PySem.HandSPX.excO C hp.objs.size) := by heap_get
  have I2 := I.laid (t' := tk) (a := hp.objs.size + 1) (o := exo (hp.objs.size + 1) C none)
    (h' := (hp.push (PySem.W.kdv_tup us)).push (PySem.HandSPX.excO C hp.objs.size)) kk hsz (exo_ok hget)
  have r2 : Vals (V.ref (hp.objs.size + 1) :: vs) (Value.ref (hp.objs.size + 1) :: all) := .cons rfl r
  have hus : us.length ≤ sizeLine := by
    rw [sizeLine_eq]
    omega
  have bb := hb (hp.objs.size + 1) ⟨(hp.push (PySem.W.kdv_tup us)).push (PySem.HandSPX.excO C hp.objs.size), g, dr, tk, os⟩ I2.kIn
  refine wpAny_call (call_kw hF hT (I.kIn _ _ hC)
    (PySem.W.looks_findIn I.kIn iC) (fun self => PySem.W.bind_fn I.kIn self tI) hus
    (codeAny_mono (F.run _ X.stack _ _ ⟨Value.ref (hp.objs.size + 1) :: us, kw⟩ _ _ _ E0 (hr.make C us kw) (fun z => guards_make (hgu z)) (I2.env0.make C us kw) bb r2 hq) fun r s' hq' => ?_))
  rcases r with er | fl
  · exact (show False by
      obtain ⟨_, _, _, _, _, _, _, _, _, _, _, _, z⟩ := hq'
      exact z).elim
  · cases fl with
    | ret u =>
      obtain ⟨v, H2, os2, bare2, un2, hok2, rv, ev, d, fs, ea, ed, hd1, q2⟩ := hq'
      subst ev
      exact ⟨rv, hP _ _ s' H2 d fs hsz kk os2 bare2 un2 hok2 (I2.call' (ch := []) os2 un2 hok2 bare2 (fun b z => absurd z (by simp))) ea ed hd1 q2⟩
    | next => exact hq'.elim
    | brk => exact hq'.elim
    | cont => exact hq'.elim
theorem pmk_ZB (T : OexB X.K C) (iC : PySem.W.findIn X.K (.ref C) "__init__" = some (some (.ref fI))) (tI : PySem.W.typeIn X.K (.ref fI) = some (.type "function"))
    (F : FnG gd X.prog X.w X.K X.mg X.base k fI fd ps sp) (hr : Room (k + 1) X.A) (hgu : gd = true → X.A.guards = some []) (hb : Binds X.K fd ps []) (hg : Gl X x)
    (hm : X.mg x = some (.ref C)) (ha : PA X (e :: es) t) (hdb : (x == ("__debug__" : Str)) = false := by decide)
    (he : starEach (e :: es) X.env = (false, eval e X.env) :: starEach es X.env := by rfl) (hpl : (backTo pos (starEach es X.env)).any (·.1) = false := by rfl) :
    PMk X (.Call (.Name x p) (e :: es) [] pos) (zMkO C sp t) := by
  intro pins s σ H Q I h
  refine wpAny_Call_Name_kw (ld_glob I hg hm ?_ hdb)
  refine PySem.W.callWith_K (h₀ := X.base) I.ok.mod.kin T.kC (thn (ha.run pos pins s σ H _ I h) ?_) he hpl
  rintro us s1 ⟨vs, H1, I1, r1, hz, q1⟩
  refine ⟨I1.kIn, ?_⟩
  refine run_xmk (Q := fun a d fs H2 => Q (.ref C) (some d) (upd (del H2 a) d (.xd fs))) T iC tI F hr hgu (all := us) (kw := []) (fun a s2 K2 => ?_) I1 r1 (by show us.length ≤ 1000; rw [← Paired.length r1]; exact hz) q1 fun a hp2 s' H2 d fs hsz kk os2 bare2 un2 hok2 I3 ea ed hd1 q2 => ?_
  · have hl := F.len _ _ _ _ (q1 _ (I1.hok.fresh (Nat.le_refl _)))
    have bb := hb s2 (.ref a :: us) K2 (by rw [List.append_nil, List.length_cons, ← Paired.length r1]; exact hl)
    rw [List.append_nil] at bb
    exact bb
  · obtain ⟨hp, g, dr, tk, os⟩ := s1
    obtain ⟨h2, g2, d2, t2, os'⟩ := s'
    exact mk_end (raises_own T.exC T.tyC) I1 hsz kk un2 hok2 os2 bare2 ea ed hd1 q2
/-! ### an exception as a value: C(e, ..) -/
/-- an exception of the class at C with these fields -/
def ExO (H : Hp) (a C : Addr) (fs : List (Str × V)) : Prop := ∃ dd, H a = some (exo a C (some dd)) ∧ H dd = some (exd dd fs)
theorem ExO.same {H H' : Hp} {a C : Addr} {fs : List (Str × V)} (s : Same H H') (h : ExO H a C fs) : ExO H' a C fs := by
  obtain ⟨dd, h1, h2⟩ := h
  exact ⟨dd, s _ _ h1, s _ _ h2⟩
def tXmk (C : Addr) (sp : Sp) (ta : TA) : TE := fun σ H Q => ta σ H fun vs H1 => vs.length ≤ 1000 ∧ ∀ a, H1 a = none → sp (.ref a :: vs) (upd H1 a (exo a C none))
    (fun v H2 => v = .non ∧ ∃ (d : Addr) (fs : List (Str × V)), H2 a = some (exo a C (some d)) ∧ H2 d = some (exd d fs) ∧ H1 d = none ∧ Q (.ref a) H2) E0
theorem pe_xmk (T : OexB X.K C) (iC : PySem.W.findIn X.K (.ref C) "__init__" = some (some (.ref fI))) (tI : PySem.W.typeIn X.K (.ref fI) = some (.type "function"))
    (F : FnG gd X.prog X.w X.K X.mg X.base k fI fd ps sp) (hr : Room (k + 1) X.A) (hgu : gd = true → X.A.guards = some []) (hb : Binds X.K fd ps []) (hg : Gl X x)
    (hm : X.mg x = some (.ref C)) (ha : PA X (e :: es) t) (hdb : (x == ("__debug__" : Str)) = false := by decide)
    (he : starEach (e :: es) X.env = (false, eval e X.env) :: starEach es X.env := by rfl) (hpl : (backTo pos (starEach es X.env)).any (·.1) = false := by rfl) :
    PE X (.Call (.Name x p) (e :: es) [] pos) (tXmk C sp t) := by
  constructor
  intro pins s σ H Q I h
  refine wpAny_Call_Name_kw (ld_glob I hg hm ?_ hdb)
  refine PySem.W.callWith_K (h₀ := X.base) I.ok.mod.kin T.kC (thn (ha.run pos pins s σ H _ I h) ?_) he hpl
  rintro us s1 ⟨vs, H1, I1, r1, hz, q1⟩
  refine ⟨I1.kIn, ?_⟩
  refine run_xmk (Q := fun a d fs H2 => Q (.ref a) H2) T iC tI F hr hgu (all := us) (kw := []) (fun a s2 K2 => ?_) I1 r1 (by show us.length ≤ 1000; rw [← Paired.length r1]; exact hz) q1 fun a hp2 s' H2 d fs hsz kk os2 bare2 un2 hok2 I3 ea ed hd1 q2 => ?_
  · have hl := F.len _ _ _ _ (q1 _ (I1.hok.fresh (Nat.le_refl _)))
    have bb := hb s2 (.ref a :: us) K2 (by rw [List.append_nil, List.length_cons, ← Paired.length r1]; exact hl)
    rw [List.append_nil] at bb
    exact bb
  · exact ⟨.ref a, H2, I3, rfl, q2⟩
/-- C(k = e, ..), keywords alone: gV brings the values into the order of the parameters -/
def tXmkK (C : Addr) (sp : Sp) (n : Nat) (gV : List V → List V → List V) (tk : TA) : TE := fun σ H Q => tk σ H fun zs H1 => zs.length = n ∧ ∀ a, H1 a = none → sp (gV [.ref a] zs) (upd H1 a (exo a C none))
    (fun v H2 => v = .non ∧ ∃ (d : Addr) (fs : List (Str × V)), H2 a = some (exo a C (some d)) ∧ H2 d = some (exd d fs) ∧ H1 d = none ∧ Q (.ref a) H2) E0
theorem pe_xmkK {ks : List Str} {kws : List Keyword} {tk : TA} {g : List Value → List Value} {gV : List V → List V} (T : OexB X.K C) (iC : PySem.W.findIn X.K (.ref C) "__init__" = some (some (.ref fI))) (tI : PySem.W.typeIn X.K (.ref fI) = some (.type "function"))
    (F : FnG gd X.prog X.w X.K X.mg X.base k fI fd ps sp) (hr : Room (k + 1) X.A) (hgu : gd = true → X.A.guards = some []) (hb : KBn X.K fd ps 1 ks (fun us ws => us ++ g ws) (fun us ws => us ++ gV ws))
    (hrel : ∀ {zs : List V} {ws : List Value}, Vals zs ws → Vals (gV zs) (g ws)) (hg : Gl X x)
    (hm : X.mg x = some (.ref C)) (hkw : PK X kws tk) (hall : (backToKw pos (keywordEach kws X.env)).all (·.1.isSome) = true := by rfl) (hks : (backToKw pos (keywordEach kws X.env)).filterMap (·.1) = ks := by rfl)
    (hdb : (x == ("__debug__" : Str)) = false := by decide) (hpl : ((backTo pos (starEach [] X.env)).any (·.1) || (backToKw pos (keywordEach kws X.env)).any (·.1.isNone)) = false := by rfl) :
    PE X (.Call (.Name x p) [] kws pos) (tXmkK C sp ks.length (fun us ws => us ++ gV ws) tk) := by
  constructor
  intro pins s σ H Q I h
  refine wpAny_Call_Name_kw (ld_glob I hg hm ?_ hdb)
  refine PySem.W.callWith_KW0 (h₀ := X.base) I.ok.mod.kin T.kC hall (thn (hkw.run pos pins s σ H _ I h) fun ws s2 ⟨zs, H2, I2, rz, l2, q2⟩ => ⟨I2.kIn, ?_⟩) hpl
  rw [hks]
  have e2 : ws.length = ks.length := rz.length.symm.trans l2
  exact run_xmk (Q := fun a d fs H2 => Q (.ref a) H2) T iC tI F hr hgu (us := []) (fun a s2 K2 => hb.to s2 [.ref a] ws K2 rfl e2) I2 (hrel rz) (by decide) q2 fun a hp2 s' H2 d fs hsz kk os2 bare2 un2 hok2 I3 ea ed hd1 q2 => ⟨.ref a, H2, I3, rfl, q2⟩
end
theorem Fun.kbn {K : PySem.W.Frag} {x qual : Str} {st : Stmt} {f : Addr} {fd : FuncData} {ps : List Str} {n : Nat} {ks : List Str} {g : List Value → List Value → List Value} {gV : List V → List V → List V} (F : L2.Fun K x qual st f fd)
    (h : ∀ (kV doc pm : Value) (an : Option Addr) (cdv ct : Value) (us ws : List Value), us.length = n → ws.length = ks.length → bindArgs (PySem.W.fnOf x qual (defArgs st) (defBody st) (defScope st) .none kV doc pm an cdv ct) ⟨us, ks.zip ws⟩ = pure (ps.zip (g us ws)))
    (rel : ∀ {vs : List V} {us : List Value} {zs : List V} {ws : List Value}, Vals vs us → Vals zs ws → Vals (gV vs zs) (g us ws)) : KBn K fd ps n ks g gV := by
  obtain ⟨oc, od, kV, doc, pm, an, cdv, ct, osl, rfl, lk, hcd⟩ := F.ex
  exact ⟨fun s us ws _ l1 l2 => .of_eq (h kV doc pm an cdv ct us ws l1 l2), rel⟩
end Z
namespace Z
open PySem PySem.Spec PyProof.Rows L2
/-! ### the fields and the classes of an exception that is a value -/
/-- e.f, of an exception of whatever class -/
def tXo (K : PySem.W.Frag) (f : Str) (te : TE) : TE := fun σ H Q => te σ H fun x H1 => ∃ (a C : Addr) (fs : List (Str × V)) (v : V), x = .ref a ∧ ExO H1 a C fs ∧ XfC K C ∧ PySem.W.findIn K (.ref C) f = some none ∧ fs.lookup f = some v ∧ Q v H1
/-- isinstance(e, c) -/
def rIsO (K : PySem.W.Frag) : List V → Hp → VK → Prop := fun xs H Q => ∃ (a C : Addr) (fs : List (Str × V)) (c : V) (u : Value) (b : Bool), xs = [.ref a, c] ∧ ExO H a C fs ∧ ExT K C ∧ ClsV c u ∧ PySem.W.kitOne K (.ref C) u = some b ∧ Q (.bl b) H
section
variable {X : Cx}
theorem exo_in {pins : List (Addr × Obj)} {σ : St} {H : Hp} {s : Shared} {a C : Addr} {fs : List (Str × V)} (I : Inv X pins σ H s) (h : ExO H a C fs) :
    ∃ (oe od : Obj) (mA : Str → Option Value), PySem.W.InstAt s.heap a oe C (some od) ∧ (∀ f, PySem.W.lookIn f od = some (mA f)) ∧ ∀ f, RelO (fs.lookup f) (mA f) := by
  obtain ⟨dd, e1, e2⟩ := h
  obtain ⟨t1, ho⟩ := exo_at I.hok e1
  obtain ⟨mA, ns, rel⟩ := exd_at I.hok e2
  obtain ⟨od, h1, h2⟩ := lookIn_ns ns
  exact ⟨_, od, mA, ⟨ho, rfl, rfl, h1⟩, h2, rel⟩
theorem pe_xo {e : Expr} {te : TE} {pos : Pos} {n : Str} (he : PE X e te) (hb : attributeBase e n X.env (eval e X.env) = eval e X.env := by rfl) :
    PE X (.Attribute e n pos) (tXo X.K n te) := by
  constructor
  intro pins s σ H Q I h
  refine attr_of hb (thn (he.run pins s σ H _ I h) ?_)
  rintro u s1 ⟨x, H1, I1, rx, a, C, fs, v, rfl, ha, T, hno, hl, q⟩
  obtain rfl : u = Value.ref a := rx
  obtain ⟨oe, od, mA, J, lk, rel⟩ := exo_in I1 ha
  obtain ⟨u, hu, ru⟩ := RelO.some_of (v := v) (o := mA n) (by rw [← hl]; exact rel n)
  exact HandSPX.exc_get I1.kIn J T.ga T.gg T.exC (PySem.W.findObj_own T.hdC hno rfl (by rw [lk, hu])) (handed_of ru) ⟨v, H1, I1.tok _, ru, q⟩
theorem call_isO : CallR X (.builtin "isinstance") (rIsO X.K) := by
  intro pins s σ H xs us Q I r h
  obtain ⟨a, C, fs, c, cv, b, rfl, ha, T, k, e, q⟩ := h
  obtain ⟨u1, u2, rfl, r1, r2⟩ := vals2 r
  have e2 := k.eq r2
  subst e2
  obtain rfl : u1 = Value.ref a := r1
  obtain ⟨oe, od, mA, J, _⟩ := exo_in I ha
  exact PySem.W.kia_one (PySem.W.kitx_exc T.cl T.xf.ga T.xf.gg T.xf.exC T.ha T.hn T.ht T.hm) I.kIn J e (fun z => nomatch z) fun tk => ⟨.bl b, H, I.tok tk, rfl, q⟩
end
end Z
namespace Z
open PySem PySem.Spec PyProof.Rows L2
theorem vals_getD : ∀ {zs : List V} {ws : List Value}, Vals zs ws → ∀ i, RelV (zs.getD i .non) (ws.getD i .none)
  | _, _, .nil, i => by simp only [List.getD_nil]; exact rfl
  | _, _, .cons r t, 0 => r
  | _, _, .cons r t, i + 1 => vals_getD t i
/-- an own class whose classes above are built-in -/
def MroT (K : PySem.W.Frag) (C : Addr) (ts : List String) : Prop := ∃ cd, PySem.W.clsIn K C = some cd ∧ cd.mro = .ref C :: ts.map .type
theorem mroT_of {K : PySem.W.Frag} {nm q : Str} {C N : Addr} {bs bm : List Value} {hd : Bool} {sn : List Str} {sub : List Value} {ab : Bool} {col : Option Bool} {dd : Option Addr} {k0 k1 k2 k3 k5 : Option Value} {newId : String} {ts : List String}
    (h : K.lookup C = some (excClassObj nm q C N bs bm hd sn sub ab col dd k0 k1 k2 k3 k5 newId)) (e : bm = ts.map .type) : MroT K C ts := by
  subst e
  exact ⟨{ name := nm, bases := bs, mro := .ref C :: ts.map .type, ns := N, qualname := q, hasDict := hd, slotNames := sn, subclasses := sub, abstract := ab, collection := col, hasDel := false }, by unfold PySem.W.clsIn; rw [h] <;> rfl, rfl⟩
theorem MroT.ref {K : PySem.W.Frag} {C D : Addr} {ts : List String} (h : MroT K C ts) : PySem.W.subIn K (.ref C) (.ref D) = some (decide (C = D)) := by
  obtain ⟨cd, h1, h2⟩ := h
  show PySem.W.mroIn K C (.ref D) = _
  unfold PySem.W.mroIn
  rw [h1, Option.bind_some, h2]
  have : (ts.map Value.type).contains (.ref D) = false := by
    rw [List.contains_eq_mem]
    simp
  by_cases e : C = D
  · subst e
    simp
  · have e2 : ¬ D = C := fun z => e z.symm
    simp [e, e2]
theorem MroT.type {K : PySem.W.Frag} {C : Addr} {ts : List String} {T : String} (h : MroT K C ts) : PySem.W.subIn K (.ref C) (.type T) = some (decide (T ∈ ts)) := by
  obtain ⟨cd, h1, h2⟩ := h
  show PySem.W.mroIn K C (.type T) = _
  unfold PySem.W.mroIn
  rw [h1, Option.bind_some, h2]
  simp
/-- isinstance over own classes that are unlike -/
theorem kit_own {K : PySem.W.Frag} {C D : Addr} {ts : List String} (h : MroT K C ts) (hc : (PySem.W.clsIn K D).isSome = true) (ht : PySem.W.typeIn K (.ref D) = some (.type "type")) : PySem.W.kitOne K (.ref C) (.ref D) = some (decide (C = D)) := by
  by_cases e : C = D
  · subst e
    rw [kit_one]
    simp
  · refine kit_cls ?_ hc ht h.ref
    have : decide (C = D) = false := by simp [e]
    rw [this, beq_eq_false_iff_ne]
    exact fun z => e (Value.ref.inj z)
end Z
namespace Z
open PySem PySem.Spec PyProof.Rows L2
/-! ### try with several clauses, each with its name -/
def wAsVs (K : PySem.W.Frag) : List (Value × Nat × TS) → Ends → WX
  | [], _ => fun _ _ _ _ => False
  | c :: r, D => fun cls d σ H => (PySem.W.exmOne K cls c.1 = some true ∧
      ∀ a, H a = none → c.2.2 { nx := fun σ' H' => D.nx (σ'.set c.2.1 none) H', rt := D.rt, bk := fun σ' H' => D.bk (σ'.set c.2.1 none) H', ct := fun σ' H' => D.ct (σ'.set c.2.1 none) H' } (σ.set c.2.1 (some (.ref a))) (upd H a (ExV cls d a))) ∨
    (PySem.W.exmOne K cls c.1 = some false ∧ wAsVs K r D cls d σ H)
inductive Clauses (X : Cx) : List ExceptHandler → List (Value × Nat × TS) → Prop
  | nil : Clauses X [] []
  | cons {x n : Str} {c : Value} {i : Nat} {suite : List Stmt} {b₀ : Stmt} {np pos' : Pos} {ts : TS} {hs : List ExceptHandler} {cs : List (Value × Nat × TS)} (hi : X.N[i]? = some n) (hln : X.env.kindOf n = some .local) (hc : Names X x c)
      (hsu : ∀ (a : Addr) (pn : List (Addr × Obj)), PSs (X.suite a pn) (b₀ :: suite) ts) (r : Clauses X hs cs) : Clauses X (.ExceptHandler (some (.Name x np)) (some n) (b₀ :: suite) pos' :: hs) ((c, i, ts) :: cs)
section
variable {X : Cx}
/-- the ground, and where it comes from -/
structure Gd (X : Cx) (pins : List (Addr × Obj)) (σ : St) (H : Hp) (cls : Value) (d : Option Addr) (a : Addr) (B : Heap) (s : Shared) : Prop where
  ex : ∃ sI : Shared, Inv X pins σ H sI ∧ (∀ b o, sI.heap.get? b = some o → b ∉ frs X.stack → B.get? b = some o) ∧ sI.heap.UpToSlots s.heap ∧ s.os = sI.os
  fl : HandSPX.FlyingZ B (X.env :: X.outer) a (Zc cls d) s.heap
  ag : AllBare s.gens
  na : H a = none
theorem Gd.gr {X : Cx} {pins : List (Addr × Obj)} {σ : St} {H : Hp} {cls : Value} {d : Option Addr} {a : Addr} {B : Heap} {s : Shared} (G : Gd X pins σ H cls d a B s) (hs : X.stack = X.env :: X.outer) (hf : X.env.frame = some X.env.locals) : Gr X pins σ H cls d a B s := by
  obtain ⟨sI, J, nb, up, os⟩ := G.ex
  exact Gr.of hs hf J nb G.fl up os G.ag G.na
theorem Gd.again {X : Cx} {pins : List (Addr × Obj)} {σ : St} {H : Hp} {cls : Value} {d : Option Addr} {a : Addr} {B : Heap} {s : Shared} {h4 : Heap} (G : Gd X pins σ H cls d a B s) (fl : HandSPX.FlyingZ B (X.env :: X.outer) a (Zc cls d) h4) (up4 : s.heap.UpToSlots h4) : Gd X pins σ H cls d a B { s with heap := h4 } := by
  obtain ⟨sI, J, nb, up, os⟩ := G.ex
  exact ⟨⟨sI, J, nb, up.trans up4, os⟩, fl, G.ag, G.na⟩
theorem Gr.handled {pins : List (Addr × Obj)} {σ : St} {H : Hp} {cls : Value} {d : Option Addr} {a : Addr} {B : Heap} {D : Ends} (hN : X.N.Nodup) (hst : X.stack = X.env :: X.outer) (hf : X.env.frame = some X.env.locals) :
    ∀ {hs : List ExceptHandler} {cs : List (Value × Nat × TS)}, Clauses X hs cs → ∀ {s : Shared}, Gd X pins σ H cls d a B s → wAsVs X.K cs D cls d σ H →
      wpAny (model X.prog X.w) X.A (handleBy (.ref a) X.env hs) (SP X pins D) X.xe s
  | _, _, .nil, s, G, w => w.elim
  | _, _, .cons (x := x) (n := n) (c := c) (i := i) (suite := suite) (b₀ := b₀) (np := np) (pos' := pos') (ts := ts) hi hln hc hsu r, s, G0, w => by
    have G3 := G0.gr hst hf
    have ok := G3.inv.ok
    have out : ∀ (f : Flow) (s6 : Shared), SP (X.suite a (X.pn ++ pins)) [] { nx := fun σ' H' => D.nx (σ'.set i none) H', rt := D.rt, bk := fun σ' H' => D.bk (σ'.set i none) H', ct := fun σ' H' => D.ct (σ'.set i none) H' } f s6 →
        wpAny (model X.prog X.w) X.A (do bindName X.env n .none; unbindBehindTheSuite X.env n pos') (fun _ s7 => SP X pins D f s7) X.xe s6 := by
      intro f s6 q
      cases f with
      | next =>
        obtain ⟨σ6, H6, S6, q6⟩ := q
        exact gone_ok (unsuite ok S6) hN hi hln fun s7 J7 => ⟨_, _, J7, q6⟩
      | brk =>
        obtain ⟨σ6, H6, S6, q6⟩ := q
        exact gone_ok (unsuite ok S6) hN hi hln fun s7 J7 => ⟨_, _, J7, q6⟩
      | cont =>
        obtain ⟨σ6, H6, S6, q6⟩ := q
        exact gone_ok (unsuite ok S6) hN hi hln fun s7 J7 => ⟨_, _, J7, q6⟩
      | ret u =>
        obtain ⟨v6, σ6, H6, S6, r6, q6⟩ := q
        exact gone_ok (unsuite ok S6) hN hi hln fun s7 J7 => ⟨_, _, _, J7, r6, q6⟩
    have S3 := G3.suite
    obtain ⟨oe, vs, he, hz, _⟩ := G3.fl.there
    refine wpAny_handleBy_cons (codeAny_handlers_test ?_) (by intro q; cases q)
    have ty : PySem.W.Looks (model X.prog X.w) s.heap (typeOf (.ref a)) cls := fun A Q E s k q => wpAny_typeOf_ref (k _ _ he) (by rw [hz.1]; exact q)
    have nm : ∀ {Q E : Value → Shared → Prop}, Q c s → wpAny (model X.prog X.w) (X.A.mark (some (.ref a))) (eval (.Name x np) X.env) Q E s := by
      intro Q E q
      obtain ⟨hg, hd, h1 | ⟨h1, h2, h3⟩⟩ := hc
      · exact ld_glob (X := X.suite a (X.pn ++ pins)) S3 hg h1 q hd
      · exact ld_blt (X := X.suite a (X.pn ++ pins)) S3 hg h1 h2 q h3 hd
    rcases w with ⟨hm, hy⟩ | ⟨hm, w⟩
    · have mt := PySem.W.exm_one (M := model X.prog X.w) G3.inv.kIn ty hm
      refine nm (mt.here ?_)
      refine codeAny_handlers_suite_as (HandSPX.lands_againZ G0.fl fun h4 fl4 up4 => ?_)
      have G4 := (G0.again fl4 up4).gr hst hf
      refine store_ok (X := X.suite a (X.pn ++ pins)) (v := .ref a) G4.suite hN hi (.inl hln) rfl (fun s5 S5 => ?_) (.inr hln)
      exact wpAny_mono ((hsu a (X.pn ++ pins)).run [] s5 _ _ _ S5 (hy a G0.na)) (fun f s6 q => out f s6 q) fun _ _ z => z.elim
    · have mt := PySem.W.exm_one (M := model X.prog X.w) G3.inv.kIn ty hm
      refine nm (mt.here ?_)
      exact Gr.handled hN hst hf r G0 w
theorem ps_try_asVs {hs : List ExceptHandler} {cs : List (Value × Nat × TS)} {body : List Stmt} {pos : Pos} {tb : WX → TS} (hst : X.stack = X.env :: X.outer) (hf : X.env.frame = some X.env.locals) (hN : X.N.Nodup)
    (hb : ∀ (W : WX) (pn : List (Addr × Obj)) (xe : Value → Shared → Prop), Takes (X.tr pn xe) W → PassesOwn (model X.prog X.w) X.A X.env xe → PSs (X.tr pn xe) body (tb W))
    (hc : Clauses X hs cs) (h0 : hs ≠ []) : PS X (.Try body hs [] [] pos) (fun D σ H => tb (wAsVs X.K cs D) D σ H) := by
  constructor
  intro pins s σ H D I h
  have ok := I.ok
  obtain ⟨hd, tl, rfl⟩ := List.exists_cons_of_ne_nil h0
  have done : ∀ (f : Flow) (s1 : Shared), SP (X.tr (X.pn ++ pins) (fun e s₁ => wpAny (model X.prog X.w) X.A (noteFrame e X.env) (fun _ s₂ => wpAny (model X.prog X.w) X.A (setFlight e none) (fun _ s₃ =>
      wpAny (model X.prog X.w) X.A (handleBy e X.env (hd :: tl)) (SP X pins D) X.xe s₃) X.xe s₂) X.xe s₁)) [] D f s1 →
      (match f with | .next => wpAny (model X.prog X.w) X.A (execs [] X.env) (SP X pins D) X.xe s1 | f => SP X pins D f s1) := by
    intro f s1 q
    cases f with
    | next =>
      obtain ⟨σ2, H2, J2, q2⟩ := q
      exact wpAny_execs_nil ⟨σ2, H2, J2.ofTry ok, q2⟩
    | brk =>
      obtain ⟨σ2, H2, J2, q2⟩ := q
      exact ⟨σ2, H2, J2.ofTry ok, q2⟩
    | cont =>
      obtain ⟨σ2, H2, J2, q2⟩ := q
      exact ⟨σ2, H2, J2.ofTry ok, q2⟩
    | ret u =>
      obtain ⟨v, σ2, H2, J2, r, q2⟩ := q
      exact ⟨v, σ2, H2, J2.ofTry ok, r, q2⟩
  refine wpAny_Try_except (wpAny_mono ((hb (wAsVs X.K cs D) (X.pn ++ pins) _ ?_ PassesOwn.looking).run [] s σ H D (I.toTry _) h) done fun _ _ q => q)
  rintro u s1 ⟨a, B, sI, pins2, σ1, H1, cls, d, rfl, J2, nb, up, sky, na, os, ag, hw⟩
  have J := J2.ofTry (pins := pins) ok
  have frames : X.A.frames = some (X.env :: X.outer) := by rw [ok.frames, hst]
  refine Sky.land Zc.steady frames hf (show Sky B (X.env :: X.outer) a (Zc cls d) X.env.locals s1.heap by rw [← hst]; exact sky) fun h3 fl3 up3 => ?_
  exact Gr.handled hN hst hf hc (s := { s1 with heap := h3 }) ⟨⟨sI, J, nb, up.trans up3, os⟩, fl3, ag, na⟩ hw
end
end Z
namespace Z
open PySem PySem.Spec PyProof.Rows L2
open PySem.SeqAt PySem.MeetsSeq PySem.MeetsSeq2 PySem.MeetsSeq3 PySem.SeqRoads2
open PySem.AutoSeq1 (wpAny_loadPart')
/-! ### == of a dict and a tuple -/
section
variable {A : Around} {s : Shared}
def TupO (h : Heap) (l : Addr) : Prop := ∃ (dd : Option Addr) (its : Array Value) (n : Nat) (sl : Array (Option Value)), h.get? l = some { cls := .type "tuple", dict := dd, data := .seq its n, slots := sl }
theorem dict_declines_tuple {prog : Program} {w : World} {E : Value → Shared → Prop} {l t : Addr} {Q : Value → Shared → Prop} (hl : DictO s.heap l) (ht : TupO s.heap t) (q : Q .notImplemented s) :
    wpAny (model prog w) A (call (.builtin "dict.__eq__") [.ref l, .ref t]) Q E s := by
  obtain ⟨dd, es, ep, sl, hl⟩ := hl
  obtain ⟨dd2, its, n, sl2, ht⟩ := ht
  refine GQ.call_here F.slot_dict_eq ⟨_, hl, rfl⟩ F.entry_dict_eq (F.args_dict_eq_2 _ _) ?_
  obtain ⟨hp, g, d, tk, os⟩ := s
  have f1 := F.sub_tuple_dict
  wp_walk using wpAny_loadPart' hl, wpAny_load hl, wpAny_loadPart' ht, wpAny_load ht
  exact q
theorem tuple_declines_dict {prog : Program} {w : World} {E : Value → Shared → Prop} {l t : Addr} {Q : Value → Shared → Prop} (hl : DictO s.heap l) (ht : TupO s.heap t) (q : Q .notImplemented s) :
    wpAny (model prog w) A (call (.builtin "tuple.__eq__") [.ref t, .ref l]) Q E s := by
  obtain ⟨dd, es, ep, sl, hl⟩ := hl
  obtain ⟨dd2, its, n, sl2, ht⟩ := ht
  refine GQ.call_here F.slot_tuple_eq ⟨_, ht, rfl⟩ F.entry_tuple_eq (F.args_tuple_eq_2 _ _) ?_
  obtain ⟨hp, g, d, tk, os⟩ := s
  have f1 := F.sub_dict_tuple
  wp_walk using wpAny_loadPart' hl, wpAny_load hl, wpAny_loadPart' ht, wpAny_load ht
  exact q
theorem rc_dict_tuple {l t : Addr} (hl : DictO s.heap l) (ht : TupO s.heap t) (hu : A.units < cLine) : RcAt A s (.ref l) (.ref t) false := by
  intro prog w E Q h
  have tl : s.TypeIs (.ref l) "dict" := by
    obtain ⟨dd, es, ep, sl, hl⟩ := hl
    exact ⟨_, hl, rfl⟩
  have tt : s.TypeIs (.ref t) "tuple" := by
    obtain ⟨dd, its, n, sl, ht⟩ := ht
    exact ⟨_, ht, rfl⟩
  have ne : l ≠ t := by
    intro z
    subst z
    obtain ⟨_, _, _, _, e1⟩ := hl
    obtain ⟨_, _, _, _, e2⟩ := ht
    rw [e1] at e2
    have z := congrArg (Option.map Obj.cls) e2
    simp at z
  refine rc_eq_decline_or (k := false) tl tt (by decide) F.sub_tuple_dict F.slot_dict_eq F.slot_tuple_eq_refl (fun _ hq => dict_declines_tuple hl ht hq) (fun _ hq => tuple_declines_dict hl ht hq)
    (fun _ hq => ?_) (.inr hu) h
  obtain ⟨_, _, _, _, e1⟩ := hl
  obtain ⟨_, _, _, _, e2⟩ := ht
  first
    | exact wpAny_isSame_ref_other ne e1 e2 (by simp) hq
    | exact wpAny_isSame_ref_other' ne e1 e2 (by simp) hq
end
section
variable {X : Cx}
def rEqDT (K : PySem.W.Frag) : R2 := fun x y H Q => ∃ (a b : Addr) (kvs : List (Key × V)) (ys : List V), x = .ref a ∧ y = .ref b ∧ H a = some (.dK kvs) ∧ SqT K H b ys ∧ Q (.bl false) H
theorem op_eqDT (hu : X.A.units + 64 < cLine) : OpR X (compareOp .Eq) (rEqDT X.K) := by
  intro pins s σ H x y v u Q I rx ry h
  obtain ⟨a, b, kvs, ys, rfl, rfl, ha, hb, q⟩ := h
  obtain rfl : v = Value.ref a := rx
  obtain rfl : u = Value.ref b := ry
  have dO : DictO s.heap a := by
    obtain ⟨_, _, vs, _, ⟨oc, od, dt, sl⟩, es, ep, e1, e2, e3, _⟩ := (show ObjOk X.prog X.w H s.heap a (.dK kvs) from I.hok a _ ha)
    have c1 := e2.1
    simp only at c1 e3
    subst c1 e3
    exact ⟨od, es, ep, sl, e1⟩
  obtain ⟨its, rv, px, _⟩ := I.tuple hb
  have tO : TupO s.heap b := by
    obtain ⟨⟨oc, od, dt, sl⟩, e1, c1, n, d1⟩ := px
    simp only at c1 d1
    subst c1 d1
    exact ⟨od, _, n, sl, e1⟩
  exact rc_dict_tuple dO tO (show X.A.units < cLine by omega) X.prog X.w X.xe _ ⟨.bl false, H, I, rfl, q⟩
/-! ### == and != of lists whose items are alike one by one: the same object, or equal scalars -/
def SmV (v : V) : Prop := v = .non ∨ (∃ b, v = .bl b) ∨ (∃ i, v = .int i) ∨ (∃ z, v = .str z) ∨ ∃ a, v = .ref a
theorem smV_eq {A : Around} {s : Shared} {v : V} {u w : Value} (h : SmV v) (r1 : RelV v u) (r2 : RelV v w) : EqAt A s u w true := by
  rcases h with rfl | ⟨b, rfl⟩ | ⟨i, rfl⟩ | ⟨z, rfl⟩ | ⟨a, rfl⟩
  · cases r1; cases r2
    exact EqAt.same _
  · cases r1; cases r2
    exact EqAt.same _
  · obtain ⟨t1, rfl⟩ := r1
    obtain ⟨t2, rfl⟩ := r2
    have := EqAt.int_int (A := A) (s := s) i t1 i t2
    simpa using this
  · obtain ⟨t1, rfl⟩ := r1
    obtain ⟨t2, rfl⟩ := r2
    have := EqAt.str_str (A := A) (s := s) z t1 z t2
    simpa using this
  · cases r1; cases r2
    exact EqAt.same _
def rEqI (K : PySem.W.Frag) (neg : Bool) : R2 := fun x y H Q => ∃ (a b : Addr) (xs : List V), x = .ref a ∧ y = .ref b ∧ SqL K H a xs ∧ SqL K H b xs ∧ (∀ v ∈ xs, SmV v) ∧ Q (.bl (!neg)) H
theorem listsI {pins : List (Addr × Obj)} {σ : St} {H : Hp} {s : Shared} {a b : Addr} {xs : List V} (I : Inv X pins σ H s) (ha : SqL X.K H a xs) (hb : SqL X.K H b xs) (hs : ∀ v ∈ xs, SmV v) :
    ∃ i1 i2 : Array Value, s.heap.IsList a i1 ∧ s.heap.IsList b i2 ∧ i1.size = i2.size ∧ ∀ A j (h1 : j < i1.size) (h2 : j < i2.size), EqAt A s i1[j] i2[j] true := by
  obtain ⟨its1, r1, p1, _⟩ := I.list ha
  obtain ⟨its2, r2, p2, _⟩ := I.list hb
  refine ⟨its1.toArray, its2.toArray, p1.isList, p2.isList, ?_, fun A j h1 h2 => ?_⟩
  · simp only [List.size_toArray]
    exact r1.length.symm.trans r2.length
  · have h1' : j < its1.length := by simpa using h1
    have hj : j < xs.length := by rw [r1.length]; exact h1'
    obtain ⟨u1, e1, q1⟩ := r1.get (List.getElem?_eq_getElem hj)
    obtain ⟨u2, e2, q2⟩ := r2.get (List.getElem?_eq_getElem hj)
    have z1 : its1.toArray[j] = u1 := by
      have := (List.getElem?_eq_some_iff.mp e1).2
      simpa using this
    have z2 : its2.toArray[j] = u2 := by
      have := (List.getElem?_eq_some_iff.mp e2).2
      simpa using this
    rw [z1, z2]
    exact smV_eq (hs _ (List.getElem_mem hj)) q1 q2
theorem op_eqI (hu : X.A.units + 64 < cLine) : OpR X (compareOp .Eq) (rEqI X.K false) := by
  intro pins s σ H x y v u Q I rx ry h
  obtain ⟨a, b, xs, rfl, rfl, ha, hb, hs, q⟩ := h
  obtain rfl : v = Value.ref a := rx
  obtain rfl : u = Value.ref b := ry
  obtain ⟨i1, i2, p1, p2, hz, he⟩ := listsI I ha hb hs
  have rc := RcAt.lists (A := X.A) (e := fun _ => true) p1 p2 hz (show X.A.units < cLine by omega) fun j h1 h2 => he _ j h1 h2
  have e : ((List.range i1.size).all fun _ => true) = true := by simp
  rw [e] at rc
  exact rc X.prog X.w X.xe _ ⟨.bl true, H, I, rfl, q⟩
theorem op_neI (hu : X.A.units + 64 < cLine) : OpR X (compareOp .NotEq) (rEqI X.K true) := by
  intro pins s σ H x y v u Q I rx ry h
  obtain ⟨a, b, xs, rfl, rfl, ha, hb, hs, q⟩ := h
  obtain rfl : v = Value.ref a := rx
  obtain rfl : u = Value.ref b := ry
  obtain ⟨i1, i2, p1, p2, hz, he⟩ := listsI I ha hb hs
  have rc := RcNeAt.lists (A := X.A) (e := fun _ => true) p1 p2 hz (show X.A.units < cLine by omega) fun j h1 h2 => he _ j h1 h2
  have e : ((List.range i1.size).all fun _ => true) = true := by simp
  rw [e] at rc
  exact rc X.prog X.w X.xe _ ⟨.bl false, H, I, rfl, q⟩
def zEqI (K : PySem.W.Frag) : R2 := fun x y H Q => rEqI K false x y H Q ∨ rEqDT K x y H Q ∨ zEq K x y H Q
def zNeI (K : PySem.W.Frag) : R2 := fun x y H Q => rEqI K true x y H Q ∨ zNe K x y H Q
theorem op_zEqI (hu : X.A.units + 64 < cLine) : OpR X (compareOp .Eq) (zEqI X.K) := (op_eqI hu).or ((op_eqDT hu).or (op_zEq hu))
theorem op_zNeI (hu : X.A.units + 64 < cLine) : OpR X (compareOp .NotEq) (zNeI X.K) := (op_neI hu).or (op_zNe hu)
end
end Z
namespace Z
open PySem PySem.Spec PyProof.Rows L2
/-! ### C(e, .., k = v, ..), its __init__ may raise -/
def zMakeK (C : Addr) (n m : Nat) (sp : Sp) (gV : List V → List V → List V) (E : St → XK) (t tk : TA) : TE := fun σ H Q => t σ H fun vs H1 => tk σ H1 fun zs H2 => vs.length = n ∧ zs.length = m ∧ ∀ x dx, H2 x = none → H2 dx = none → dx ≠ x →
  sp (gV (.ref x :: vs) zs) (upd (upd H2 dx (.own x)) x (.ins C dx [])) (fun v H3 => v = .non ∧ Q (.ref x) H3) (E σ)
section
variable {gd : Bool} {X : Cx} {k n : Nat} {f C : Addr} {fd : FuncData} {ps ks : List Str} {sp : Sp} {E : St → XK} {x : Str} {p pos : Pos} {e : Expr} {es : List Expr} {kws : List Keyword} {t tk : TA} {g : List Value → List Value → List Value} {gV : List V → List V → List V}
theorem pe_makeZK (M : Mk X.K C f) (F : FnG gd X.prog X.w X.K X.mg X.base k f fd ps sp) (hr : Room (k + 1) X.A) (hgu : gd = true → X.A.guards = some []) (hg : Gl X x) (hm : X.mg x = some (.ref C)) (hb : KBn X.K fd ps (n + 1) ks g gV) (hx : ∀ σ, PassesAt (L2.CX X.prog X.w) X σ (E σ))
    (ha : PA X (e :: es) t) (hkw : PK X kws tk)
    (hall : (backToKw pos (keywordEach kws X.env)).all (·.1.isSome) = true := by rfl) (hks : (backToKw pos (keywordEach kws X.env)).filterMap (·.1) = ks := by rfl) (hdb : (x == ("__debug__" : Str)) = false := by decide)
    (he : starEach (e :: es) X.env = (false, eval e X.env) :: starEach es X.env := by rfl) (hpl : ((backTo pos (starEach (e :: es) X.env)).any (·.1) || (backToKw pos (keywordEach kws X.env)).any (·.1.isNone)) = false := by rfl) :
    PE X (.Call (.Name x p) (e :: es) kws pos) (zMakeK C n ks.length sp gV E t tk) := by
  constructor
  intro pins s σ H Q I h
  refine wpAny_Call_Name_kw (ld_glob I hg hm ?_ hdb)
  refine PySem.W.callWith_KW (h₀ := X.base) I.ok.mod.kin M.kp hall (thn (ha.run pos pins s σ H _ I h) fun us s1 ⟨vs, H1, I1, r, q⟩ => ?_) hpl he
  refine thn (hkw.run pos pins s1 σ H1 _ I1 q) fun ws s2 ⟨zs, H2, I2, rz, l1, l2, q2⟩ => ⟨I2.kIn, ?_⟩
  rw [hks]
  have n0 := I2.hok.fresh (Nat.le_refl s2.heap.objs.size)
  have n1 := I2.hok.fresh (Nat.le_succ s2.heap.objs.size)
  have hq := q2 _ _ n1 n0 (Nat.ne_of_lt (Nat.lt_succ_self _))
  have I3 := Inv.made (C := C) I2
  have r1 : Vals (V.ref (s2.heap.objs.size + 1) :: vs) (Value.ref (s2.heap.objs.size + 1) :: us) := .cons rfl r
  have r2 := hb.rel r1 rz
  have m1 : (Value.ref (s2.heap.objs.size + 1) :: us).length = n + 1 := by
    rw [List.length_cons, ← r.length, l1]
  show wpAny _ _ (call (.ref C) us (ks.zip ws)) _ _ _
  refine wpAny_call (make_map (f := f) I2.kIn M.makes M.init (beq_iff_eq.mp M.fn) (codeAny_mono (F.run _ X.stack _ _ ⟨Value.ref (s2.heap.objs.size + 1) :: us, ks.zip ws⟩ (g (Value.ref (s2.heap.objs.size + 1) :: us) ws) _ _ (E σ) (hr.make C us (ks.zip ws))
    (fun z => guards_make (hgu z)) (I3.env0.make C us (ks.zip ws)) (hb.to _ (Value.ref (s2.heap.objs.size + 1) :: us) ws I3.kIn m1 (rz.length.symm.trans l2)) r2 hq) fun r s' hq' => ?_))
  rcases r with er | fl
  · exact hx σ pins _ _ er s' I3 hq'
  · cases fl with
    | ret u =>
      obtain ⟨v, H', I4, rv, ev, q3⟩ := I3.after hq'
      subst ev
      exact ⟨rv, ⟨V.ref (s2.heap.objs.size + 1), H', I4, rfl, q3⟩⟩
    | next => exact hq'.elim
    | brk => exact hq'.elim
    | cont => exact hq'.elim
end
/-! ### cls(e, .., *xs), the class in a local name -/
def zNewS (i : Nat) (C : Addr) (sp : Sp) (E : XK) (t : TA) : TE := fun σ H Q => σ[i]? = some (some (.ref C)) ∧ t σ H fun vs H1 => ∀ o dx, H1 o = none → H1 dx = none → dx ≠ o → sp (.ref o :: vs) (upd (upd H1 dx (.own o)) o (.ins C dx [])) (fun v H2 => v = .non ∧ Q (.ref o) H2) E
section
variable {X : Cx} {k i : Nat} {f C : Addr} {sp : Sp} {x : Str} {e : Expr} {es : List Expr} {t : TA} {p pos : Pos} {E : XK}
theorem pe_zNewS (M : Mk X.K C f) (F : FnR X.prog X.w X.K X.mg X.base (L2.CX X.prog X.w) k f sp) (hr : Room (k + 1) X.A) (hN : X.N[i]? = some x) (hv : Vis X.env.scope x) (hx : Passes (L2.CX X.prog X.w) X E) (ha : PA X (e :: es) t)
    (hdb : (x == ("__debug__" : Str)) = false := by decide) (hcd : (x == ("__classdict__" : Str)) = false := by decide) (he : starEach (e :: es) X.env = (false, eval e X.env) :: starEach es X.env := by rfl) (hst : (backTo pos (starEach es X.env)).any (·.1) = true := by rfl) :
    PE X (.Call (.Name x p) (e :: es) [] pos) (zNewS i C sp E t) := by
  constructor
  intro pins s σ H Q I h
  obtain ⟨hs, ht⟩ := h
  refine wpAny_Call_Name_kw (thn ((pe_var (pos := p) hN hv hdb hcd).run pins s σ H (fun v H1 => v = .ref C ∧ H1 = H) I ⟨.ref C, hs, rfl, rfl⟩) ?_)
  rintro u s1 ⟨v, H1, I1, r1, rfl, rfl⟩
  cases r1
  refine PySem.W.callWith_S2 (h₀ := X.base) I.ok.mod.kin M.kp (thn (ha.run pos pins s1 σ _ _ I1 ht) ?_) he hst
  rintro us s2 ⟨vs, H2, I2, rv, q⟩
  exact ⟨I2.kIn, StX.run_makeR M F hr hx I2 rv q⟩
end
theorem bind_star3 {B : List Value → Sem (List (Str × Value))} {p1 p2 p3 pv : Str} (h0 : ∀ a b c, B [a, b, c] = (newTuple [] >>= fun t => pure [(p1, a), (p2, b), (p3, c), (pv, t)]))
    (h1 : ∀ a b c r rs, B (a :: b :: c :: r :: rs) = (newTuple (r :: rs) >>= fun t => pure [(p1, a), (p2, b), (p3, c), (pv, t)])) :
    ∀ us rest : List Value, us.length = 3 → B (us ++ rest) = (newTuple rest >>= fun t => pure (([p1, p2, p3] : List Str).zip us ++ [(pv, t)]))
  | [a, b, c], [], _ => h0 a b c
  | [a, b, c], r :: rs, _ => h1 a b c r rs
/-! ### one != other by an own __eq__ -/
section
variable {prog : Program} {w : World} {A : Around} {E : Value → Shared → Prop} {s : Shared} {K : PySem.W.Frag} {x C f : Addr} {ox : Obj} {od : Option Obj} {name : Str} {b : Value}
open PySem.W in
theorem ifBound_B {M : Model} {args : List Value} {id : String} {Q : Option Value → Shared → Prop} (X : K.In s.heap) (I : InstAt s.heap x ox C od) (hs : findIn K (.ref C) name = some (some (.builtin id))) (hb : ∀ self, bindSpecial (.builtin id) self = pure (.builtin id, [self]))
    (h : wpAny M A (call (.builtin id) (.ref x :: args)) (fun v => Q (some v)) E s) : wpAny M A (callSpecialIfBound? (.ref x) name args) Q E s := by
  simp only [callSpecialIfBound?, bindSpecialIfBound?]
  refine wpAny_holding (wpAny_bind (wpAny_bind (wpAny_bind (I.type.here ((looks_findIn X hs).here ?_)))))
  refine wpAny_bind (wpAny_askSetting (wpAny_ite ?_))
  have fin : wpAny M A (call (.builtin id) ([.ref x] ++ args) >>= fun v => pure (some v)) Q E s := wpAny_bind (wpAny_mono h (fun v s' h' => wpAny_pure h') fun _ _ h' => h')
  split
  · rw [hb]
    exact wpAny_bind (wpAny_pure (wpAny_pure (by exact fin)))
  · rw [hb]
    exact wpAny_tryCatch (wpAny_bind (wpAny_pure (wpAny_pure (by exact fin))))
open PySem.W in
theorem objNe_K (X : K.In s.heap) (I : InstAt s.heap x ox C od) (hs : findIn K (.ref C) "__eq__" = some (some (.ref f))) (hf : isFn K (.ref f) = true) (hu : A.units < cLine) {Q : Fin → Shared → Prop}
    (hcall : wpAny (model prog w) A (call (.ref f) [.ref x, b]) (fun v s' => ∃ c, v = .bool c ∧ Q (.done (.ret (.bool (!c)))) s') E s) :
    wpAny (model prog w) A (Builtin.«object.__ne__» ⟨[.ref x, b], []⟩) Q E s := by
  obtain ⟨hp, g, d, t, os⟩ := s
  unfold Builtin.«object.__ne__»
  repeat (first
    | with_reducible refine wpAny_cRoomFor hu ?_
    | (refine wpAny_bind (m := callSpecialIfBound? (.ref x) (Str.ofString "__eq__") [b])
        (ifBound_K X I hs hf (wpAny_mono hcall (fun r s' hr => by
          obtain ⟨c, rfl, hq⟩ := hr
          repeat (first | exact hq | exact wpAny_pure hq | exact wpAny_truthy_bool hq | (refine wpAny_bind (m := truthy (.bool _)) (wpAny_truthy_bool ?_)) | wp_step)) fun _ _ e => e)))
    | wp_step)
open PySem.W in
theorem tryNe_K (X : K.In s.heap) (I : InstAt s.heap x ox C od) (hs : findIn K (.ref C) "__eq__" = some (some (.ref f))) (hn : findIn K (.ref C) "__ne__" = some (some (.builtin "object.__ne__"))) (hf : isFn K (.ref f) = true) (hm : mroIn K C (.type "object") = some true)
    (hu : A.in1.units < cLine) {Q : Option Value → Shared → Prop} (hcall : wpAny (model prog w) A.in1 (call (.ref f) [.ref x, b]) (fun v s' => ∃ c, v = .bool c ∧ Q (some (.bool (!c))) s') E s) :
    wpAny (model prog w) A (tryCompare (.ref x) "__ne__" b) Q E s := by
  have FB := PySem.F.cmp_object
  have sub : Looks (model prog w) s.heap (isInstance (.ref x) (.type "object")) true := I.type.andThen (looks_mroIn X hm)
  simp only [tryCompare]
  refine wpAny_bind (ifBound_B X I hn FB.ne.bind (wpAny_call (codeAny_call_builtin FB.ne.plain PySem.F.cmpEntry_ne
    (@PySem.W.check_slot (model prog w) _ _ s "object.__ne__" "object" "__ne__" (.ref x) [b] [] _ PySem.F.cmpKind_ne PySem.F.cmpSplit_ne sub (PySem.F.cmpArgs_ne _ _)
      (objNe_K (A := A.in1) X I hs hf hu (wpAny_mono hcall (fun v s' hv => ?_) fun _ _ e => e))))))
  obtain ⟨c, rfl, hq⟩ := hv
  first | exact ⟨c, rfl, wpAny_pure hq⟩ | exact ⟨c, rfl, wpAny_pure (wpAny_pure hq)⟩ | exact ⟨c, rfl, hq⟩
end
def zNeO (C : Addr) (sp : Sp) : R2 := fun x y H Q => ∃ a b dx dy fs gs, x = .ref a ∧ y = .ref b ∧ H a = some (.ins C dx fs) ∧ H b = some (.ins C dy gs) ∧
  sp [x, y] H (fun v H1 => ∃ c, v = .bl c ∧ Q (.bl (!c)) H1) fun _ _ _ => False
section
variable {X : Cx} {n : Nat} {C f : Addr} {sp : Sp}
theorem op_zNeO (F : FnR X.prog X.w X.K X.mg X.base (L2.CX X.prog X.w) n f sp) (hs : PySem.W.findIn X.K (.ref C) "__eq__" = some (some (.ref f))) (hn : PySem.W.findIn X.K (.ref C) "__ne__" = some (some (.builtin "object.__ne__")))
    (hf : PySem.W.isFn X.K (.ref f) = true) (hm : PySem.W.mroIn X.K C (.type "object") = some true) (hr : Room (n + 1) X.A) : OpR X (compareOp .NotEq) (zNeO C sp) := by
  intro pins s σ H x y v u Q I rx ry h
  obtain ⟨a, b, dx, dy, fs, gs, rfl, rfl, ha, hb, h⟩ := h
  obtain rfl : v = Value.ref a := rx
  obtain rfl : u = Value.ref b := ry
  obtain ⟨mA, J1, _⟩ := ins_get I.hok ha
  obtain ⟨mB, J2, _⟩ := ins_get I.hok hb
  obtain ⟨od1, J1, _⟩ := J1.look
  obtain ⟨od2, J2, _⟩ := J2.look
  have room : Room n X.A.in1 := hr.in1
  have FB := PySem.F.cmp_object
  have ask : wpAny (model X.prog X.w) X.A.in1 (call (.ref f) [.ref a, .ref b]) (fun r s2 => ∃ c, r = .bool c ∧ EP X pins σ Q (.bool (!c)) s2) X.xe s := by
    have e := I.env0
    have e0 : Env0 X.prog X.w X.K X.mg X.base X.A.in1 X.stack s H := ⟨e.frames, e.mod, e.bs, e.bsz, e.funs, e.frf, e.hok, e.bare⟩
    refine wpAny_call (codeAny_mono (F X.A.in1 X.stack s H [.ref a, .ref b] [.ref a, .ref b] _ _ room e0 (.cons rfl (.cons rfl .nil)) h) fun r s2 hq => ?_)
    rcases r with er | fl
    · exact passN pins σ H s er s2 I hq
    · cases fl with
      | ret w =>
        obtain ⟨z, H2, I2, rz, c, ez, q⟩ := I.after hq
        subst ez
        obtain rfl : w = Value.bool c := rz
        exact ⟨c, rfl, .bl (!c), H2, I2, rfl, q⟩
      | next => exact hq.elim
      | brk => exact hq.elim
      | cont => exact hq.elim
  show wpAny (model X.prog X.w) X.A (richCompare .NotEq (.ref a) (.ref b)) (EP X pins σ Q) X.xe s
  obtain ⟨hp, g, d, tk, os⟩ := s
  have hun : X.A.units < cLine := hr.units0
  have hun1 : X.A.in1.units < cLine := room.units0
  unfold richCompare
  simp only [oneThing_ref]
  refine wpAny_holding (wpAny_bind (wpAny_cRoomFor hun ?_))
  rw [cmpInfo_NotEq]
  dsimp only
  refine wpAny_bind (J1.type.here (wpAny_bind (J2.type.here ?_)))
  rw [show (Value.ref C != Value.ref C) = false from by simp]
  simp only [Bool.false_eq_true, if_false]
  refine wpAny_bind (wpAny_pure ?_)
  simp only [Bool.false_eq_true, if_false]
  refine wpAny_bind (tryNe_K (s := ⟨hp, g, d, tk, os⟩) I.kIn J1 hs hn hf hm hun1 (wpAny_mono ask (fun r s' z => ?_) fun _ _ z => z))
  obtain ⟨c, rfl, q⟩ := z
  exact ⟨c, rfl, wpAny_pure q⟩
end
end Z
namespace Z
open PySem PySem.Spec PyProof.Rows L2
theorem kit_subT {K : PySem.W.Frag} {t : Value} {C : Addr} (hc : (PySem.W.clsIn K C).isSome = true) (ht : PySem.W.typeIn K (.ref C) = some (.type "type")) (hs : PySem.W.subIn K t (.ref C) = some true) : PySem.W.kitOne K t (.ref C) = some true := by
  unfold PySem.W.kitOne PySem.W.kitCls
  by_cases e : (t == Value.ref C) = true
  · rw [if_pos e]
  · rw [if_neg e]
    simp [hc, ht, hs]
theorem exm_other {K : PySem.W.Frag} {D C : Addr} (b : PySem.W.subIn K (.ref C) (.type "BaseException") = some true) (c : PySem.W.isClsIn K C = true) (t : PySem.W.typeIn K (.ref C) = some (.type "type")) (u : PySem.W.subIn K (.ref D) (.ref C) = some false) :
    PySem.W.exmOne K (.ref D) (.ref C) = some false := by
  have c' : (PySem.W.clsIn K C).isSome = true := c
  simp [PySem.W.exmOne, PySem.W.kitCls, b, c', t, u]
def rCountS : V → List V → Hp → VK → Prop := fun x xs H Q => ∃ a b, x = .str a ∧ xs = [.str b] ∧ Q (.int (Txt.count a b)) H
theorem mt_countZ {X : Cx} : MtR X "str.count" rCountS := mt_count
end Z
namespace Z
open PySem PySem.Spec PyProof.Rows L2
/-! ### defs with *rest and keyword-only names -/
/-- binding of such a def: what is left over is a new tuple, laid last -/
def BStar (s : Shared) (fd : FuncData) (args : Args) (ps : List Str) (u1 rest kv : List Value) : Prop :=
  ∀ (M : Model) (A : Around) (E : Value → Shared → Prop) (Q : List (Str × Value) → Shared → Prop), rest.length ≤ sizeLine →
    Q (ps.zip (u1 ++ kv ++ [.ref s.heap.objs.size])) { s with heap := s.heap.push ({ cls := .type "tuple", data := .seq rest.toArray } : Obj) } → wpAny M A (bindArgs fd args) Q E s
theorem BStar.of {s : Shared} {fd : FuncData} {args : Args} {ps : List Str} {u1 rest kv : List Value} (h : bindArgs fd args = (newTuple rest >>= fun t => pure (ps.zip (u1 ++ kv ++ [t])))) : BStar s fd args ps u1 rest kv := by
  intro M A E Q hl q
  rw [h]
  exact wpAny_bind (wpAny_newTuple (wpAny_pure q) hl)
/-- t looks the names up in the dict at D, one behind another, and goes on as r -/
def KwT {α : Type} (D : Addr) : List (Str × Value) → Sem α → Sem α → Prop
  | [], t, r => t = r
  | q :: l, t, r => ∃ (β γ : Type) (k1 : Option Value → Sem β) (k2 : β → Sem γ) (k3 : γ → Sem α) (a : β), t = ((nsGet D q.1 >>= k1) >>= k2) >>= k3 ∧ k1 (some q.2) = pure a ∧ KwT D l (k2 a >>= k3) r
theorem KwT.wp {α : Type} {K : PySem.W.Frag} {M : Model} {D : Addr} {s : Shared} {A : Around} {E : Value → Shared → Prop} {Q : α → Shared → Prop} (X : K.In s.heap) : ∀ {l : List (Str × Value)} {t r : Sem α}, (∀ q ∈ l, PySem.W.nsIn K D q.1 = some (some q.2)) → KwT D l t r → wpAny M A r Q E s → wpAny M A t Q E s
  | [], t, r, _, e, h => by
    rw [show t = r from e]
    exact h
  | q :: l, t, r, hl, e, h => by
    obtain ⟨β, γ, k1, k2, k3, a, e1, e2, e3⟩ := e
    have l1 : PySem.W.Looks M s.heap (nsGet D q.1 >>= k1) a := (PySem.W.looks_nsIn X (hl q (List.mem_cons_self ..))).andThen (PySem.W.Looks.of_pure e2)
    rw [e1, bind_assoc]
    exact wpAny_bind (l1.here (KwT.wp X (fun p hp => hl p (List.mem_cons_of_mem _ hp)) e3 h))
/-- .. its keyword-only names all left out -/
theorem BStar.kw {K : PySem.W.Frag} {s : Shared} {fd : FuncData} {args : Args} {ps : List Str} {u1 rest : List Value} {D : Addr} {l : List (Str × Value)} (X : K.In s.heap) (hl : ∀ q ∈ l, PySem.W.nsIn K D q.1 = some (some q.2))
    (h : KwT D l (bindArgs fd args) (newTuple rest >>= fun t => pure (ps.zip (u1 ++ l.map (·.2) ++ [t])))) : BStar s fd args ps u1 rest (l.map (·.2)) := by
  intro M A E Q hr q
  exact KwT.wp X hl h (wpAny_bind (wpAny_newTuple (wpAny_pure q) hr))
structure FnS (gd : Bool) (P : Program) (w : World) (K : PySem.W.Frag) (mg : Str → Option Value) (base : Heap) (k : Nat) (f : Addr) (fd : FuncData) (ps : List Str) (n m : Nat) (sp : Sp) : Prop where
  run : ∀ (A : Around) (outer : List Env) (s : Shared) (H : Hp) (args : Args) (u1 rest kv : List Value) (ws rs zs : List V) (Q : VK) (E : XK), Room k A → (gd = true → A.guards = some []) → Env0 P w K mg base A outer s H → BStar s fd args ps u1 rest kv →
    Vals ws u1 → Vals rs rest → Vals zs kv → ws.length = n → zs.length = m → rs.length ≤ sizeLine → (∀ p, H p = none → sp (ws ++ zs ++ [.ref p]) (upd H p (.tup rs)) Q E) → codeAny (model P w) A (.call (.ref f) args) (CR (L2.CX P w) outer P w H s Q E) s
theorem FnS.imp {gd : Bool} {P : Program} {w : World} {K : PySem.W.Frag} {mg : Str → Option Value} {base : Heap} {k : Nat} {f : Addr} {fd : FuncData} {ps : List Str} {n m : Nat} {sp sp' : Sp} (F : FnS gd P w K mg base k f fd ps n m sp) (h : ∀ vs H Q E, sp' vs H Q E → sp vs H Q E) : FnS gd P w K mg base k f fd ps n m sp' :=
  ⟨fun A outer s H args u1 rest kv ws rs zs Q E hr hg he hb h1 h2 h3 h4 h5 h6 hs => F.run A outer s H args u1 rest kv ws rs zs Q E hr hg he hb h1 h2 h3 h4 h5 h6 fun p hp => h _ _ _ _ (hs p hp)⟩
section
variable {gd : Bool} {P : Program} {w : World} {K : PySem.W.Frag} {mg : Str → Option Value} {base : Heap}
theorem okS {x qual : Str} {st : Stmt} {f : Addr} {fd : FuncData} {N ps : List Str} {k n m : Nat} {sp : Sp} (F : Fun K x qual st f fd) (S : FnScope N ps (defScope st)) (hps : ps.length = n + m + 1)
    (hbody : ∀ (cdv : Value) (A : Around) (outer : List Env) (s : Shared) (H : Hp) (vs : List V) (Q : VK) (E : XK),
      Room k (A.deeper (envOfC qual (defScope st) s.heap.objs.size f cdv)) → (gd = true → (A.deeper (envOfC qual (defScope st) s.heap.objs.size f cdv)).guards = some []) → sp vs H Q E →
      ∃ t, PSs (cxOf (L2.CX P w) P w K mg base N qual (defScope st) f cdv A outer s H E) (defBody st) t ∧ t { nx := fun _ H' => Q .non H', rt := Q } (start N vs) H) :
    FnS gd P w K mg base (k + 1) f fd ps n m sp := by
  obtain ⟨oc, od, kV, doc, pm, an, cdv, ct, osl, rfl, lk, hcd⟩ := F.ex
  refine ⟨fun A outer s H args u1 rest kv ws rs zs Q E hr hgu e0 hb r1 r2 r3 l1 l2 l3 hq => ?_⟩
  have hn : H s.heap.objs.size = Option.none := e0.hok.fresh (Nat.le_refl _)
  refine StX.run_bnd lk hcd S hr e0 (G := fun xs H2 => ∃ p, H p = Option.none ∧ xs = ws ++ zs ++ [V.ref p] ∧ H2 = upd H p (.tup rs)) (fun A' Ex Q' h => ?_) fun s2 H2 xs ⟨p, hp, ex, eH⟩ hr' => ?_
  · refine hb _ A' Ex Q' (by rw [← r2.length]; exact l3) ?_
    have new : ObjOk P w (upd H s.heap.objs.size (.tup rs)) (s.heap.push ({ cls := .type "tuple", data := .seq rest.toArray } : Obj)) s.heap.objs.size (.tup rs) := ⟨l3, rest, r2, ⟨_, Heap.get?_push_size _ rfl, rfl, _, rfl⟩⟩
    have un := StX.un_laid (fs := frs outer) (s := s) (o := ({ cls := .type "tuple", data := .seq rest.toArray } : Obj)) (u := .tup rs) hn
    refine h _ _ (ws ++ zs ++ [V.ref s.heap.objs.size]) (u1 ++ kv ++ [Value.ref s.heap.objs.size]) (StX.env0_laid e0 new) un rfl (fun e s' => StX.cxUp outer s H _ _ E e s' un (fun b o q => Heap.get?_push_of_some _ q) rfl) ((r1.append r3).append (.cons rfl .nil)) ?_ ⟨_, hn, rfl, rfl⟩
    rw [List.length_append, List.length_append, l1, l2, hps]
    rfl
  · subst ex eH
    exact hbody cdv A outer s2 _ _ Q E hr' hgu (hq p hp)
end
/-- how its arguments are bound, K in place: ks the names that a call writes, g and gV all keyword-only values -/
structure SBn (K : PySem.W.Frag) (fd : FuncData) (ps : List Str) (n m : Nat) (ks : List Str) (g : List Value → List Value) (gV : List V → List V) : Prop where
  to : ∀ (s : Shared) (u1 rest ws : List Value), K.In s.heap → u1.length = n → ws.length = ks.length → BStar s fd ⟨u1 ++ rest, ks.zip ws⟩ ps u1 rest (g ws)
  rel : ∀ {zs : List V} {ws : List Value}, Vals zs ws → Vals (gV zs) (g ws)
  len : ∀ zs : List V, zs.length = ks.length → (gV zs).length = m
/-! ### calls with * and keywords -/
open PySem PySem.Calls in
theorem call_starKw {M : Model} {A : Around} {E : Value → Shared → Prop} {s : Shared} {f : Value} {first : List Value} {pos : Pos} {Q : Value → Shared → Prop} {P : Heap → Prop} {args : List (Bool × Sem Value)} {kws : List (Option Str × Sem Value)}
    (hk : ∀ h, P h → ∃ k, (k = Keeper.frame ∨ k = Keeper.machine ∨ k = Keeper.boundFrame) ∧ PySem.W.Looks M h (keeperOf f) k) (hst : args.any (·.1) = true)
    (h : wpAny M A (evalArgs f true args kws) (fun a s₁ => P s₁.heap ∧ wpAny M A (call f (first ++ a.pos) a.kw) Q E s₁) E s) : wpAny M A (callWith pos f first args kws) Q E s := by
  unfold callWith
  refine wpAny_bind (wpAny_holding (wpAny_mono h (fun a s₁ h₁ => wpAny_bind (wpAny_standAt ?_)) fun _ _ x => x))
  obtain ⟨k, hk', L⟩ := hk _ h₁.1
  simp only [hst, Bool.true_or]
  refine wpAny_bind (L.here ?_)
  have tail : ∀ {t : Sem Value}, wpAny M A t Q E s₁ → wpAny M A (t >>= fun r => holding [r] point >>= fun _ => pure r) Q E s₁ :=
    fun ht => wpAny_bind (wpAny_mono ht (fun r s₂ hr => wpAny_bind (wpAny_holding (wpAny_point (wpAny_pure hr)))) fun _ _ x => x)
  have marked (mk : Value) : wpAny M A (callMarked mk f (first ++ a.pos) a.kw) Q E s₁ := by unfold callMarked; exact Calls.wpAny_keep h₁.2
  rcases hk' with rfl | rfl | rfl <;> dsimp only <;> first | exact tail (marked _) | exact tail (wpAny_operating h₁.2)
/-- f(*x, k = v, ..): the keywords stand ahead of what x gives -/
theorem args_loneKw {M : Model} {A : Around} {E : Value → Shared → Prop} {s : Shared} {env : Env} {f : Value} {x : Sem Value} {pos : Pos} {kws : List Keyword} {Q : Args → Shared → Prop} (hall : (backToKw pos (keywordEach kws env)).all (·.1.isSome) = true)
    (h : wpAny M A x (fun v s₁ => wpAny M A (evalAll ((backToKw pos (keywordEach kws env)).map (·.2))) (fun ks s₂ => PySem.W.StarOf M A E v (fun vs s₃ => Q ⟨vs, ((backToKw pos (keywordEach kws env)).filterMap (·.1)).zip ks⟩ s₃) s₂) E s₁) E s) :
    wpAny M A (evalArgs f true [(true, (do let v ← x; standAt pos; pure v))] (backToKw pos (keywordEach kws env))) Q E s := by
  unfold evalArgs
  refine wpAny_bind (wpAny_bind (wpAny_mono h (fun v s₁ h₁ => wpAny_bind (wpAny_standAt (wpAny_pure ?_))) fun _ _ x => x))
  refine wpAny_bind (wpAny_pure ?_)
  refine wpAny_holding ?_
  simp only [hall, if_true]
  refine wpAny_bind (wpAny_mono h₁ (fun ks s₂ h₂ => ?_) fun _ _ x => x)
  unfold PySem.W.StarOf at h₂
  refine wpAny_bind (wpAny_bind (wpAny_mono h₂ (fun b s₃ h₃ => ?_) fun _ _ x => x))
  obtain ⟨rfl, h₃⟩ := h₃
  have z := wpAny_holding (vs := (((backToKw pos (keywordEach kws env)).filterMap (·.1)).zip ks).map (·.2)) (wpAny_mono h₃ (fun vs s₄ h₄ => h₄) fun _ _ x => x)
  try simp only [Bool.false_eq_true, if_false]
  exact wpAny_mono z (fun vs s h => wpAny_pure h) fun _ _ e => e
/-! ### making an instance by such an __init__ -/
section
variable {gd : Bool} {X : Cx} {k n m i : Nat} {f C : Addr} {fd : FuncData} {ps ks : List Str} {sp : Sp} {E : St → XK} {x : Str} {p pos sp_ : Pos} {e : Expr} {es : List Expr} {kws : List Keyword} {te : TE} {t tk : TA} {g : List Value → List Value} {gV : List V → List V}
def NewS (C : Addr) (n : Nat) (sp : Sp) (gV : List V → List V) (E : XK) (vs zs : List V) (H : Hp) (Q : VK) : Prop := ∃ ws rs, vs = ws ++ rs ∧ ws.length = n ∧ rs.length ≤ sizeLine ∧ ∀ x dx p, H x = none → H dx = none → dx ≠ x → (upd (upd H dx (.own x)) x (.ins C dx [])) p = none →
  sp (.ref x :: (ws ++ gV zs ++ [.ref p])) (upd (upd (upd H dx (.own x)) x (.ins C dx [])) p (.tup rs)) (fun v H3 => v = .non ∧ Q (.ref x) H3) E
theorem run_newS {pins : List (Addr × Obj)} {σ : St} {H : Hp} {s : Shared} {Q : VK} {us kv : List Value} {vs zs : List V} {Ex : XK} (M : Mk X.K C f) (F : FnS gd X.prog X.w X.K X.mg X.base k f fd ps (n + 1) m sp) (hr : Room (k + 1) X.A) (hgu : gd = true → X.A.guards = some [])
    (B : SBn X.K fd ps (n + 1) m ks g gV) (hx : PassesAt (L2.CX X.prog X.w) X σ Ex) (I : Inv X pins σ H s) (r1 : Vals vs us) (r3 : Vals zs kv) (l2 : zs.length = ks.length) (h : NewS C n sp gV Ex vs zs H Q) :
    wpAny (model X.prog X.w) X.A (call (.ref C) us (ks.zip kv)) (EP X pins σ Q) X.xe s := by
  obtain ⟨ws, rs, rfl, l1, l3, h⟩ := h
  obtain ⟨u1, u2, rfl, q1, q2⟩ := StX.vals_split r1
  have n0 := I.hok.fresh (Nat.le_refl s.heap.objs.size)
  have n1 := I.hok.fresh (Nat.le_succ s.heap.objs.size)
  have I3 := Inv.made (C := C) I
  have e1 : (Value.ref (s.heap.objs.size + 1) :: u1).length = n + 1 := by rw [List.length_cons, ← q1.length, l1]
  refine wpAny_call (make_map (f := f) I.kIn M.makes M.init (beq_iff_eq.mp M.fn) (codeAny_mono (F.run _ X.stack _ _ ⟨Value.ref (s.heap.objs.size + 1) :: (u1 ++ u2), ks.zip kv⟩ (Value.ref (s.heap.objs.size + 1) :: u1) u2 (g kv) (V.ref (s.heap.objs.size + 1) :: ws) rs (gV zs) (fun v H3 => v = .non ∧ Q (.ref (s.heap.objs.size + 1)) H3) Ex
    (hr.make C (u1 ++ u2) (ks.zip kv)) (fun z => guards_make (hgu z)) (I3.env0.make C (u1 ++ u2) (ks.zip kv)) (B.to _ (Value.ref (s.heap.objs.size + 1) :: u1) u2 kv I3.kIn e1 (r3.length.symm.trans l2)) (.cons rfl q1) q2 (B.rel r3) (by rw [List.length_cons, l1]) (B.len zs l2) l3
    (fun p hp => h _ _ p n1 n0 (Nat.ne_of_lt (Nat.lt_succ_self _)) hp)) fun r s' hq' => ?_))
  rcases r with er | fl
  · exact hx pins _ _ er s' I3 hq'
  · cases fl with
    | ret u =>
      obtain ⟨v, H', I4, rv, ev, q3⟩ := I3.after hq'
      subst ev
      exact ⟨rv, ⟨V.ref (s.heap.objs.size + 1), H', I4, rfl, q3⟩⟩
    | next => exact hq'.elim
    | brk => exact hq'.elim
    | cont => exact hq'.elim
/-- cls(e, .., *y, k = v, ..), the class in a local name -/
def zNewSK (i : Nat) (C : Addr) (n j : Nat) (sp : Sp) (gV : List V → List V) (E : St → XK) (t tk : TA) : TE := fun σ H Q => σ[i]? = some (some (.ref C)) ∧ t σ H fun vs H1 => tk σ H1 fun zs H2 => zs.length = j ∧ NewS C n sp gV (E σ) vs zs H2 Q
theorem pe_zNewSK (M : Mk X.K C f) (F : FnS gd X.prog X.w X.K X.mg X.base k f fd ps (n + 1) m sp) (hr : Room (k + 1) X.A) (hgu : gd = true → X.A.guards = some []) (B : SBn X.K fd ps (n + 1) m ks g gV) (hN : X.N[i]? = some x) (hv : Vis X.env.scope x)
    (hx : ∀ σ, PassesAt (L2.CX X.prog X.w) X σ (E σ)) (ha : PA X (e :: es) t) (hkw : PK X kws tk)
    (hdb : (x == ("__debug__" : Str)) = false := by decide) (hcd : (x == ("__classdict__" : Str)) = false := by decide)
    (hall : (backToKw pos (keywordEach kws X.env)).all (·.1.isSome) = true := by rfl) (hks : (backToKw pos (keywordEach kws X.env)).filterMap (·.1) = ks := by rfl)
    (he : starEach (e :: es) X.env = (false, eval e X.env) :: starEach es X.env := by rfl) (hst : (backTo pos (starEach (e :: es) X.env)).any (·.1) = true := by rfl) :
    PE X (.Call (.Name x p) (e :: es) kws pos) (zNewSK i C n ks.length sp gV E t tk) := by
  constructor
  intro pins s σ H Q I h
  obtain ⟨hs, ht⟩ := h
  refine wpAny_Call_Name_kw (thn ((pe_var (pos := p) hN hv hdb hcd).run pins s σ H (fun v H1 => v = .ref C ∧ H1 = H) I ⟨.ref C, hs, rfl, rfl⟩) ?_)
  rintro u s1 ⟨v, H1, I1, r1, rfl, rfl⟩
  cases r1
  refine call_starKw (P := fun h => X.K.In h) (PySem.W.keeps_K M.kp) hst (evalArgs_kw2 hall (thn (ha.run pos pins s1 σ _ _ I1 ht) fun us s2 ⟨vs, H2, I2, rv, q⟩ => thn (hkw.run pos pins s2 σ H2 _ I2 q) fun kv s3 ⟨zs, H3, I3, rz, l2, q3⟩ => ⟨I3.kIn, ?_⟩) he)
  rw [hks]
  exact run_newS M F hr hgu B (hx σ) I3 rv rz l2 q3
/-- cls(*y, k = v, ..) -/
def zNewLK (K : PySem.W.Frag) (i : Nat) (C : Addr) (j : Nat) (sp : Sp) (gV : List V → List V) (E : St → XK) (te : TE) (tk : TA) : TE := fun σ H Q => σ[i]? = some (some (.ref C)) ∧ te σ H fun y H1 => tk σ H1 fun zs H2 => zs.length = j ∧ ∃ a xs, y = .ref a ∧ (SqT K H2 a xs ∨ SqL K H2 a xs) ∧ NewS C 0 sp gV (E σ) xs zs H2 Q
theorem pe_zNewLK (M : Mk X.K C f) (F : FnS gd X.prog X.w X.K X.mg X.base k f fd ps 1 m sp) (hr : Room (k + 1) X.A) (hgu : gd = true → X.A.guards = some []) (B : SBn X.K fd ps 1 m ks g gV) (hN : X.N[i]? = some x) (hv : Vis X.env.scope x)
    (hx : ∀ σ, PassesAt (L2.CX X.prog X.w) X σ (E σ)) (hy : PE X e te) (hkw : PK X kws tk)
    (hdb : (x == ("__debug__" : Str)) = false := by decide) (hcd : (x == ("__classdict__" : Str)) = false := by decide)
    (hall : (backToKw pos (keywordEach kws X.env)).all (·.1.isSome) = true := by rfl) (hks : (backToKw pos (keywordEach kws X.env)).filterMap (·.1) = ks := by rfl)
    (he : starEach [.Starred e sp_] X.env = [(true, eval e X.env)] := by rfl) :
    PE X (.Call (.Name x p) [.Starred e sp_] kws pos) (zNewLK X.K i C ks.length sp gV E te tk) := by
  constructor
  intro pins s σ H Q I h
  obtain ⟨hs, ht⟩ := h
  refine wpAny_Call_Name_kw (thn ((pe_var (pos := p) hN hv hdb hcd).run pins s σ H (fun v H1 => v = .ref C ∧ H1 = H) I ⟨.ref C, hs, rfl, rfl⟩) ?_)
  rintro u s1 ⟨v, H1, I1, r1, rfl, rfl⟩
  cases r1
  rw [he]
  refine call_starKw (P := fun h => X.K.In h) (PySem.W.keeps_K M.kp) rfl (args_loneKw hall (thn (hy.run pins s1 σ _ _ I1 ht) fun u s2 ⟨y, H2, I2, ry, q⟩ => thn (hkw.run pos pins s2 σ H2 _ I2 q) fun kv s3 ⟨zs, H3, I3, rz, l2, a, xs, ey, hxs, q3⟩ => ?_))
  subst ey
  obtain rfl : u = Value.ref a := ry
  refine StX.star_any I3 hxs fun us s4 I4 rv => ⟨I4.kIn, ?_⟩
  rw [hks]
  exact run_newS M F hr hgu B (hx σ) I4 rv rz l2 q3
/-- C(), C of the module, all its keyword-only names left out -/
def zMake0S (C : Addr) (sp : Sp) (gV : List V → List V) (E : St → XK) : TE := fun σ H Q => NewS C 0 sp gV (E σ) [] [] H Q
theorem pe_make0S (M : Mk X.K C f) (F : FnS gd X.prog X.w X.K X.mg X.base k f fd ps 1 m sp) (hr : Room (k + 1) X.A) (hgu : gd = true → X.A.guards = some []) (B : SBn X.K fd ps 1 m [] g gV) (hg : Gl X x) (hm : X.mg x = some (.ref C))
    (hx : ∀ σ, PassesAt (L2.CX X.prog X.w) X σ (E σ)) (hdb : (x == ("__debug__" : Str)) = false := by decide) : PE X (.Call (.Name x p) [] [] pos) (zMake0S C sp gV E) := by
  constructor
  intro pins s σ H Q I h
  refine wpAny_Call_Name_kw (ld_glob I hg hm ?_ hdb)
  refine PySem.W.callWith_K0 I.kIn M.kp ?_
  exact run_newS (us := []) (kv := []) M F hr hgu B (hx σ) I .nil .nil rfl h
end
end Z
namespace Z
open PySem PySem.Spec PyProof.Rows L2
/-! ### {e for x in xs if t}: a set of keys (ints) -/
def scGoI (w : World) (J : It) (g : TG) (tt : TT) (te : TE) (vs : List Nat) (σ : St) (H1 : Hp) (Q : VK) : Prop := ∀ D, H1 D = none →
  ∃ W : Nat → Nat → Hp → Prop, (∃ m, W 0 m (upd H1 D (SetO w D (fun _ => false) 0))) ∧ ∀ i m H, W i m H →
    (J.stop i H ∧ Q (.ref D) H) ∨ (J.go i H ∧ ∃ Nx : Hp → Prop, (∀ H', Nx H' → ∃ m', m' < m ∧ W (i + 1) m' H') ∧
      ∀ x H', J.yld i H x H' → g x (wipe σ vs) H' fun σ2 H2 => wipe σ2 vs = wipe σ vs ∧ tt σ2 H2 fun b H3 =>
        if b = true then te σ2 H3 fun y H4 => rSAdd w (.ref D) [y] H4 fun _ H5 => Nx H5 else Nx H3)
def zScI (w : World) (wi : TI) (g : TG) (tt : TT) (te : TE) (vs : List Nat) : TE := fun σ H Q => wi σ H fun J H1 => scGoI w J g tt te vs σ H1 Q
section
variable {X : Cx} {elt tg iter : Expr} {ifs : List Expr} {scope : Scope} {own : List (Str × Nat)} {wi : TI} {g : TG} {tt : TT} {te : TE}
theorem sc_turnsI {s3 : Shared} {fp : List Addr} {it D : Addr} {ce : Env} {J : It} {tn : Nat → Heap → Prop} {vs : List Nat} {σ : St} {Q : VK} {pos : Pos} {s4 : Shared} {m0 : Nat} {H3 : Hp} {R : Result → Shared → Prop} {W : Nat → Nat → Hp → Prop}
    (hc : X.calm = true) (T : Turn X.prog X.w X.K tg J fp it tn) (hg : PG (X.blk s3 H3 scope ce fp) tg g) (ht : PTs (X.blk s3 H3 scope ce fp) ifs tt) (he : PE (X.blk s3 H3 scope ce fp) elt te)
    (turn : ∀ i m H, W i m H → (J.stop i H ∧ Q (.ref D) H) ∨ (J.go i H ∧ ∃ Nx : Hp → Prop, (∀ H', Nx H' → ∃ m', m' < m ∧ W (i + 1) m' H') ∧
      ∀ x H', J.yld i H x H' → g x (wipe σ vs) H' fun σ2 H2 => wipe σ2 vs = wipe σ vs ∧ tt σ2 H2 fun b H3 =>
        if b = true then te σ2 H3 fun y H4 => rSAdd X.w (.ref D) [y] H4 fun _ H5 => Nx H5 else Nx H3))
    (I4 : Inv (X.blk s3 H3 scope ce fp) [] (wipe σ vs) H3 s4) (st4 : tn 0 s4.heap) (nfp : ∀ b ∈ fp, H3 b = none) (w0 : W 0 m0 H3)
    (out : ∀ H5 s6, Inv (X.blk s3 H3 scope ce fp) [] (wipe σ vs) H5 s6 → Q (.ref D) H5 → R (.ok .next) s6) :
    codeAny (model X.prog X.w) X.A (.compLoop (.SetComp elt [⟨tg, iter, ifs, 0⟩] scope pos) 0 (.ref it) (.ref D) ce) R s4 := by
  refine PpSet.compLoopS_any (fun n s' => ∃ i H', Inv (X.blk s3 H3 scope ce fp) [] (wipe σ vs) H' s' ∧ tn i s'.heap ∧ (∀ b ∈ fp, H' b = none) ∧ W i n H') ?_ m0 ⟨0, H3, I4, st4, nfp, w0⟩
  have stat : ∀ {σ' : St} {H' : Hp} {s' : Shared}, Inv (X.blk s3 H3 scope ce fp) [] σ' H' s' → (∀ b ∈ fp, H' b = none) → ∀ b ∈ fp, FpOk (X.blk s3 H3 scope ce fp) [] H' b := by
    intro σ' H' s' I' hn b hb
    obtain ⟨x1, x2⟩ := I'.ok.exf b hb
    refine ⟨hn b hb, x1, I'.ok.exfs b hb, .inl hb, fun x c e => x2 x c e, fun p hp => ?_⟩
    simp at hp
  rintro n s5 ⟨i, H5, I5, st5, n5, w5⟩
  rcases turn i n H5 w5 with ⟨stop, qq⟩ | ⟨go, Nx, hNx, step⟩
  · refine thnF (T.done (X.blk s3 H3 scope ce fp) rfl rfl rfl hc i [] s5 _ H5 (fun _ _ => False) I5 (stat I5 n5) st5 stop) ?_
    rintro r s6 ⟨rfl, I6⟩
    exact out H5 s6 I6 qq
  · refine thnF (T.item (X.blk s3 H3 scope ce fp) rfl rfl rfl hc i [] s5 _ H5 (fun _ _ => False) I5 (stat I5 n5) st5 go) ?_
    rintro r s6 ⟨u, rfl, h6⟩
    refine thnF h6 ?_
    rintro _ s7 ⟨x, H7, I7, r7, y7, st7, n7⟩
    have I7' := I7.pinned (stat I7 n7) (T.obj _ _ st7)
    refine thnF (hg.run _ s7 _ H7 x u _ I7' r7 (step x H7 y7)) ?_
    rintro _ s8 ⟨σ8, H8, I8, hw8, q8⟩
    refine thnF (ht.run _ s8 σ8 H8 _ I8 q8) ?_
    rintro b s9 ⟨H9, I9, q9⟩
    have fin : ∀ {s' : Shared} {H' : Hp}, Inv (X.blk s3 H3 scope ce fp) ([] ++ pinsAt fp s7.heap) σ8 H' s' → Nx H' →
        ∃ m, m < n ∧ ∃ i H', Inv (X.blk s3 H3 scope ce fp) [] (wipe σ vs) H' s' ∧ tn i s'.heap ∧ (∀ b ∈ fp, H' b = none) ∧ W i m H' := by
      intro s' H' I' nx
      obtain ⟨m', hm, w'⟩ := hNx H' nx
      have pin' : ∀ b ∈ fp, ∀ o, s7.heap.get? b = some o → s'.heap.get? b = some o ∧ H' b = none := fun b hb o e => by
        obtain ⟨z1, z2, _⟩ := I'.pin (b, o) (List.mem_append_right _ (List.mem_append_right _ (mem_pinsAt hb e)))
        exact ⟨z1, z2⟩
      have hl : (wipe σ vs).length = σ8.length := by rw [← hw8, wipe_length]
      refine ⟨m', hm, i + 1, H', (I'.unpinned (pins := [])).weak hl ?_, T.keep _ _ _ st7 fun b hb o e => (pin' b hb o e).1, ?_, w'⟩
      · intro j v e
        rw [← hw8] at e
        exact (wipe_some e).1
      · intro b hb
        obtain ⟨o, e, _⟩ := T.obj _ _ st7 b hb
        exact (pin' b hb o e).2
    cases b
    · simp only [Bool.false_eq_true, if_false] at q9 ⊢
      exact fin I9 q9
    · simp only [if_true] at q9 ⊢
      refine thnF (he.run _ s9 σ8 H9 _ I9 q9) ?_
      rintro z s10 ⟨yv, H10, I10, r10, q10⟩
      refine thnF (mt_sadd _ s10 σ8 H10 (.ref D) [yv] (.ref D) [z] _ I10 rfl (.cons r10 .nil) q10) ?_
      rintro _ s11 ⟨_, H11, I11, _, nx⟩
      exact fin I11 nx
theorem sc_runI {pins : List (Addr × Obj)} {s : Shared} {σ : St} {H : Hp} {Q : VK} {pos pos' : Pos} {use : Option (Value → Sem Unit)} {Qf : Value → Shared → Prop} (hc : X.calm = true) (hN : X.N.Nodup) (I : Inv X pins σ H s) (hi : PI X tg iter wi) (ok : BlkOk X.N X.env.scope scope own)
    (hg : ∀ (s : Shared) (H : Hp) (C : Addr) (cl : List (Str × Addr)) (fp : List Addr), PG (X.blk s H scope (compEnvC scope cl C X.env) fp) tg g)
    (ht : ∀ (s : Shared) (H : Hp) (C : Addr) (cl : List (Str × Addr)) (fp : List Addr), PTs (X.blk s H scope (compEnvC scope cl C X.env) fp) ifs tt)
    (he : ∀ (s : Shared) (H : Hp) (C : Addr) (cl : List (Str × Addr)) (fp : List Addr), PE (X.blk s H scope (compEnvC scope cl C X.env) fp) elt te)
    (hs : ∀ x, foldedSetIterable iter X.env x = pure x) (h : zScI X.w wi g tt te (own.map (·.2)) σ H Q)
    (done : ∀ D C s' m H', Inv X pins σ H' s' → Q (.ref D) H' → s'.heap.Ns C m → FpOk X pins H' C → compPost (model X.prog X.w) X.A X.xe use Qf (.ref D) C (.ok .next) s') :
    wpAny (model X.prog X.w) X.A (comprehension (.SetComp elt [⟨tg, iter, ifs, 0⟩] scope pos) scope X.env pos' (newSet (.type "set")) false (eval iter X.env) use) Qf X.xe s := by
  have hfree : ∀ y ∈ scope.names, y.2 = .free → ∃ c, X.env.cells.lookup y.1 = some c := by
    intro y hy e
    rcases ok.free y hy e with k | k
    · exact I.ok.has _ (.inl k)
    · exact I.ok.has _ (.inr k)
  refine wpAny_comprehension_free (use := use) rfl hs (closure_ok hfree) ok.kind (fun y hy e => by rw [ok.uniq y hy, e]) (thn (hi.run pins s σ H _ I h) fun xv s1 hx => thn hx ?_)
  rintro itv s2 ⟨it, fp, tn, J, H2, rfl, I2, T, st2, f2, q⟩
  refine PpSet.newSet_ok (newEnv_comp ?_)
  have hDn : H2 s2.heap.objs.size = none := I2.hok.fresh (Nat.le_refl _)
  obtain ⟨W, ⟨m0, w0⟩, turn⟩ := q _ hDn
  -- the new set is known
  have I3 : Inv X pins σ (upd H2 s2.heap.objs.size (SetO X.w s2.heap.objs.size (fun _ => false) 0)) { s2 with heap := s2.heap.push (set0 X.w) } :=
    I2.laid (t' := s2.toks) (fun b o e => Heap.get?_push_of_some _ e) (Nat.le_refl _) (setO_new (setR_fresh X.w))
  have f3 : ∀ b ∈ fp, FpOk X pins (upd H2 s2.heap.objs.size (SetO X.w s2.heap.objs.size (fun _ => false) 0)) b ∧ b < (s2.heap.push (set0 X.w)).objs.size := by
    intro b hb
    obtain ⟨o, e, _⟩ := T.obj _ _ st2 b hb
    have lt := Heap.lt_size e
    refine ⟨⟨?_, (f2 b hb).2⟩, by rw [Heap.size_push]; exact Nat.lt_succ_of_lt lt⟩
    rw [upd_ne (Nat.ne_of_lt lt)]
    exact (f2 b hb).1
  have st3 : tn 0 (s2.heap.push (set0 X.w)) := T.keep _ _ _ st2 fun b _ o e => Heap.get?_push_of_some _ e
  generalize hs3 : ({ s2 with heap := s2.heap.push (set0 X.w) } : Shared) = s3 at I3
  have h3 : s3.heap = s2.heap.push (set0 X.w) := by rw [← hs3]
  rw [← h3] at f3 st3
  generalize hH3 : upd H2 s2.heap.objs.size (SetO X.w s2.heap.objs.size (fun _ => false) 0) = H3 at I3 f3 w0
  have I4 := block_start I3 ok hN f3
  show codeAny _ _ (.compStart (.SetComp elt [⟨tg, iter, ifs, 0⟩] scope pos) 0 (.ref it) (.ref s2.heap.objs.size) (compEnvC scope (cellsFrom (s3.heap.objs.size + 1) scope.names (cloFrom X.env.cells scope.names [])) s3.heap.objs.size X.env)) (compPost (model X.prog X.w) X.A X.xe use Qf (.ref s2.heap.objs.size) s3.heap.objs.size) { s3 with heap := pushCells (s3.heap.push { cls := .type "dict", data := .dict #[] }) scope.names }
  have st4 : tn 0 (pushCells (s3.heap.push { cls := .type "dict", data := .dict #[] }) scope.names) := T.keep _ _ _ st3 fun b _ o e => pushCells_keeps _ _ _ _ (Heap.get?_push_of_some _ e)
  have nfp : ∀ b ∈ fp, H3 b = none := fun b hb => (f3 b hb).1.1
  have pg := hg s3 H3 s3.heap.objs.size (cellsFrom (s3.heap.objs.size + 1) scope.names (cloFrom X.env.cells scope.names [])) fp
  have pt := ht s3 H3 s3.heap.objs.size (cellsFrom (s3.heap.objs.size + 1) scope.names (cloFrom X.env.cells scope.names [])) fp
  have pe := he s3 H3 s3.heap.objs.size (cellsFrom (s3.heap.objs.size + 1) scope.names (cloFrom X.env.cells scope.names [])) fp
  generalize hce : compEnvC scope (cellsFrom (s3.heap.objs.size + 1) scope.names (cloFrom X.env.cells scope.names [])) s3.heap.objs.size X.env = ce at I4 pg pt pe ⊢
  have cL : ce.locals = s3.heap.objs.size := by
    rw [← hce]
    rfl
  have out : ∀ H5 s6, Inv (X.blk s3 H3 scope ce fp) [] (wipe σ (own.map (·.2))) H5 s6 → Q (.ref s2.heap.objs.size) H5 →
      compPost (model X.prog X.w) X.A X.xe use Qf (.ref s2.heap.objs.size) s3.heap.objs.size (.ok .next) s6 := by
    intro H5 s6 I6 qq
    have I7 : Inv X pins σ H5 s6 := I3.call' (ch := fp) I6.os I6.base I6.hok I6.bare fun b hb => by
      obtain ⟨⟨_, g1, _, g3, g4, g5⟩, _⟩ := f3 b hb
      exact ⟨g3, g1, g4, g5⟩
    have nC : H5 s3.heap.objs.size = none := by
      have z : H5 ce.locals = none := I6.free
      rwa [cL] at z
    obtain ⟨m, hn, _⟩ := I6.loc
    have hn : s6.heap.Ns ce.locals m := hn
    rw [cL] at hn
    exact done _ _ s6 m H5 I7 qq hn (I3.fpOk (Nat.le_refl _) nC)
  have loop := sc_turnsI (elt := elt) (iter := iter) (pos := pos) hc T pg pt pe turn I4 st4 nfp w0 out
  exact PpSet.codeAny_compStart_set loop (T.self X.A 0 _ _ _ st4 loop)
theorem pez_scI {pos : Pos} (hc : X.calm = true) (hN : X.N.Nodup) (hi : PI X tg iter wi) (ok : BlkOk X.N X.env.scope scope own)
    (hg : ∀ (s : Shared) (H : Hp) (C : Addr) (cl : List (Str × Addr)) (fp : List Addr), PG (X.blk s H scope (compEnvC scope cl C X.env) fp) tg g)
    (ht : ∀ (s : Shared) (H : Hp) (C : Addr) (cl : List (Str × Addr)) (fp : List Addr), PTs (X.blk s H scope (compEnvC scope cl C X.env) fp) ifs tt)
    (he : ∀ (s : Shared) (H : Hp) (C : Addr) (cl : List (Str × Addr)) (fp : List Addr), PE (X.blk s H scope (compEnvC scope cl C X.env) fp) elt te)
    (hs : ∀ x, foldedSetIterable iter X.env x = pure x := by intro _; rfl) :
    PE X (.SetComp elt [⟨tg, iter, ifs, 0⟩] scope pos) (zScI X.w wi g tt te (own.map (·.2))) := by
  constructor
  intro pins s σ H Q I h
  rw [PpSet.eval_SetComp]
  refine sc_runI hc hN I hi ok hg ht he hs h fun D C s' m H' I' q hn f => ⟨m, hn, fun h2 sb => ?_⟩
  obtain ⟨g0, g1, g2, g3, g4, g5⟩ := f
  exact ⟨.ref D, H', I'.turned (t' := s'.toks) (fun b o hb e => (sb.2 b hb).trans e) g0 g1 g3 g4 g5, rfl, q⟩
end
/-- a set of ints over a walk -/
theorem sc_zI {w : World} {J : It} {n : Nat} {G : Hp → Prop} {Y : Nat → Hp → V → Hp → Prop} (wk : Walk J n G Y) {g : TG} {tt : TT} {te : TE} {vs : List Nat} {σ : St} {H1 : Hp} {Q : VK} (Pv : Addr → Nat → Hp → Prop)
    (h0 : ∀ D, H1 D = none → Pv D 0 (upd H1 D (SetO w D (fun _ => false) 0))) (hG : ∀ D i H, H1 D = none → i ≤ n → Pv D i H → G H)
    (hs : ∀ D i x H H', H1 D = none → i < n → Pv D i H → Y i H x H' → g x (wipe σ vs) H' fun σ2 H2 => wipe σ2 vs = wipe σ vs ∧ tt σ2 H2 fun b H3 =>
      if b = true then te σ2 H3 fun y H4 => rSAdd w (.ref D) [y] H4 fun _ H5 => Pv D (i + 1) H5 else Pv D (i + 1) H3)
    (hd : ∀ D H, H1 D = none → Pv D n H → Q (.ref D) H) : scGoI w J g tt te vs σ H1 Q := by
  intro D hD
  refine ⟨fun i m H => m = n - i ∧ i ≤ n ∧ Pv D i H, ⟨n, by simp, Nat.zero_le _, h0 D hD⟩, ?_⟩
  rintro i m H ⟨rfl, hi, p⟩
  have q := hG D i H hD hi p
  rcases Nat.lt_or_ge i n with lt | ge
  · exact .inr ⟨wk.goes i H lt q, Pv D (i + 1), fun H' p' => ⟨n - (i + 1), by omega, rfl, lt, p'⟩, fun x H' y => hs D i x H H' hD lt p (wk.yields i H x H' lt q y)⟩
  · obtain rfl : i = n := Nat.le_antisymm hi ge
    exact .inl ⟨wk.stops H q, hd D H hD p⟩

end Z
namespace Z
open PySem PySem.Spec PyProof.Rows L2
/-! ### what is never reached -/
def zDead : TE := fun _ _ _ => False
def tDead : TS := fun _ _ _ => False
def aDead : TA := fun _ _ _ => False
def ttDead : TT := fun _ _ _ => False
section
variable {X : Cx}
theorem pe_dead {e : Expr} : PE X e zDead := ⟨fun _ _ _ _ _ _ h => h.elim⟩
theorem ps_dead {s : Stmt} : PS X s tDead := ⟨fun _ _ _ _ _ _ h => h.elim⟩
theorem pss_dead {ss : List Stmt} : PSs X ss tDead := ⟨fun _ _ _ _ _ _ h => h.elim⟩
theorem pt_dead {e : Expr} : PT X e ttDead := ⟨fun _ _ _ _ _ _ h => h.elim⟩
theorem PE.or {e : Expr} {t1 t2 : TE} (h1 : PE X e t1) (h2 : PE X e t2) : PE X e (fun σ H Q => t1 σ H Q ∨ t2 σ H Q) := ⟨fun pins s σ H Q I h => h.elim (h1.run pins s σ H Q I) (h2.run pins s σ H Q I)⟩
end
/-! ### C() where there is no __init__ but object's -/
structure Mk0 (K : PySem.W.Frag) (C : Addr) : Prop where
  makes : PySem.W.makesIn K C = true
  init : PySem.W.findIn K (.ref C) "__init__" = some (some (.builtin "object.__init__"))
  kp : PySem.W.keepIn K (.ref C) = true
def zMake0 (C : Addr) : TE := fun σ H Q => ∀ x dx, H x = none → H dx = none → dx ≠ x → Q (.ref x) (upd (upd H dx (.own x)) x (.ins C dx []))
section
variable {X : Cx} {C : Addr} {x : Str} {p pos : Pos}
theorem pe_make00 (M : Mk0 X.K C) (hm0 : PySem.W.mroIn X.K C (.type "object") = some true) (hg : Gl X x) (hm : X.mg x = some (.ref C)) (hdb : (x == ("__debug__" : Str)) = false := by decide) : PE X (.Call (.Name x p) [] [] pos) (zMake0 C) := by
  constructor
  intro pins s σ H Q I h
  refine wpAny_Call_Name_kw (ld_glob I hg hm ?_ hdb)
  refine PySem.W.callWith_K0 I.kIn M.kp ?_
  have n0 := I.hok.fresh (Nat.le_refl s.heap.objs.size)
  have n1 := I.hok.fresh (Nat.le_succ s.heap.objs.size)
  have I3 := Inv.made (C := C) I
  have q := h _ _ n1 n0 (Nat.ne_of_lt (Nat.lt_succ_self _))
  refine wpAny_call (make_map0 I.kIn M.makes M.init (fun self => PySem.W.Looks.of_pure (PySem.W.oi_bind self)) ?_)
  have e1 : ((s.heap.push PySem.W.emptyDict).push (PySem.W.instObj C s.heap.objs.size)).get? (s.heap.objs.size + 1) = some (PySem.W.instObj C s.heap.objs.size) := by
    have := Heap.get?_push_size (s.heap.push PySem.W.emptyDict) (o := PySem.W.instObj C s.heap.objs.size) rfl
    rwa [Heap.size_push] at this
  have t1 : PySem.W.Looks (model X.prog X.w) ((s.heap.push PySem.W.emptyDict).push (PySem.W.instObj C s.heap.objs.size)) (typeOf (.ref (s.heap.objs.size + 1))) (.ref C) := (PySem.W.Looks.ld e1).andThen .now
  have t2 : PySem.W.Looks (model X.prog X.w) ((s.heap.push PySem.W.emptyDict).push (PySem.W.instObj C s.heap.objs.size)) (isInstance (.ref (s.heap.objs.size + 1)) (.type "object")) true := t1.andThen (PySem.W.looks_mroIn I3.kIn hm0)
  refine codeAny_call_builtin PySem.W.oi_plain PySem.W.entry_oi (@PySem.W.check_slot (model X.prog X.w) _ _ _ "object.__init__" "object" "__init__" (.ref (s.heap.objs.size + 1)) [] [] _ PySem.W.oi_kind PySem.W.oi_split t2 (PySem.W.oi_args (.ref (s.heap.objs.size + 1))) ?_)
  rw [PySem.W.oi_run]
  exact wpAny_pure ⟨rfl, ⟨V.ref (s.heap.objs.size + 1), _, I3, rfl, q⟩⟩
end
/-! ### isinstance that is false -/
theorem kit_subF {K : PySem.W.Frag} {D C : Addr} (h1 : PySem.W.subIn K (.ref D) (.ref D) = some true) (hc : (PySem.W.clsIn K C).isSome = true) (ht : PySem.W.typeIn K (.ref C) = some (.type "type")) (hs : PySem.W.subIn K (.ref D) (.ref C) = some false) : PySem.W.kitOne K (.ref D) (.ref C) = some false := kit_cls (kit_ne h1 hs) hc ht hs
/-! ### classmethods called with keywords, and with what they have by default -/
def zCMethD (C : Addr) (sp : Sp) (dvs : List V) (E : St → XK) (ta : TE) (t : TA) : TE := fun σ H Q => ta σ H fun x H1 => x = .ref C ∧ t σ H1 fun vs H2 => sp (.ref C :: (vs ++ dvs)) H2 Q (E σ)
def zCMethK (C : Addr) (n j : Nat) (sp : Sp) (gV : List V → List V → List V) (E : St → XK) (ta : TE) (t tk : TA) : TE := fun σ H Q => ta σ H fun x H1 => x = .ref C ∧ t σ H1 fun vs H2 => tk σ H2 fun zs H3 => vs.length = n ∧ zs.length = j ∧ sp (gV (.ref C :: vs) zs) H3 Q (E σ)
section
variable {X : Cx} {gd : Bool} {k n : Nat} {C g p : Addr} {fd : FuncData} {ps ks : List Str} {mc : Value} {sp : Sp} {E : St → XK} {o e : Expr} {es : List Expr} {kws : List Keyword} {m : Str} {pos apos : Pos} {ta : TE} {t tk : TA} {pl : Sem Bool} {dvs : List V} {ds : List Value}
  {gU : List Value → List Value → List Value} {gV : List V → List V → List V}
theorem pe_cmethD (he : PE X o ta) (r : ClX.CRead X.K C mc) (c : ClX.CMet X.K C mc m p g) (F : FnG gd X.prog X.w X.K X.mg X.base k g fd ps sp) (hr : Room k X.A) (hgu : gd = true → X.A.guards = some []) (hb : Binds X.K fd ps ds) (hd : Vals dvs ds) (hx : ∀ σ, PassesAt (L2.CX X.prog X.w) X σ (E σ)) (ha : PA X (e :: es) t)
    (hst : starEach (e :: es) X.env = (false, eval e X.env) :: starEach es X.env := by rfl) (hpl : (backTo pos (starEach es X.env)).any (·.1) = false := by rfl)
    (ht : eval (.Call (.Attribute o m apos) (e :: es) [] pos) X.env = (do
      let ov ← eval o X.env
      standAt apos.atName
      let (f, first) ← holding [ov] (getMethod ov m pl)
      callWith pos f first (backTo pos (starEach (e :: es) X.env)) (backToKw pos (keywordEach [] X.env))) := by rfl) :
    PE X (.Call (.Attribute o m apos) (e :: es) [] pos) (zCMethD C sp dvs E ta t) := by
  constructor
  intro pins s σ H Q I h
  refine PySem.W.methodCall_KW (pl := pl) (thn (he.run pins s σ H _ I h) ?_) ht
  rintro u s1 ⟨z, H1, I1, rz, rfl, q⟩
  obtain rfl : u = Value.ref C := rz
  refine ClX.getmethcm_ok I1 r c fun s2 I2 => ClX.callwith_cm I2 (ClX.base_none I1 (Nat.le_refl _)) c.fi (thn (ha.run pos _ s2 σ H1 _ I2 q) ?_) hst hpl
  rintro us s3 ⟨vs, H2, I3, rv, q2⟩
  have rc : Vals (V.ref C :: (vs ++ dvs)) (Value.ref C :: (us ++ ds)) := .cons rfl (rv.append hd)
  have hl : (Value.ref C :: (us ++ ds)).length = ps.length := rc.length.symm.trans (F.len _ _ _ _ q2)
  have z : wpAny (model X.prog X.w) X.A (call (.ref s1.heap.objs.size) us) (EP X ((s1.heap.objs.size, PySem.W.methodObj (.ref g) (.ref C)) :: pins) σ Q) X.xe s3 := by
    refine wpAny_call (PySem.W.method_call (ClX.pin_at I3) ?_)
    refine codeAny_mono (F.run X.A X.stack s3 H2 ⟨Value.ref C :: us, []⟩ (Value.ref C :: (us ++ ds)) (V.ref C :: (vs ++ dvs)) Q (E σ) hr hgu I3.env0 (hb s3 (Value.ref C :: us) I3.kIn hl) rc q2) fun w s4 hq => ?_
    cases w with
    | error er => exact hx σ _ H2 s3 er s4 I3 hq
    | ok fl =>
      cases fl with
      | ret u => exact I3.after hq
      | next => exact hq.elim
      | brk => exact hq.elim
      | cont => exact hq.elim
  exact ⟨⟨ClX.pin_at I3, I3.kIn⟩, thn z fun _ _ y => ClX.unpinE y⟩
theorem pe_cmethK (he : PE X o ta) (r : ClX.CRead X.K C mc) (c : ClX.CMet X.K C mc m p g) (F : FnG gd X.prog X.w X.K X.mg X.base k g fd ps sp) (hr : Room k X.A) (hgu : gd = true → X.A.guards = some []) (hb : KBn X.K fd ps (n + 1) ks gU gV) (hx : ∀ σ, PassesAt (L2.CX X.prog X.w) X σ (E σ)) (ha : PA X (e :: es) t) (hkw : PK X kws tk)
    (hall : (backToKw pos (keywordEach kws X.env)).all (·.1.isSome) = true := by rfl) (hks : (backToKw pos (keywordEach kws X.env)).filterMap (·.1) = ks := by rfl)
    (hst : starEach (e :: es) X.env = (false, eval e X.env) :: starEach es X.env := by rfl) (hpl : ((backTo pos (starEach (e :: es) X.env)).any (·.1) || (backToKw pos (keywordEach kws X.env)).any (·.1.isNone)) = false := by rfl)
    (ht : eval (.Call (.Attribute o m apos) (e :: es) kws pos) X.env = (do
      let ov ← eval o X.env
      standAt apos.atName
      let (f, first) ← holding [ov] (getMethod ov m pl)
      callWith pos f first (backTo pos (starEach (e :: es) X.env)) (backToKw pos (keywordEach kws X.env))) := by rfl) :
    PE X (.Call (.Attribute o m apos) (e :: es) kws pos) (zCMethK C n ks.length sp gV E ta t tk) := by
  constructor
  intro pins s σ H Q I h
  refine PySem.W.methodCall_KW (pl := pl) (thn (he.run pins s σ H _ I h) ?_) ht
  rintro u s1 ⟨z, H1, I1, rz, rfl, q⟩
  obtain rfl : u = Value.ref C := rz
  refine ClX.getmethcm_ok I1 r c fun s2 I2 => PySem.W.callWith_of (P := PySem.W.MethP X.K s1.heap.objs.size g (.ref C)) hpl (PySem.W.keeps_M c.fi) (evalArgs_kw2 hall (thn (ha.run pos _ s2 σ H1 _ I2 q) ?_) hst)
  rintro us s3 ⟨vs, H2, I3, rv, q2⟩
  refine thn (hkw.run pos _ s3 σ H2 _ I3 q2) ?_
  rintro ws s4 ⟨zs, H3, I4, rz, l1, l2, q3⟩
  rw [hks]
  have rc : Vals (V.ref C :: vs) (Value.ref C :: us) := .cons rfl rv
  have m1 : (Value.ref C :: us).length = n + 1 := by rw [List.length_cons, ← rv.length, l1]
  have z : wpAny (model X.prog X.w) X.A (call (.ref s1.heap.objs.size) us (ks.zip ws)) (EP X ((s1.heap.objs.size, PySem.W.methodObj (.ref g) (.ref C)) :: pins) σ Q) X.xe s4 := by
    refine wpAny_call (PySem.W.method_call (ClX.pin_at I4) ?_)
    refine codeAny_mono (F.run X.A X.stack s4 H3 ⟨Value.ref C :: us, ks.zip ws⟩ (gU (Value.ref C :: us) ws) (gV (V.ref C :: vs) zs) Q (E σ) hr hgu I4.env0 (hb.to _ (Value.ref C :: us) ws I4.kIn m1 (rz.length.symm.trans l2)) (hb.rel rc rz) q3) fun w s5 hq => ?_
    cases w with
    | error er => exact hx σ _ H3 s4 er s5 I4 hq
    | ok fl =>
      cases fl with
      | ret u => exact I4.after hq
      | next => exact hq.elim
      | brk => exact hq.elim
      | cont => exact hq.elim
  exact ⟨⟨ClX.pin_at I4, I4.kIn⟩, thn z fun _ _ y => ClX.unpinE y⟩
end
/-! ### a def with positional defaults -/
structure FunA (K : PySem.W.Frag) (x qual : Str) (st : Stmt) (f : Addr) (fd : FuncData) : Prop where
  ex : ∃ (oc : Value) (od : Option Addr) (dV kV doc pm : Value) (an : Option Addr) (cdv ct : Value) (osl : Array (Option Value)),
    fd = PySem.W.fnOf x qual (defArgs st) (defBody st) (defScope st) dV kV doc pm an cdv ct ∧ K.lookup f = some ⟨oc, od, .func fd, osl⟩ ∧ PySem.W.codeIn K cdv qual = true
section
variable {gd : Bool} {P : Program} {w : World} {K : PySem.W.Frag} {mg : Str → Option Value} {base : Heap}
theorem okA {x qual : Str} {st : Stmt} {f : Addr} {fd : FuncData} {N ps : List Str} {k : Nat} {sp : Sp} (F : FunA K x qual st f fd)
    (S : FnScope N ps (defScope st)) (len : ∀ vs H Q E, sp vs H Q E → vs.length = ps.length)
    (hbody : ∀ (cdv : Value) (A : Around) (outer : List Env) (s : Shared) (H : Hp) (vs : List V) (Q : VK) (E : XK),
      Room k (A.deeper (envOfC qual (defScope st) s.heap.objs.size f cdv)) →
      (gd = true → (A.deeper (envOfC qual (defScope st) s.heap.objs.size f cdv)).guards = some []) → sp vs H Q E →
      ∃ t, PSs (cxOf (L2.CX P w) P w K mg base N qual (defScope st) f cdv A outer s H E) (defBody st) t ∧
        t { nx := fun _ H' => Q .non H', rt := Q } (start N vs) H) :
    FnG gd P w K mg base (k + 1) f fd ps sp := by
  obtain ⟨oc, od, dV, kV, doc, pm, an, cdv, ct, osl, rfl, lk, hcd⟩ := F.ex
  refine ⟨len, fun A outer s H args us vs Q E hr hgu e0 hb r hsp => ?_⟩
  have hl := len _ _ _ _ hsp
  have KX : K.In s.heap := e0.mod.kin.keeps fun b o z => (e0.bs b o z).1
  have lim : s.heap.NoLimit := e0.mod.nolimit.keeps fun b o z => (e0.bs b o z).1
  have hkind : ∀ y ∈ ps.zip us, (defScope st).names.lookup y.1 = some .local ∨
      ((defScope st).names.lookup y.1 = some .cell ∧ ((cellsFrom (s.heap.objs.size + 1) (defScope st).names []).lookup y.1).isSome = true) := by
    intro y hy
    obtain ⟨n, v⟩ := y
    rcases S.par n (List.of_mem_zip hy).1 with q | q
    · exact .inl q
    · exact .inr ⟨q, PySem.W.cellsFrom_some _ _ _ (.inl q)⟩
  refine codeAny_call_function hr.depth (KX _ _ lk) rfl S.co S.gen rfl (PySem.W.codeRec_of KX hcd) (hb _ _ _ _ ?_)
  refine wpAny_newFunctionEnv_cells S.kind hkind fun env he s1 x => ?_
  subst he
  refine ⟨lim.keeps x.toInCall.keep, codeAny_func ?_⟩
  obtain ⟨t, ht, hq⟩ := hbody cdv A outer s H vs Q E (hr.deeper _) hgu hsp
  have I := inv_start (CX := L2.CX P w) (E := E) S hr.hd e0 hl r x
  refine wpAny_mono (ht.run [] s1 (start N vs) H _ I hq) (fun fl s' hs => ?_) fun e s' hs => hs
  cases fl with
  | ret u =>
    obtain ⟨v, σ', H', J, rv, q⟩ := hs
    exact ⟨v, H', J.os, J.bare, J.base, J.hok, rv, q⟩
  | next =>
    obtain ⟨σ', H', J, q⟩ := hs
    exact ⟨V.non, H', J.os, J.bare, J.base, J.hok, rfl, q⟩
  | brk => exact False.elim hs.choose_spec.choose_spec.2
  | cont => exact False.elim hs.choose_spec.choose_spec.2
/-- what a written def with a tuple of defaults is -/
theorem funA_mk {x qual : Str} {st : Stmt} {f : Addr} {oc : Value} {od an : Option Addr} {osl : Array (Option Value)} {dV kV doc pm cdv ct : Value} (l : K.lookup f = some ⟨oc, od, .func (PySem.W.fnOf x qual (defArgs st) (defBody st) (defScope st) dV kV doc pm an cdv ct), osl⟩)
    (c : PySem.W.codeIn K cdv qual = true) : FunA K x qual st f (PySem.W.fnOf x qual (defArgs st) (defBody st) (defScope st) dV kV doc pm an cdv ct) := ⟨⟨oc, od, dV, kV, doc, pm, an, cdv, ct, osl, rfl, l, c⟩⟩
end
end Z
namespace Z
open PySem PySem.Spec PyProof.Rows L2
/-! ### repr of lists of lists of things, dicts among them -/
mutual
inductive DpN (K : PySem.W.Frag) (H : Hp) : V → PyData → Prop
  | base {v : V} {d : PyData} (h : DpR K H v d) : DpN K H v d
  | lst {a : Addr} {vs : List V} {ds : List PyData} (hq : SqL K H a vs) (hs : DpNs K H vs ds) : DpN K H (.ref a) (.list ds)
inductive DpNs (K : PySem.W.Frag) (H : Hp) : List V → List PyData → Prop
  | nil : DpNs K H [] []
  | cons {v : V} {d : PyData} {vs : List V} {ds : List PyData} (h : DpN K H v d) (t : DpNs K H vs ds) : DpNs K H (v :: vs) (d :: ds)
end
def RpK (prog : Program) (w : World) (h : Heap) (u : Value) (d : PyData) : Prop := (∃ as, Reads h u d as) ∧ (d.showable = true → d.shown.length ≤ sizeLine → ∃ bs, ReadAtMost h d.depth bs ∧ ReprK prog w bs h d.depth u d.shown)
section
variable {prog : Program} {w : World} {h : Heap}
theorem rpk_of {u : Value} {d : PyData} (r : Rdd h u d) : RpK prog w h u d := by
  obtain ⟨as, r, hm⟩ := r
  exact ⟨⟨as, r⟩, fun hs hz => ReprK.of_reads r hs hm hz⟩
theorem rpk_each : ∀ {vs : List Value} {ds : List PyData}, Paired (RpK prog w h) vs ds → PyData.showableAll ds = true → (∀ t ∈ PyData.shownAll ds, t.length ≤ sizeLine) →
    (∃ as, ReadsAll h vs ds as) ∧ ∃ bs, ReadAtMost h (PyData.depthAll ds) bs ∧ ReprAllK prog w bs h (PyData.depthAll ds) vs (PyData.shownAll ds)
  | _, _, .nil, _, _ => ⟨⟨_, .nil⟩, [], (fun _ h => nomatch h), by simp only [PyData.shownAll]; exact .nil⟩
  | _, _, .cons ⟨⟨as, r⟩, k⟩ t, hs, hz => by
    simp only [PyData.showableAll, Bool.and_eq_true] at hs
    obtain ⟨b1, h1, k1⟩ := k hs.1 (hz _ (by simp only [PyData.shownAll]; exact List.mem_cons_self ..))
    obtain ⟨⟨as2, r2⟩, b2, h2, k2⟩ := rpk_each t hs.2 fun x hx => hz x (by simp only [PyData.shownAll]; exact List.mem_cons_of_mem _ hx)
    refine ⟨⟨_, .cons r r2⟩, b1 ++ b2, ?_, ?_⟩
    · simp only [PyData.depthAll]
      exact (h1.mono (Nat.le_max_left _ _)).append (h2.mono (Nat.le_max_right _ _))
    · simp only [PyData.depthAll, PyData.shownAll]
      exact .cons ((k1.more fun _ q => List.mem_append_left _ q).level_le (Nat.le_max_left _ _)) (k2.more_le (fun _ q => List.mem_append_right _ q) (Nat.le_max_right _ _))
theorem rpk_reads : ∀ {vs : List Value} {ds : List PyData}, Paired (RpK prog w h) vs ds → ∃ as, ReadsAll h vs ds as
  | _, _, .nil => ⟨_, .nil⟩
  | _, _, .cons ⟨⟨_, r⟩, _⟩ t => let ⟨_, r2⟩ := rpk_reads t; ⟨_, .cons r r2⟩
theorem rpk_list {a : Addr} {o : Obj} {vs : List Value} {n : Nat} {ds : List PyData} (h1 : h.get? a = some o) (h2 : o.cls = .type "list") (h3 : o.data = .seq vs.toArray n) (p : Paired (RpK prog w h) vs ds) : RpK prog w h (.ref a) (.list ds) := by
  obtain ⟨as, ra⟩ := rpk_reads p
  have r : Reads h (.ref a) (.list ds) _ := .list h1 h2 h3 ra
  refine ⟨⟨_, r⟩, fun hs hz => ?_⟩
  have hz' : (listText (PyData.shownAll ds)).length ≤ sizeLine := by simpa only [PyData.shown] using hz
  obtain ⟨_, bs, hb, hk⟩ := rpk_each p (by simpa [PyData.showable] using hs) fun t ht => Nat.le_trans (listText_mem_le ht) hz'
  have hna : a ∉ bs := not_mem_of_deeper r (by simp only [PyData.depth]; omega) hb
  refine ⟨a :: bs, ReadAtMost.cons r (by simp only [PyData.depth]; omega) hb, ?_⟩
  simp only [PyData.depth, PyData.shown]
  cases vs with
  | nil =>
    cases p
    simp only [PyData.shownAll, listText_nil]
    exact ReprK.listEmpty h1 h2 h3
  | cons x l => exact ReprK.list h1 h2 h3 hna (by simpa using hk.length_eq) (fun i y e => hk.item i y (by simpa using e))
end
section
variable {X : Cx} {pins : List (Addr × Obj)} {σ : St} {H : Hp} {s : Shared}
mutual
theorem DpN.rpk (I : Inv X pins σ H s) : ∀ {v : V} {d : PyData} {u : Value}, DpN X.K H v d → RelV v u → RpK X.prog X.w s.heap u d
  | _, _, _, .base h, r => rpk_of (h.reads I r)
  | _, _, u, .lst (a := a) hq hs, r => by
    obtain rfl : u = Value.ref a := r
    obtain ⟨its, rv, ⟨oa, n, e1, c1, _, d1⟩, _⟩ := I.list hq
    exact rpk_list e1 c1 d1 (DpNs.rpk I hs rv)
theorem DpNs.rpk (I : Inv X pins σ H s) : ∀ {vs : List V} {ds : List PyData} {us : List Value}, DpNs X.K H vs ds → Vals vs us → Paired (RpK X.prog X.w s.heap) us ds
  | _, _, _, .nil, .nil => .nil
  | _, _, _, .cons h t, .cons r q => .cons (h.rpk I r) (t.rpk I q)
end
end
def rReprN (K : PySem.W.Frag) : List V → Hp → VK → Prop := fun xs H Q => ∃ (a : Addr) (vs : List V) (ds : List PyData), xs = [.ref a] ∧ SqL K H a vs ∧ DpNs K H vs ds ∧ PyData.showableAll ds = true ∧ PyData.depthAll ds ≤ 32 ∧
  (PyData.list ds).shown.length ≤ sizeLine ∧ Q (.str (PyData.list ds).shown) H
theorem call_reprN {X : Cx} (hg : X.A.guards = some []) (hu : X.A.units + 64 < cLine) : CallR X (.builtin "repr") (rReprN X.K) := by
  intro pins s σ H xs us Q I r h
  obtain ⟨a, vs, ds, rfl, hq, hp, hs, hd, hz, q⟩ := h
  obtain ⟨u, rfl, ru⟩ := vals1 r
  obtain rfl : u = Value.ref a := ru
  obtain ⟨its, rv, ⟨oa, n, e1, c1, _, d1⟩, _⟩ := I.list hq
  have hz2 : (listText (PyData.shownAll ds)).length ≤ sizeLine := by simpa only [PyData.shown] using hz
  obtain ⟨⟨as, ra⟩, bs, h1, h2⟩ := rpk_each (hp.rpk I rv) hs fun t ht => Nat.le_trans (listText_mem_le ht) hz2
  have hna : a ∉ bs := not_mem_of_deeper (Reads.list e1 c1 d1 ra) (by simp only [PyData.depth]; omega) h1
  have keep : ∀ b o, s.heap.get? b = some o → s.heap.get? b = some o := fun _ _ z => z
  simp only [PyData.shown] at q
  refine call_repr_slot (by omega) ⟨oa, e1, c1⟩ F.slot_list_repr.toG ?_
  cases its with
  | nil =>
    cases ra
    simp only [PyData.shownAll, listText_nil] at q
    exact call_list_repr_empty ⟨oa, e1, c1⟩ e1 d1 ⟨_, _, rfl, ⟨.str _, H, I.tok _, ⟨_, rfl⟩, q⟩⟩
  | cons x l =>
    exact call_list_reprK e1 c1 d1 hna (by simpa using h2.length_eq) (fun i y e => h2.item i y (by simpa using e)) (show X.A.in1.guards = some [] from hg) (fun b _ => Clear.nil b) (show X.A.units + 1 + (PyData.depthAll ds + 1) < cLine by omega) keep
      (fun h' u tk hk => ⟨_, _, rfl, ⟨.str _, H, I.kept (t' := tk) hk, ⟨_, rfl⟩, q⟩⟩) hz2
theorem DpNs.of {K : PySem.W.Frag} {H : Hp} : ∀ {vs : List V} {ds : List PyData}, Paired (DpN K H) vs ds → DpNs K H vs ds
  | _, _, .nil => .nil
  | _, _, .cons h t => .cons h (.of t)
end Z
namespace Z
open PySem PySem.Spec PyProof.Rows L2
open PySem.SeqAt PySem.MeetsSeq PySem.MeetsSeq2 PySem.MeetsSeq3 PySem.SeqRoads2
open PySem.W (Looks)

/-- what nothing is asked of while no repr runs is a promise for the hand layer's own rules -/
theorem FnG.ok {P : Program} {w : World} {K : PySem.W.Frag} {mg : Str → Option Value} {base : Heap} {f : Addr} {fd : FuncData} {ps : List Str} {sp : Sp} {k : Nat} (F : FnG false P w K mg base k f fd ps sp) : FnOk P w K mg base (L2.CX P w) k f fd ps sp :=
  ⟨F.len, fun A outer s H args us vs Q E hr => F.run A outer s H args us vs Q E hr fun z => nomatch z⟩
/-- sep.join(texts) -/
def rJoin (K : PySem.W.Frag) : V → List V → Hp → VK → Prop := fun x xs H Q => ∃ a p, ∃ ys : List Str, x = .str a ∧ xs = [.ref p] ∧ (SqL K H p (ys.map V.str) ∨ SqT K H p (ys.map V.str)) ∧
  (ys.map (·.length)).sum + ys.length * a.length ≤ 16777216 ∧ Q (.str (Txt.join a ys)) H
section
variable {X : Cx}
/-! ### == of tuples whose items are alike one by one -/
def rEqTI (K : PySem.W.Frag) : R2 := fun x y H Q => ∃ (a b : Addr) (xs : List V), x = .ref a ∧ y = .ref b ∧ SqT K H a xs ∧ SqT K H b xs ∧ (∀ v ∈ xs, SmV v) ∧ Q (.bl true) H
theorem op_eqTI (hu : X.A.units + 64 < cLine) : OpR X (compareOp .Eq) (rEqTI X.K) := by
  intro pins s σ H x y v u Q I rx ry h
  obtain ⟨a, b, xs, rfl, rfl, ha, hb, hs, q⟩ := h
  obtain rfl : v = Value.ref a := rx
  obtain rfl : u = Value.ref b := ry
  obtain ⟨i1, r1, p1, _⟩ := I.tuple ha
  obtain ⟨i2, r2, p2, _⟩ := I.tuple hb
  have rc := RcAt.tuples (A := X.A) (e := fun _ => true) (isTup_tuple p1) (isTup_tuple p2) (show X.A.units < cLine by omega) fun j h1 h2 => by
    have h1' : j < i1.length := by simpa using h1
    have hj : j < xs.length := by rw [r1.length]; exact h1'
    obtain ⟨u1, e1, q1⟩ := r1.get (List.getElem?_eq_getElem hj)
    obtain ⟨u2, e2, q2⟩ := r2.get (List.getElem?_eq_getElem hj)
    have z1 : i1.toArray[j] = u1 := by
      have := (List.getElem?_eq_some_iff.mp e1).2
      simpa using this
    have z2 : i2.toArray[j] = u2 := by
      have := (List.getElem?_eq_some_iff.mp e2).2
      simpa using this
    rw [z1, z2]
    exact smV_eq (hs _ (List.getElem_mem hj)) q1 q2
  have e : (((List.range (min i1.toArray.size i2.toArray.size)).all fun _ => true) && i1.toArray.size == i2.toArray.size) = true := by
    have := r1.length
    have := r2.length
    simp
    omega
  rw [e] at rc
  exact rc X.prog X.w X.xe _ ⟨.bl true, H, I, rfl, q⟩

/-! ### == and != of dicts with plain values, either answer -/
def hitsB (ls : List (Key × V)) : List (Key × V) → Bool
  | [] => true
  | (k, v) :: r => match valV ls k with
    | none => false
    | some y => eqV v y && hitsB ls r
def dEq (ks ls : List (Key × V)) : Bool := ks.length == ls.length && hitsB ls ks
theorem hits_B {A : Around} {s : Shared} {kvs : List (Key × V)} {vb : List (Key × Value)} (rb : KV kvs vb) (fb : ∀ p ∈ kvs, flatV p.2 = true) {ks : List (Key × V)} {va : List (Key × Value)} (ra : KV ks va) (fa : ∀ p ∈ ks, flatV p.2 = true) : PySem.W.KeqHits A s vb va (hitsB kvs ks) := by
  unfold KV at ra
  induction ra with
  | nil => exact .nil
  | @cons p q ps qs h t ih =>
    obtain ⟨h1, h2⟩ := h
    obtain ⟨k, v⟩ := p
    obtain ⟨k', v'⟩ := q
    obtain rfl : k = k' := h1
    have rr := rb.val k
    unfold hitsB
    cases e : valV kvs k with
    | none =>
      rw [e] at rr
      cases ev : valueAt vb k with
      | none => exact .miss ev
      | some y =>
        rw [ev] at rr
        exact rr.elim
    | some y =>
      rw [e] at rr
      obtain ⟨u, hy, ry⟩ := rr.some_of
      have fy : flatV y = true := by
        have m : ∃ p ∈ kvs, p.2 = y := by
          clear rb rr hy ry fb ih
          induction kvs with
          | nil => cases e
          | cons a r ih2 =>
            by_cases z : a.1 = k
            · rw [valV_pos z] at e
              exact ⟨a, List.mem_cons_self, by simpa using e⟩
            · rw [valV_neg z] at e
              obtain ⟨p, hp, hq⟩ := ih2 e
              exact ⟨p, List.mem_cons_of_mem _ hp, hq⟩
        obtain ⟨p, hp, rfl⟩ := m
        exact fb p hp
      exact .hit hy (eqAt_V h2 ry (fa (k, v) List.mem_cons_self) fy) (ih fun p hp => fa p (List.mem_cons_of_mem _ hp))
def rEqDB (neg : Bool) : R2 := fun x y H Q => ∃ (a b : Addr) (ks ls : List (Key × V)), x = .ref a ∧ y = .ref b ∧ Rd H a (.dK ks) ∧ Rd H b (.dK ls) ∧ (∀ p ∈ ks, flatV p.2 = true) ∧ (∀ p ∈ ls, flatV p.2 = true) ∧ Q (.bl (if neg = true then !dEq ks ls else dEq ks ls)) H
theorem op_eqDB (hu : X.A.units + 64 < cLine) : OpR X (compareOp .Eq) (rEqDB false) := by
  intro pins s σ H x y v u Q I rx ry h
  obtain ⟨a, b, ks, ls, rfl, rfl, ea, eb, fa, fb, q⟩ := h
  obtain rfl : v = Value.ref a := rx
  obtain rfl : u = Value.ref b := ry
  obtain ⟨_, ya, va, ra, da⟩ := dk_rd I.hok ea
  obtain ⟨_, yb, vb, rb, db⟩ := dk_rd I.hok eb
  refine PySem.W.keq_eq (knd := mixKind X.prog X.w) (r := hitsB ls ks) ya yb da db (show X.A.units < cLine by omega) (fun _ => hits_B rb fb ra fa) ?_
  have e1 : va.length = ks.length := ra.length.symm
  have e2 : vb.length = ls.length := rb.length.symm
  rw [e1, e2]
  exact ⟨.bl _, H, I, rfl, q⟩
theorem op_neDB (hu : X.A.units + 64 < cLine) : OpR X (compareOp .NotEq) (rEqDB true) := by
  intro pins s σ H x y v u Q I rx ry h
  obtain ⟨a, b, ks, ls, rfl, rfl, ea, eb, fa, fb, q⟩ := h
  obtain rfl : v = Value.ref a := rx
  obtain rfl : u = Value.ref b := ry
  obtain ⟨_, ya, va, ra, da⟩ := dk_rd I.hok ea
  obtain ⟨_, yb, vb, rb, db⟩ := dk_rd I.hok eb
  refine PySem.W.keq_ne (knd := mixKind X.prog X.w) (r := hitsB ls ks) ya yb da db (show X.A.units < cLine by omega) (fun _ => hits_B rb fb ra fa) ?_
  have e1 : va.length = ks.length := ra.length.symm
  have e2 : vb.length = ls.length := rb.length.symm
  rw [e1, e2]
  exact ⟨.bl _, H, I, rfl, q⟩
def zEqJ (K : PySem.W.Frag) : R2 := fun x y H Q => rEqTI K x y H Q ∨ rEqDB false x y H Q ∨ zEq K x y H Q
def zNeJ (K : PySem.W.Frag) : R2 := fun x y H Q => rEqDB true x y H Q ∨ rEqI K true x y H Q ∨ zNe K x y H Q
theorem op_zEqJ (hu : X.A.units + 64 < cLine) : OpR X (compareOp .Eq) (zEqJ X.K) := (op_eqTI hu).or ((op_eqDB hu).or (op_zEq hu))
theorem op_zNeJ (hu : X.A.units + 64 < cLine) : OpR X (compareOp .NotEq) (zNeJ X.K) := (op_neDB hu).or ((op_neI hu).or (op_zNe hu))

/-! ### list(d), d perhaps locked -/
def rListR : List V → Hp → VK → Prop := fun xs H Q => ∃ p kvs, xs = [.ref p] ∧ Rd H p (.dK kvs) ∧ ∀ q, H q = none → Q (.ref q) (upd H q (.lst (kvs.map fun kv => kV kv.1)))
theorem call_list_rd {X : Cx} (hc : X.calm = true) : CallR X (.type "list") rListR := by
  intro pins s σ H xs us Q I r h
  obtain ⟨p, kvs, e, hk, q⟩ := h
  subst e
  obtain ⟨u, eu, rx⟩ := vals1 r
  subst eu
  obtain rfl : u = Value.ref p := rx
  obtain ⟨z, lo, vs, rk, hd⟩ := dk_rd I.hok hk
  obtain ⟨ep, hat⟩ := hd.dictAt
  have hl : kvs.length = vs.length := Paired.length rk
  refine PySem.W.kdl_call (PySem.W.kdl_dict (knd := mixKind X.prog X.w) (kvs := vs) (ep := ep) lo) (I.ok.hd hc) hat (by rw [← hl]; exact z) fun h' tk acc' c' hkeep hS hacc => ?_
  refine ⟨.ref s.heap.objs.size, upd H s.heap.objs.size (.lst (kvs.map fun kv => kV kv.1)), I.laid hkeep (Nat.le_refl _) (show ObjOk X.prog X.w _ _ _ (.lst (kvs.map fun kv => kV kv.1)) from ⟨?_, acc'.toList, c', ?_, ?_⟩), rfl, q _ (I.hok.fresh (Nat.le_refl _))⟩
  · rw [List.length_map]; exact z
  · have el : acc'.toList.length = acc'.size := by simp
    refine vals_of_at (by rw [List.length_map, el, hacc.1, hl]) fun j x w h1 h2 => ?_
    obtain ⟨k, y, hky, hi⟩ := hacc.2 j w (by rw [← Array.getElem?_toList]; exact h2)
    have e1 : (kvs.map (·.1))[j]? = some k := by
      rw [KV.keys rk, List.getElem?_map, hky] <;> rfl
    have e2 : (kvs.map fun kv => kV kv.1)[j]? = some (kV k) := by
      have e3 : (kvs.map fun kv => kV kv.1) = (kvs.map (·.1)).map kV := by rw [List.map_map] <;> rfl
      rw [e3, List.getElem?_map, e1] <;> rfl
    rw [e2] at h1
    cases h1
    exact keyIs_rel hi
  · rw [Array.toArray_toList]; exact hS

/-! ### == of an own instance and anything whose kind is told -/
variable {n : Nat} {C f : Addr} {sp : Sp}
def zEqA (K : PySem.W.Frag) (C : Addr) (sp : Sp) : R2 := fun x y H Q => ∃ a dx fs, x = .ref a ∧ H a = some (.ins C dx fs) ∧ ((y = .non ∧ PySem.W.subIn K (.type "NoneType") (.ref C) = some false) ∨ (∃ b kvs, y = .ref b ∧ Rd H b (.dK kvs) ∧ PySem.W.subIn K (.type "dict") (.ref C) = some false) ∨ ∃ b dy gs, y = .ref b ∧ H b = some (.ins C dy gs)) ∧
  sp [x, y] H (fun v H1 => ∃ c, v = .bl c ∧ Q v H1) fun _ _ _ => False
theorem op_zEqA (F : FnR X.prog X.w X.K X.mg X.base (L2.CX X.prog X.w) n f sp) (hs : PySem.W.findIn X.K (.ref C) "__eq__" = some (some (.ref f))) (hf : PySem.W.isFn X.K (.ref f) = true) (hr : Room n X.A) :
    OpR X (compareOp .Eq) (zEqA X.K C sp) := by
  intro pins s σ H x y v u Q I rx ry h
  obtain ⟨a, dx, fs, rfl, ha, hk, h⟩ := h
  obtain rfl : v = Value.ref a := rx
  obtain ⟨mA, J1, _⟩ := ins_get I.hok ha
  obtain ⟨od1, J1, _⟩ := J1.look
  obtain ⟨m, hF⟩ := I.fr
  have go : ∀ tb, Looks (model X.prog X.w) s.heap (typeOf u) tb → PySem.W.notFirst X.K C tb = true → wpAny (model X.prog X.w) X.A (richCompare .Eq (.ref a) u) (EP X pins σ Q) X.xe s := fun tb hL hn => by
    refine PySem.W.cmp_K (op := .Eq) (tb := tb) hr.units0 hF I.ok.mod.kin J1 hL hn hs hf ?_
    refine thn (wpAny_call (run_fnR (us := [.ref a, u]) (vs := [.ref a, y]) F hr passN I (.cons rfl (.cons ry .nil)) h)) ?_
    rintro w s2 ⟨z, H2, I2, rz, c, rfl, q⟩
    obtain rfl : w = Value.bool c := rz
    exact ⟨.bl c, H2, I2, rfl, q⟩
  rcases hk with ⟨rfl, hn⟩ | ⟨b, kvs, rfl, hb, hn⟩ | ⟨b, dy, gs, rfl, hb⟩
  · obtain rfl : u = Value.none := ry
    exact go (.type "NoneType") (PySem.W.Looks.of_pure rfl) (by simp [PySem.W.notFirst, hn])
  · obtain rfl : u = Value.ref b := ry
    obtain ⟨_, _, vs, _, dd⟩ := dk_rd I.hok hb
    obtain ⟨o, es, ep, h1, h2, _⟩ := dd
    exact go (.type "dict") (h2.1 ▸ (PySem.W.Looks.ld h1).andThen .now) (by simp [PySem.W.notFirst, hn])
  · obtain rfl : u = Value.ref b := ry
    obtain ⟨mB, J2, _⟩ := ins_get I.hok hb
    obtain ⟨od2, J2, _⟩ := J2.look
    exact go (.ref C) J2.type (by simp [PySem.W.notFirst])

/-! ### o[k] by an own __getitem__ -/
theorem in1_fn {k : Nat} {pins : List (Addr × Obj)} {σ : St} {H : Hp} {s : Shared} {Q : VK} {us : List Value} {vs : List V} {E : XK} (F : FnR X.prog X.w X.K X.mg X.base (L2.CX X.prog X.w) k f sp) (hr : Room (k + 1) X.A) (hx : Passes (L2.CX X.prog X.w) X E) (I : Inv X pins σ H s) (r : Vals vs us) (h : sp vs H Q E) :
    codeAny (model X.prog X.w) X.A.in1 (.call (.ref f) ⟨us, []⟩) (fun r s' => match r with | .ok (.ret v) => EP X pins σ Q v s' | .ok _ => False | .error e => X.xe e s') s := by
  have e := I.env0
  have e0 : Env0 X.prog X.w X.K X.mg X.base X.A.in1 X.stack s H := ⟨e.frames, e.mod, e.bs, e.bsz, e.funs, e.frf, e.hok, e.bare⟩
  refine codeAny_mono (F X.A.in1 X.stack s H us vs Q E hr.in1 e0 r h) fun r s' hq => ?_
  cases r with
  | error e => exact hx pins σ H s e s' I hq
  | ok fl =>
    cases fl with
    | ret u => exact I.after hq
    | next => exact False.elim hq
    | brk => exact False.elim hq
    | cont => exact False.elim hq
def zIxO (C : Addr) (sp : Sp) : R2 := fun x y H Q => ∃ a dx fs, x = .ref a ∧ H a = some (.ins C dx fs) ∧ sp [x, y] H Q fun _ _ _ => False
theorem pe_ixO {a b : Expr} {ta tb : TE} {pos : Pos} (F : FnR X.prog X.w X.K X.mg X.base (L2.CX X.prog X.w) n f sp) (hs : PySem.W.findIn X.K (.ref C) "__getitem__" = some (some (.ref f))) (hfn : PySem.W.fnIn X.K f = true) (hf : PySem.W.isFn X.K (.ref f) = true) (hr : Room (n + 1) X.A)
    (ha : PE X a ta) (hb : PE X b tb) (hsl : ∀ o i, subscripted b true o i = runValue (.builtin "lifetime.subscript" ⟨[o, i], []⟩)) : PE X (.Subscript a b pos) (tOp (zIxO C sp) ta tb) := by
  refine ⟨fun pins s σ H Q I h => ?_⟩
  refine Subscript_ (binT ha hb I h fun v u s2 x y H2 I2 rx ry q => ?_)
  obtain ⟨o, dx, fs, rfl, ho, q⟩ := q
  obtain rfl : v = Value.ref o := rx
  obtain ⟨mA, J1, _⟩ := ins_get I2.hok ho
  obtain ⟨od1, J1, _⟩ := J1.look
  obtain ⟨m, hF⟩ := I2.fr
  exact PySem.W.sub_K hF I2.ok.mod.kin J1 hs hfn hf (wpAny_call (in1_fn (us := [.ref o, u]) (vs := [.ref o, y]) F hr passN I2 (.cons rfl (.cons ry .nil)) q)) (hsl _ _)
end
end Z
namespace Z
open PySem PySem.Spec PyProof.Rows L2
open LamX (CodeO Tabs TabS TabB ExtN GivesTo tLam lamCx lamEnv LamS lamS_by)

/-- z.upper() -/
def rUpper : V → List V → Hp → VK → Prop := fun x xs H Q => ∃ a, x = .str a ∧ xs = [] ∧ a.length ≤ 5592405 ∧ Q (.str (Txt.upper a)) H
/-! ### a thing handed in that is called: action() -/
def zAct (W : WX) (f c' : Addr) (q : Str) (tl : XK → Hp → VK → Prop) : TE := fun σ H Q => ∃ Ech : XK, (∀ cls d σ' H', Ech cls d H' → W cls d σ' H') ∧ σ[0]? = some (some (.ref f)) ∧ H c' = some (CodeO c' q) ∧ tl Ech H Q
theorem pe_zAct {Y : Cx} {W : WX} {f c' : Addr} {q a : Str} {tl : XK → Hp → VK → Prop} {p1 p2 : Pos} (h : ∀ (Ech : XK), (∀ cls d σ' H', Ech cls d H' → W cls d σ' H') → PE Y (.Call (.Name a p1) [] [] p2) (fun σZ HZ Q => σZ[0]? = some (some (.ref f)) ∧ HZ c' = some (CodeO c' q) ∧ tl Ech HZ Q)) : PE Y (.Call (.Name a p1) [] [] p2) (zAct W f c' q tl) :=
  ⟨fun pins s σ H Q I ⟨Ech, hW, h1, h2, h3⟩ => (h Ech hW).run pins s σ H Q I ⟨h1, h2, h3⟩⟩

/-! ### a def that makes lambdas: its code object is known -/
structure FunL (K : PySem.W.Frag) (x qual : Str) (st : Stmt) (f : Addr) (fd : FuncData) (c : Addr) : Prop where
  ex : ∃ (oc : Value) (od : Option Addr) (kV doc pm : Value) (an : Option Addr) (ct : Value) (osl : Array (Option Value)),
    fd = PySem.W.fnOf x qual (defArgs st) (defBody st) (defScope st) .none kV doc pm an (.ref c) ct ∧ K.lookup f = some ⟨oc, od, .func fd, osl⟩ ∧ PySem.W.codeIn K (.ref c) qual = true
section
variable {gd : Bool} {P : Program} {w : World} {K : PySem.W.Frag} {mg : Str → Option Value} {base : Heap}
theorem okL {x qual : Str} {st : Stmt} {f c : Addr} {fd : FuncData} {N ps : List Str} {k : Nat} {sp : Sp} (F : FunL K x qual st f fd c)
    (S : FnScope N ps (defScope st)) (len : ∀ vs H Q E, sp vs H Q E → vs.length = ps.length)
    (hbody : ∀ (A : Around) (outer : List Env) (s : Shared) (H : Hp) (vs : List V) (Q : VK) (E : XK),
      Room k (A.deeper (envOfC qual (defScope st) s.heap.objs.size f (.ref c))) →
      (gd = true → (A.deeper (envOfC qual (defScope st) s.heap.objs.size f (.ref c))).guards = some []) → sp vs H Q E →
      ∃ t, PSs (cxOf (L2.CX P w) P w K mg base N qual (defScope st) f (.ref c) A outer s H E) (defBody st) t ∧
        t { nx := fun _ H' => Q .non H', rt := Q } (start N vs) H) :
    FnG gd P w K mg base (k + 1) f fd ps sp := by
  obtain ⟨oc, od, kV, doc, pm, an, ct, osl, rfl, lk, hcd⟩ := F.ex
  refine ⟨len, fun A outer s H args us vs Q E hr hgu e0 hb r hsp => ?_⟩
  have hl := len _ _ _ _ hsp
  have KX : K.In s.heap := e0.mod.kin.keeps fun b o z => (e0.bs b o z).1
  have lim : s.heap.NoLimit := e0.mod.nolimit.keeps fun b o z => (e0.bs b o z).1
  have hkind : ∀ y ∈ ps.zip us, (defScope st).names.lookup y.1 = some .local ∨
      ((defScope st).names.lookup y.1 = some .cell ∧ ((cellsFrom (s.heap.objs.size + 1) (defScope st).names []).lookup y.1).isSome = true) := by
    intro y hy
    obtain ⟨n, v⟩ := y
    rcases S.par n (List.of_mem_zip hy).1 with q | q
    · exact .inl q
    · exact .inr ⟨q, PySem.W.cellsFrom_some _ _ _ (.inl q)⟩
  refine codeAny_call_function hr.depth (KX _ _ lk) rfl S.co S.gen rfl (PySem.W.codeRec_of KX hcd) (hb _ _ _ _ ?_)
  refine wpAny_newFunctionEnv_cells S.kind hkind fun env he s1 x => ?_
  subst he
  refine ⟨lim.keeps x.toInCall.keep, codeAny_func ?_⟩
  obtain ⟨t, ht, hq⟩ := hbody A outer s H vs Q E (hr.deeper _) hgu hsp
  have I := inv_start (CX := L2.CX P w) (E := E) S hr.hd e0 hl r x
  refine wpAny_mono (ht.run [] s1 (start N vs) H _ I hq) (fun fl s' hs => ?_) fun e s' hs => hs
  cases fl with
  | ret u =>
    obtain ⟨v, σ', H', J, rv, q⟩ := hs
    exact ⟨v, H', J.os, J.bare, J.base, J.hok, rv, q⟩
  | next =>
    obtain ⟨σ', H', J, q⟩ := hs
    exact ⟨V.non, H', J.os, J.bare, J.base, J.hok, rfl, q⟩
  | brk => exact False.elim hs.choose_spec.choose_spec.2
  | cont => exact False.elim hs.choose_spec.choose_spec.2
end

/-! ### x(lambda: body) -/
section
variable {X : Cx}
theorem pe_lam {T : List (Addr × Str)} {TT : (XK → Hp → VK → Prop) → Hp → VK → Prop} {x a : Str} {st : Stmt} {g c P : Addr} {fd : FuncData} {k : Nat} {Ng : List Str}
    {params : Arguments} {body : Expr} {scope : Scope} {t : XK → TE} {p lpos pos : Pos} (F : L2.Fun X.K x x st g fd) (hg : Gl X x) (hm : X.mg x = some (.ref g)) (hk : PySem.W.keepIn X.K (.ref g) = true)
    (hb : Binds X.K fd [a] []) (Sg : FnScope Ng [a] (defScope st)) (hNg : Ng[0]? = some a) (hva : Vis (defScope st) a)
    (hG : ∀ cdv, GivesTo X Ng x (defScope st) g cdv (defBody st) a (X.env.qual ++ "<lambda>") TT)
    (TB : TabB X.base X.mg c P) (hcode : X.env.code = .ref c) (hmT : (P, X.env.qual ++ "<lambda>") ∈ T) (hu : ∀ p ∈ T, p.1 = P → p.2 = X.env.qual ++ "<lambda>") (hr : Room (k + 2) X.A) (L : LamS X.env.scope scope) (hdef : defaultsOf params X.env = ([], []))
    (hbind : ∀ (q : Str) (cl : List (Str × Addr)) (pm cv ctv : Value), bindArgs (PySem.W.kla_fn "<lambda>" q params body scope cl pm cv ctv) ⟨[], []⟩ = pure [])
    (hbody : ∀ (A : Around) (outer : List Env) (s : Shared) (H : Hp) (E : XK) (f c' : Addr), Room k (A.deeper (lamEnv X scope s.heap.objs.size f c')) → PE (lamCx X A outer s H E scope f c') body (t E))
    (hdb : (x == ("__debug__" : Str)) = false := by decide) (hd : (a == ("__debug__" : Str)) = false := by decide) (hcd : (a == ("__classdict__" : Str)) = false := by decide) :
    PE X (.Call (.Name x p) [.Lambda params body scope lpos] [] pos) (tLam T TT t) := by
  obtain ⟨oc, od, kV, doc, pm, an, cdv, ct, osl, rfl, lk, hcd2⟩ := F.ex
  exact LamX.pe_lamcall hg hm hk lk hcd2 hb Sg hNg hva (hG cdv) TB hcode hmT hu hr L hdef hbind hbody hdb hd hcd
end

/-! ### the end of a law whose def makes lambdas -/
def spLawT (P : Addr) (K : PySem.W.Frag) : Sp := fun vs H Q E => ∃ (a : Addr) (ns : List Int), vs = [.ref a] ∧ SqL K H a (ns.map V.int) ∧ ns.length ≤ 63 ∧ H P = some (.tbl #[]) ∧ ∀ H', Q (.bl true) H'
theorem law_walkT {l : PySem.W.OpenLaw} {k : Nat} {q : Program} {loose : List Str} {XP : (Str → Option Value) → Heap → Prop} {YP : World → Heap → Prop} {d : DefRec} {K : Params → PySem.W.Frag} (hn : l.most = some 63) (hdf : d.params.defaults = []) (hr : Room k callerA)
    (hY : ∀ (w : World) (h : Heap), YP w h → (K w.params).In h)
    (F : ∀ (w : World) (mg : Str → Option Value) (fa : Addr) (h : Heap), YP w h → (K w.params).In h → h.Ns mainGlobals mg → mg d.name = some (.ref fa) →
      ∃ (fd : FuncData) (c P : Addr), h.get? P = some { cls := .none, data := .fields #[] } ∧ (K w.params).lookup P = none ∧ PySem.W.CodeHd h c P ∧ (∀ (s : Shared) (u : Value), BindsTo s fd ⟨[u], []⟩ [("script", u)]) ∧
        ∀ base : Heap, (K w.params).In base → base.Ns mainGlobals mg → TabB base mg c P → FnG false l.prog w (K w.params) mg base k fa fd ["script"] (spLawT P (K w.params))) :
    PySem.W.WalkO q loose XP YP l.row.toRowW d [] (fun f vs => PySem.call f vs) := by
  refine LamX.walk_ofTs (n := 63) (k := k) (x := "script") (CX := fun w => L2.CX l.prog w) hn (by decide) hdf hr hY (fun w mg fa h Y KX N hm => ?_) ?_
  · obtain ⟨fd, c, P, h1, h2, h3, hb, hF⟩ := F w mg fa h Y KX N hm
    refine ⟨fd, [(c, P)], spLawT P (K w.params), ?_, ?_, ?_, hb, fun H a ns hl _ hT hS => ⟨a, ns, rfl, hS, hl, hT (c, P) (by simp), fun _ => rfl⟩, fun base KB NB hTB => (hF base KB NB (hTB (c, P) (by simp))).ok⟩
    · intro p hp
      obtain rfl : p = (c, P) := by simpa using hp
      exact h1
    · intro p hp
      obtain rfl : p = (c, P) := by simpa using hp
      exact h2
    · intro p hp
      obtain rfl : p = (c, P) := by simpa using hp
      exact h3
  · intro w H s e s' h
    obtain ⟨_, _, _, _, _, _, _, _, _, _, _, _, z⟩ := h
    exact z
end Z
namespace Z
open PySem PySem.Spec PyProof.Rows L2
/-- {k: v}, k a tuple of ints and texts -/
def tDispT (tk tv : TE) : TE := fun σ H Q => ∀ p, H p = none → tk σ (upd H p (.dT [])) fun x H1 => tv σ H1 fun y H2 => ∃ (b : Addr) (ks : List Key), x = .ref b ∧ H2 b = some (.tup (ks.map kV)) ∧ H2 p = some (.dT []) ∧ Q (.ref p) (upd H2 p (.dT [(ks, y)]))
theorem pe_dispT {X : Cx} {pos : Pos} {k v : Expr} {tk tv : TE} (hu : X.A.units + 1 < cLine) (hk : PE X k tk) (hv : PE X v tv) : PE X (.Dict [some k] [v] pos) (tDispT tk tv) := by
  refine ⟨fun pins s σ H Q I q => ?_⟩
  have hn := I.hok.fresh (Nat.le_refl s.heap.objs.size)
  have I1 := I.laid (a := s.heap.objs.size) (o := .dT []) (h' := s.heap.push { cls := .type "dict", data := .dict #[] }) (t' := s.toks) (fun _ _ q => Heap.get?_push_of_some _ q) (Nat.le_refl _) (dt_empty s.heap I.big)
  have hsh := zip_pairTrees [some k] [v] X.env pos (by rfl) (by rfl)
  rw [arm_eval_Dict, hsh, dictDisplay_pairs (pairTrees [some k] [v] X.env pos) (by intro z; cases z) (show 1 < 17 by decide)]
  refine wpAny_bind (wpAny_standAt (wpAny_bind (wpAny_subDictH (knd := tupleKind (mixKind X.prog X.w)) (Q := fun d s' => wpAny (model X.prog X.w) X.A (pure (Value.ref d)) (EP X pins σ Q) X.xe s') (show X.A.units < cLine by omega) (show 1 ≤ 15 by decide) ?_)))
  refine pairTrees_cons_walk (thn (hk.run pins _ σ _ _ I1 (q _ hn)) fun u s1 ⟨x, H1, J1, rx, q1⟩ => thn (hv.run pins s1 σ H1 _ J1 q1) fun w2 s2 ⟨y, H2, J2, ry, b, ks, ex, eb, e, q2⟩ => pairTrees_nil_walk ?_)
  subst ex
  obtain rfl : u = Value.ref b := rx
  obtain ⟨z, hd, xs, rel, dd⟩ := dt_of J2.hok e
  cases rel
  refine ⟨[(ks, b, w2)], ⟨rfl, rfl, key_of J2.hok eb, trivial⟩, dd, fun h' tk' dd' hs => ?_⟩
  refine wpAny_pure ⟨.ref s.heap.objs.size, _, ?_, rfl, q2⟩
  obtain ⟨o, es, ep, ho, h2, h3, h4, _, h5⟩ := dd'
  refine d_write J2 (by rw [e]; exact True.intro) hs ⟨o, ho⟩ ⟨by show 1 ≤ sizeLine; decide, hd, _, .cons ⟨rfl, ?_, ry⟩ .nil, o, es, ep, ho, h2, h3, h4, h5⟩
  rw [upd_ne (ne_of eb e (fun z => nomatch z))]
  exact eb
/-- the slots are as many as the names -/
def zGuard (n : Nat) (ts : TS) : TS := fun D σ H => σ.length = n → ts D σ H
theorem pss_guard {X : Cx} {ss : List Stmt} {ts : TS} {n : Nat} (hn : X.N.length = n) (h : PSs X ss ts) : PSs X ss (zGuard n ts) :=
  ⟨fun pins s σ H D I q => h.run pins s σ H D I (q (I.len.trans hn))⟩
end Z
namespace Z
open PySem PySem.Spec PyProof.Rows L2
/-! ### min(xs), a list of texts, one at least -/
theorem strs_at : ∀ {ns : List Str} {us : List Value}, Vals (ns.map V.str) us → ∀ {i : Nat} {v : Value}, us[i]? = some v → i < ns.length ∧ ∃ t, v = Value.str (ns.getD i "") t
  | [], us, h, i, v, e => by
    cases h
    simp at e
  | n :: ns, us, h, i, v, e => by
    rw [List.map_cons] at h
    cases h with
    | cons r t =>
      cases i with
      | zero =>
        cases e
        obtain ⟨t, rfl⟩ := r
        exact ⟨Nat.succ_pos _, t, rfl⟩
      | succ j =>
        obtain ⟨h1, t', h2⟩ := strs_at t (i := j) (by simpa using e)
        exact ⟨Nat.succ_lt_succ h1, t', by simpa using h2⟩
theorem cmpOf_strs {prog : Program} {w : World} {A : Around} {P : Nat → Value → Prop} (val : Nat → Str) (hval : ∀ i v, P i v → ∃ t, v = .str (val i) t) :
    CmpOf prog w A .Lt P (fun i j => decide ((val i).cps.toList < (val j).cps.toList)) := fun i j vi vj s Q E hi hj h => by
  obtain ⟨t, rfl⟩ := hval i vi hi
  obtain ⟨u, rfl⟩ := hval j vj hj
  exact richCompare_gives (op := .Lt) (typeIs_str s _ t) (typeIs_str s _ u) F.slot_str_lt F.entry_str_lt (F.args_str_lt_2 _ _) (gives_str_lt _ _ t u) (fun x => nomatch x) h
theorem argBest_str (f : Nat → List Nat) : ∀ k, argBest (fun i j => decide (f i < f j)) k ≤ k ∧ ∀ j, j ≤ k → ¬ f j < f (argBest (fun i j => decide (f i < f j)) k)
  | 0 => ⟨Nat.le_refl _, fun j hj => by
    obtain rfl : j = 0 := by omega
    exact List.lt_irrefl _⟩
  | k + 1 => by
    obtain ⟨h1, h2⟩ := argBest_str f k
    simp only [argBest]
    by_cases hc : f (k + 1) < f (argBest (fun i j => decide (f i < f j)) k)
    · rw [if_pos (by simpa using hc)]
      refine ⟨Nat.le_refl _, fun j hj => ?_⟩
      by_cases e : j = k + 1
      · rw [e]
        exact List.lt_irrefl _
      · exact fun z => h2 j (by omega) (List.lt_trans z hc)
    · rw [if_neg (by simpa using hc)]
      refine ⟨by omega, fun j hj => ?_⟩
      by_cases e : j = k + 1
      · rw [e]
        exact hc
      · exact h2 j (by omega)
def rMinS (K : PySem.W.Frag) : List V → Hp → VK → Prop := fun vs H Q => ∃ (p : Addr) (ns : List Str), vs = [.ref p] ∧ SqL K H p (ns.map V.str) ∧ ns ≠ [] ∧ ∀ z, z ∈ ns → (∀ y ∈ ns, ¬ y.cps.toList < z.cps.toList) → Q (.str z) H
theorem call_minS {X : Cx} (hc : X.calm = true) : CallR X (.builtin "min") (rMinS X.K) := by
  intro pins s σ H vs us Q I r h
  obtain ⟨p, ns, rfl, hs, hne, q⟩ := h
  obtain ⟨its, rv, hl, _⟩ := I.list hs
  rw [Vals.ref1 r]
  have hl0 : its.length = ns.length := by
    have := rv.length
    rw [List.length_map] at this
    exact this.symm
  have hpos : 0 < ns.length := List.length_pos_iff.mpr hne
  refine call_min_walk (iter_anyList hl.isList fun s₂ e st hfp hlI => ?_)
  subst e
  refine ⟨_, _, _, _, _, _, _, rfl, Walks.list (A := X.A.in1) (I.ok.hd hc) _ _ hlI its.toArray, st, hfp, ?_, cmpOf_strs (fun i => ns.getD i "") (fun i v hP => (strs_at rv (by simpa using hP)).2), fun v h' tk hP hk => ?_⟩
  · rw [List.size_toArray, hl0]
    exact hpos
  · obtain ⟨h1, t, rfl⟩ := strs_at rv (i := argBest (fun i j => decide ((ns.getD i "").cps.toList < (ns.getD j "").cps.toList)) (its.toArray.size - 1)) (by simpa using hP)
    obtain ⟨b1, b2⟩ := argBest_str (fun i => (ns.getD i "").cps.toList) (its.toArray.size - 1)
    refine ⟨.str _, H, I.kept (t' := tk) (PySem.old_kept hk), ⟨t, rfl⟩, q _ ?_ fun y hy => ?_⟩
    · rw [List.getD_eq_getElem?_getD, List.getElem?_eq_getElem h1]
      exact List.getElem_mem h1
    · obtain ⟨k, hk', e⟩ := List.mem_iff_getElem.mp hy
      have e2 : ns.getD k "" = y := by
        rw [List.getD_eq_getElem?_getD, List.getElem?_eq_getElem hk', ← e]
        rfl
      rw [← e2]
      exact b2 k (by rw [List.size_toArray, hl0]; omega)
end Z
namespace Z
open PySem PySem.Spec PyProof.Rows L2
open PySem.SeqAt PySem.MeetsSeq PySem.MeetsSeq2 PySem.MeetsSeq3 PySem.SeqRoads2
open PySem.W (Looks)
section
variable {X : Cx}
/-! ### != of tuples whose items are alike one by one -/
def rNeTI (K : PySem.W.Frag) : R2 := fun x y H Q => ∃ (a b : Addr) (xs : List V), x = .ref a ∧ y = .ref b ∧ SqT K H a xs ∧ SqT K H b xs ∧ (∀ v ∈ xs, SmV v) ∧ Q (.bl false) H
theorem op_neTI (hu : X.A.units + 64 < cLine) : OpR X (compareOp .NotEq) (rNeTI X.K) := by
  intro pins s σ H x y v u Q I rx ry h
  obtain ⟨a, b, xs, rfl, rfl, ha, hb, hs, q⟩ := h
  obtain rfl : v = Value.ref a := rx
  obtain rfl : u = Value.ref b := ry
  obtain ⟨i1, r1, p1, _⟩ := I.tuple ha
  obtain ⟨i2, r2, p2, _⟩ := I.tuple hb
  have rc := RcNeAt.tuples (A := X.A) (e := fun _ => true) (isTup_tuple p1) (isTup_tuple p2) (show X.A.units < cLine by omega) fun j h1 h2 => by
    have h1' : j < i1.length := by simpa using h1
    have hj : j < xs.length := by rw [r1.length]; exact h1'
    obtain ⟨u1, e1, q1⟩ := r1.get (List.getElem?_eq_getElem hj)
    obtain ⟨u2, e2, q2⟩ := r2.get (List.getElem?_eq_getElem hj)
    have z1 : i1.toArray[j] = u1 := by
      have := (List.getElem?_eq_some_iff.mp e1).2
      simpa using this
    have z2 : i2.toArray[j] = u2 := by
      have := (List.getElem?_eq_some_iff.mp e2).2
      simpa using this
    rw [z1, z2]
    exact smV_eq (hs _ (List.getElem_mem hj)) q1 q2
  have e : (((List.range (min i1.toArray.size i2.toArray.size)).all fun _ => true) && i1.toArray.size == i2.toArray.size) = true := by
    have := r1.length
    have := r2.length
    simp
    omega
  rw [e] at rc
  exact rc X.prog X.w X.xe _ ⟨.bl false, H, I, rfl, q⟩
def zNeT (K : PySem.W.Frag) : R2 := fun x y H Q => rNeTI K x y H Q ∨ zNe K x y H Q
theorem op_zNeT (hu : X.A.units + 64 < cLine) : OpR X (compareOp .NotEq) (zNeT X.K) := (op_neTI hu).or (op_zNe hu)
/-! ### o[i] of an own class that may raise -/
variable {n : Nat} {f C : Addr} {sp : Sp}
theorem in1_fnE {k : Nat} {pins : List (Addr × Obj)} {σ : St} {H : Hp} {s : Shared} {Q : VK} {us : List Value} {vs : List V} {E : XK} (F : FnR X.prog X.w X.K X.mg X.base (L2.CX X.prog X.w) k f sp) (hr : Room (k + 1) X.A) (hx : PassesAt (L2.CX X.prog X.w) X σ E) (I : Inv X pins σ H s) (r : Vals vs us) (h : sp vs H Q E) :
    codeAny (model X.prog X.w) X.A.in1 (.call (.ref f) ⟨us, []⟩) (fun r s' => match r with | .ok (.ret v) => EP X pins σ Q v s' | .ok _ => False | .error e => X.xe e s') s := by
  have e := I.env0
  have e0 : Env0 X.prog X.w X.K X.mg X.base X.A.in1 X.stack s H := ⟨e.frames, e.mod, e.bs, e.bsz, e.funs, e.frf, e.hok, e.bare⟩
  refine codeAny_mono (F X.A.in1 X.stack s H us vs Q E hr.in1 e0 r h) fun r s' hq => ?_
  cases r with
  | error e => exact hx pins H s e s' I hq
  | ok fl =>
    cases fl with
    | ret u => exact I.after hq
    | next => exact False.elim hq
    | brk => exact False.elim hq
    | cont => exact False.elim hq
def zIxE (C : Addr) (sp : Sp) (E : St → XK) (ta tb : TE) : TE := fun σ H Q => ta σ H fun x H1 => tb σ H1 fun y H2 => ∃ a dx fs, x = .ref a ∧ H2 a = some (.ins C dx fs) ∧ sp [x, y] H2 Q (E σ)
theorem pe_ixE {a b : Expr} {ta tb : TE} {pos : Pos} {E : St → XK} (F : FnR X.prog X.w X.K X.mg X.base (L2.CX X.prog X.w) n f sp) (hs : PySem.W.findIn X.K (.ref C) "__getitem__" = some (some (.ref f))) (hfn : PySem.W.fnIn X.K f = true) (hf : PySem.W.isFn X.K (.ref f) = true) (hr : Room (n + 1) X.A) (hx : ∀ σ, PassesAt (L2.CX X.prog X.w) X σ (E σ))
    (ha : PE X a ta) (hb : PE X b tb) (hsl : ∀ o i, subscripted b true o i = runValue (.builtin "lifetime.subscript" ⟨[o, i], []⟩)) : PE X (.Subscript a b pos) (zIxE C sp E ta tb) := by
  refine ⟨fun pins s σ H Q I h => ?_⟩
  refine Subscript_ (binT ha hb I h fun v u s2 x y H2 I2 rx ry q => ?_)
  obtain ⟨o, dx, fs, rfl, ho, q⟩ := q
  obtain rfl : v = Value.ref o := rx
  obtain ⟨mA, J1, _⟩ := ins_get I2.hok ho
  obtain ⟨od1, J1, _⟩ := J1.look
  obtain ⟨m, hF⟩ := I2.fr
  exact PySem.W.sub_K hF I2.ok.mod.kin J1 hs hfn hf (wpAny_call (in1_fnE (us := [.ref o, u]) (vs := [.ref o, y]) F hr (hx σ) I2 (.cons rfl (.cons ry .nil)) q)) (hsl _ _)
end
end Z
namespace Z
open PySem PySem.Spec PyProof.Rows L2
open PySem.SeqAt PySem.MeetsSeq PySem.MeetsSeq2 PySem.MeetsSeq3 PySem.SeqRoads2
open PySem.W (Looks)
section
variable {X : Cx}
/-! ### == [] and != [] of lists of anything -/
def rEqE (K : PySem.W.Frag) (neg : Bool) : R2 := fun x y H Q => ∃ (a b : Addr) (xs : List V), x = .ref a ∧ y = .ref b ∧ SqL K H a xs ∧ SqL K H b [] ∧ Q (.bl (xs.isEmpty != neg)) H
theorem op_eqE (hu : X.A.units + 64 < cLine) : OpR X (compareOp .Eq) (rEqE X.K false) := by
  intro pins s σ H x y v u Q I rx ry h
  obtain ⟨a, b, xs, rfl, rfl, ha, hb, q⟩ := h
  obtain rfl : v = Value.ref a := rx
  obtain rfl : u = Value.ref b := ry
  obtain ⟨i1, r1, p1, _⟩ := I.list ha
  obtain ⟨i2, r2, p2, _⟩ := I.list hb
  have l1 := r1.length
  have l2 := r2.length
  cases xs with
  | nil =>
    have rc := RcAt.lists (A := X.A) (e := fun _ => true) p1.isList p2.isList (by simp only [List.size_toArray]; omega) (show X.A.units < cLine by omega) fun j h1 h2 => absurd h1 (by simp at l1; simp [← l1])
    have e : ((List.range i1.toArray.size).all fun _ => true) = true := by simp
    rw [e] at rc
    exact rc X.prog X.w X.xe _ ⟨.bl true, H, I, rfl, q⟩
  | cons x r =>
    have rc := RcAt.lists_lengths (A := X.A) p1.isList p2.isList (by simp at l1 l2 ⊢; omega) (show X.A.units < cLine by omega)
    exact rc X.prog X.w X.xe _ ⟨.bl false, H, I, rfl, q⟩
theorem op_neE (hu : X.A.units + 64 < cLine) : OpR X (compareOp .NotEq) (rEqE X.K true) := by
  intro pins s σ H x y v u Q I rx ry h
  obtain ⟨a, b, xs, rfl, rfl, ha, hb, q⟩ := h
  obtain rfl : v = Value.ref a := rx
  obtain rfl : u = Value.ref b := ry
  obtain ⟨i1, r1, p1, _⟩ := I.list ha
  obtain ⟨i2, r2, p2, _⟩ := I.list hb
  have l1 := r1.length
  have l2 := r2.length
  cases xs with
  | nil =>
    have rc := RcNeAt.lists (A := X.A) (e := fun _ => true) p1.isList p2.isList (by simp only [List.size_toArray]; omega) (show X.A.units < cLine by omega) fun j h1 h2 => absurd h1 (by simp at l1; simp [← l1])
    have e : ((List.range i1.toArray.size).all fun _ => true) = true := by simp
    rw [e] at rc
    exact rc X.prog X.w X.xe _ ⟨.bl false, H, I, rfl, q⟩
  | cons x r =>
    have rc := RcNeAt.lists_lengths (A := X.A) p1.isList p2.isList (by simp at l1 l2 ⊢; omega) (show X.A.units < cLine by omega)
    exact rc X.prog X.w X.xe _ ⟨.bl true, H, I, rfl, q⟩
/-- all of them: == [] first, then tuples alike, dicts, lists alike, data -/
def zEqE (K : PySem.W.Frag) : R2 := fun x y H Q => rEqE K false x y H Q ∨ zEqJ K x y H Q
def zNeE (K : PySem.W.Frag) : R2 := fun x y H Q => rEqE K true x y H Q ∨ rNeTI K x y H Q ∨ zNeJ K x y H Q
theorem op_zEqE (hu : X.A.units + 64 < cLine) : OpR X (compareOp .Eq) (zEqE X.K) := (op_eqE hu).or (op_zEqJ hu)
theorem op_zNeE (hu : X.A.units + 64 < cLine) : OpR X (compareOp .NotEq) (zNeE X.K) := (op_neE hu).or ((op_neTI hu).or (op_zNeJ hu))
end
end Z
namespace Z
open PySem PySem.Spec PyProof.Rows L2 PySem.Calls
open ClX (pin_new pin_at unpin unpinE)
/-! ### super().__init__(*xs, k = v): the statement, at its def's own activation -/
/-- what of the def's own activation super() asks -/
structure SupC (X : Cx) (D : Addr) (x0 : Str) : Prop where
  ex : ∃ (f cda cc : Addr) (oc : Value) (od : Option Addr) (fd : FuncData) (osl : Array (Option Value)) (ar : Arg) (ccl : Value) (cdd : Option Addr) (vs : Array Value) (ccs : Array (Option Value)) (file : Str) (tf : Tok) (cl : Value) (cld : Option Addr) (csl : Array (Option Value)) (cdD : ClassData),
    X.env.func = some f ∧ X.K.lookup f = some ⟨oc, od, .func fd, osl⟩ ∧ (fd.params.posonlyargs ++ fd.params.args).head? = some ar ∧ ar.arg = x0 ∧ X.env.code = .ref cda ∧
    X.K.lookup cda = some ⟨ccl, cdd, .fields vs, ccs⟩ ∧ vs[2]? = some (.str file tf) ∧ ((X.prog.main.file : Str) == file) = true ∧ (X.prog.main.scope.names.lookup ("super" : Str)).isSome = false ∧
    X.env.cells.lookup ("__class__" : Str) = some cc ∧ X.K.lookup cc = some ⟨cl, cld, .cell (some (.ref D)), csl⟩ ∧ PySem.W.clsIn X.K D = some cdD
  ks : X.env.kindOf "super" = some .globalImplicit
  kc : X.env.kindOf "__class__" = some .free
  k0 : X.env.kindOf x0 = some .local
  n0 : X.N[0]? = some x0
  mg : X.mg "super" = none
/-- how the base's __init__ is found from an instance of C -/
structure SupM (K : PySem.W.Frag) (C D f : Addr) : Prop where
  at_ : PySem.W.ks_superIn K C D "__init__" = some (some (.ref f))
  ty : PySem.W.typeIn K (.ref f) = some (.type "function")
  fn : PySem.W.fnIn K f = true
  tp : PySem.W.nsIn K cStatics "thirdparty.any" = some none
  sub : PySem.W.mroIn K C (.ref D) = some true
def tSup (C : Addr) (j : Nat) (sp : Sp) (gV : List V → List V) (E : St → XK) (K : PySem.W.Frag) (te : TE) (tk : TA) : TS := fun D σ H => ∃ o dx fs, σ[0]? = some (some (.ref o)) ∧ H o = some (.ins C dx fs) ∧
  te σ H fun y H1 => tk σ H1 fun zs H2 => zs.length = j ∧ ∃ a xs, y = .ref a ∧ (SqT K H2 a xs ∨ SqL K H2 a xs) ∧ xs.length ≤ sizeLine ∧ ∀ p, H2 p = none → sp ([V.ref o] ++ gV zs ++ [V.ref p]) (upd H2 p (.tup xs)) (fun _ H3 => D.nx σ H3) (E σ)
section
variable {prog : Program} {w : World} {M : Model} {A : Around} {E : Value → Shared → Prop} {h : Heap} {g : Array GenState} {d : Drawn} {t : Nat} {os : OsState}
open PySem.W in
/-- super().m read as a value: the bound method -/
theorem getAttr_super {so D x C f : Addr} {of : Obj} {l₀ l : List Value} {K : PySem.W.Frag} {name : Str} {Q : Value → Shared → Prop}
    (hso : h.get? so = some { cls := .type "super", dict := none, data := .fields #[.ref D, .ref x, .ref C], slots := #[] }) (hno : Looks (model prog w) h (opaqueClassAbove (.ref C)) none)
    (hC : Looks (model prog w) h (mroOf (.ref C)) l₀) (hl : (l₀.dropWhile (· != .ref D)).drop 1 = l) (X : K.In h)
    (hf : alongIn K name l = some (some (.ref f))) (hfo : h.get? f = some of) (hfc : of.cls = .type "function") (hxC : x ≠ C) (hn : (name == ("__class__" : Str)) = false)
    (hq : Q (.ref h.objs.size) ⟨h.push { cls := .type "method", data := .fields #[.ref f, .ref x] }, g, d, t + 1, os⟩) :
    wpAny (model prog w) A (getAttr (.ref so) name true) Q E ⟨h, g, d, t, os⟩ := by
  have hlk := F.ks_slot_super_ga.lookup
  have hT : ∀ t', (⟨h, g, d, t', os⟩ : Shared).TypeIs (.ref so) "super" := fun _ => ⟨_, hso, rfl⟩
  unfold getAttr getAttrBy
  refine wpAny_bind (wpAny_mkText (wpAny_holding (wpAny_bind (wpAny_typeOf (hT _) (wpAny_bind (wpAny_of_eq hlk ?_))))))
  show wpAny _ _ (getAttrByItsOwn (.ref so) (.str name t) (.type "super") (.builtin "super.__getattribute__") true true) _ _ _
  unfold getAttrByItsOwn hookBefore callGetattribute boundAndCalled
  refine wpAny_bind (wpAny_of_eq (show (if onTheHeap (.type "super") then typeLookup (.type "super") "__getattr__" else pure none) = pure none from rfl) ?_)
  refine wpAny_bind (wpAny_attempt (wpAny_holding ?_))
  show wpAny _ _ (bindSpecial (.builtin "super.__getattribute__") (.ref so) >>= _) _ _ _
  refine wpAny_bind (wpAny_of_eq (F.ks_slot_super_ga.bind _) ?_)
  refine wpAny_mono (Q := fun v s' => v = .ref h.objs.size ∧ s' = ⟨h.push { cls := .type "method", data := .fields #[.ref f, .ref x] }, g, d, t + 1, os⟩) (E := fun _ _ => False)
    (wpAny_call_entry F.ks_slot_super_ga (hT _) F.ks_entry_super_ga (ks_wpAny_super_ga hso hno hC hl X hf hfo hfc hxC hn ⟨_, rfl, rfl, rfl⟩) (F.ks_gaArgs_super _ _)) (fun v s' hv => ?_) fun _ _ z => z.elim
  obtain ⟨rfl, rfl⟩ := hv
  exact wpAny_pure hq
end
section
variable {gd : Bool} {X : Cx} {k m : Nat} {f C D : Addr} {fd : FuncData} {ps ks : List Str} {sp : Sp} {E : St → XK} {x0 : Str} {p0 p1 apos pos spos sp_ : Pos} {e : Expr} {kws : List Keyword} {te : TE} {tk : TA} {g : List Value → List Value} {gV : List V → List V} {body : List Stmt} {pl : Sem Bool}
theorem at_super (S : SupC X D x0) (M : SupM X.K C D f) (F : FnS gd X.prog X.w X.K X.mg X.base k f fd ps 1 m sp) (hr : Room k X.A) (hgu : gd = true → X.A.guards = some []) (B : SBn X.K fd ps 1 m ks g gV)
    (hx : ∀ σ, PassesAt (L2.CX X.prog X.w) X σ (E σ)) (hy : PE X e te) (hkw : PK X kws tk)
    (hall : (backToKw pos (keywordEach kws X.env)).all (·.1.isSome) = true) (hks : (backToKw pos (keywordEach kws X.env)).filterMap (·.1) = ks)
    (he : starEach [.Starred e sp_] X.env = [(true, eval e X.env)])
    (hi : interactive X.env = false) (hs : swapsWith (.Call (.Attribute (.Call (.Name "super" p0) [] [] p1) "__init__" apos) [.Starred e sp_] kws pos) none spos.line X.env = pure false)
    (pins : List (Addr × Obj)) (s : Shared) (σ : St) (H : Hp) (D' : Ends) (I : Inv X pins σ H s) (h : tSup C ks.length sp gV E X.K te tk D' σ H) :
    _root_.PySem.wpAt (model X.prog X.w) X.A (.func body X.env) (exec (.Expr (.Call (.Attribute (.Call (.Name "super" p0) [] [] p1) "__init__" apos) [.Starred e sp_] kws pos) spos) X.env) (SP X pins D') X.xe s := by
  obtain ⟨o, dx, fs, hs0, ho, h⟩ := h
  obtain ⟨fa, cda, cc, oc, od, fdA, osl, ar, ccl, cdd, vs, ccs, file, tf, cl, cld, csl, cdD, q1, q2, q3, q4, q5, q6, q7, q8, q9, q10, q11, q12⟩ := S.ex
  refine ks_wpAt_Expr_any ?_ hi hs
  rw [arm_eval_Call]
  obtain ⟨mA, J1, _⟩ := ins_get I.hok ho
  obtain ⟨od1, J1, _⟩ := J1.look
  have KX := I.kIn
  obtain ⟨cd1, hC1⟩ : ∃ cd, PySem.W.clsIn X.K C = some cd := by
    cases hc : PySem.W.clsIn X.K C with
    | none =>
      have := M.at_
      unfold PySem.W.ks_superIn at this
      rw [hc] at this
      cases this
    | some cd => exact ⟨cd, rfl⟩
  obtain ⟨oD, hD1, hD2⟩ : ∃ oD, s.heap.get? D = some oD ∧ oD.data = .cls cdD := by
    unfold PySem.W.clsIn at q12
    split at q12
    · rename_i c d cd' sl hoD
      cases q12
      exact ⟨_, KX _ _ hoD, rfl⟩
    · cases q12
  have hm := M.at_
  unfold PySem.W.ks_superIn at hm
  rw [hC1] at hm
  have hm : PySem.W.alongIn X.K "__init__" ((cd1.mro.dropWhile (· != .ref D)).drop 1) = some (some (.ref f)) := hm
  obtain ⟨ofn, hof, hofc⟩ : ∃ of, X.K.lookup f = some of ∧ of.cls = .type "function" := by
    have ht' : (X.K.lookup f).map (·.cls) = some (.type "function") := M.ty
    cases z : X.K.lookup f with
    | none => rw [z] at ht'; cases ht'
    | some of => rw [z] at ht'; exact ⟨of, rfl, Option.some.inj ht'⟩
  obtain ⟨ml, hns, hlk⟩ := I.loc
  have hself : ml x0 = some (.ref o) := by
    obtain ⟨u, ru, lu⟩ := hlk 0 x0 (.ref o) S.n0 hs0 (.inl S.k0)
    obtain rfl : u = Value.ref o := ru
    rcases lu with ⟨_, h⟩ | ⟨h | h, _⟩
    · exact h
    · rw [S.k0] at h; cases h
    · rw [S.k0] at h; cases h
  subst q4
  refine _root_.PySem.wpAt_bind (_root_.PySem.wpAt_mono (Q := fun ov s1 => ∃ so h', ov = Value.ref so ∧ s1 = { s with heap := h' } ∧ h'.get? so = some (PySem.W.ks_superObj D o C) ∧ (∀ b u, s.heap.get? b = some u → h'.get? b = some u)) (E := X.xe) ?_ ?_ fun _ _ z => z)
  · refine ks_wpAt_super_base (env := X.env) S.ks S.kc rfl q1 (KX _ _ q2) rfl q3 q5 (KX _ _ q6) rfl q7 q8 q9 ?_
    obtain ⟨mb, h1, h2⟩ := I.mod.blt
    refine PySem.W.ks_loadName_global I.ok.kind S.ks (Calls.loadGlobal_builtin (by rw [I.ok.glob]; exact I.mod.glob.keeps I.bk) S.mg (by rw [I.ok.blt]; exact h1.keeps I.bk) ((h2 "super" (by decide)).trans (show bootBuiltins "super" = some (.type "super") by decide +kernel)) ⟨rfl, ?_⟩)
    refine wpAny_loadName_free I.ok.kind S.kc q10 ⟨_, KX _ _ q11, rfl⟩ ?_
    refine wpAny_loadName_local I.ok.kind S.k0 hns hself ?_
    refine ks_wpAny_isType_cls hD1 hD2 ⟨rfl, ?_⟩
    refine ks_wpAny_call_super hD1 hD2 J1.at_ J1.cls (fun c e => ?_) (PySem.W.looks_mroIn KX M.sub) (fun h' e k => ?_)
    · have := J1.no
      unfold PySem.W.notCls at this
      rw [e] at this
      exact Bool.noConfusion this
    · exact ⟨_, h', rfl, rfl, e, k⟩
  rintro ov s1 ⟨so, h', rfl, rfl, eso, keep⟩
  refine _root_.PySem.wpAt_of_wpAny (wpAny_bind (wpAny_standAt ?_))
  unfold methodCall
  rw [he]
  have hform : ∀ n ks9, methodCallForm n (backTo pos [(true, eval e X.env)]) ks9 = false := fun _ _ => rfl
  have hpos : methodCallPos false (.Call (.Name "super" p0) [] [] p1) X.env apos pos = pure pos := rfl
  have hcal : ∀ ov, calleeOf false (.Call (.Name "super" p0) [] [] p1) X.env ov "__init__" = (getAttr ov "__init__" true >>= fun v => pure (v, [])) := fun _ => rfl
  rw [hform, hpos, hcal]
  refine wpAny_bind (wpAny_holding (wpAny_bind ?_))
  have I1 : Inv X pins σ H { s with heap := h' } := I.kept keep
  have KX1 := I1.kIn
  obtain ⟨mA2, J2, _⟩ := ins_get I1.hok ho
  obtain ⟨od2, J2, _⟩ := J2.look
  refine getAttr_super eso (PySem.W.looks_opaque KX1 M.tp) (l₀ := cd1.mro) ?_ rfl KX1 hm (KX1 _ _ hof) hofc (PySem.W.ks_ne KX1 J2 hC1) rfl ?_
  · exact fun A Q E s k q => wpAny_bind ((PySem.W.looks_clsIn KX1 hC1) A _ E s k (wpAny_pure q))
  have I2 : Inv X ((h'.objs.size, PySem.W.methodObj (.ref f) (.ref o)) :: pins) σ H { s with heap := h'.push (PySem.W.methodObj (.ref f) (.ref o)), toks := s.toks + 1 }   := pin_new (s := { s with heap := h' }) (h' := h'.push (PySem.W.methodObj (.ref f) (.ref o))) (t' := s.toks + 1) I1 (fun _ _ z => Heap.get?_push_of_some _ z) (Nat.le_refl _) (Heap.get?_push_size _ rfl) (fun v z => nomatch z)
  refine wpAny_pure (wpAny_bind (wpAny_pure ?_))
  refine call_starKw (P := PySem.W.MethP X.K h'.objs.size f (.ref o)) (PySem.W.keeps_M M.fn) rfl (args_loneKw hall (thn (hy.run _ _ σ _ _ I2 h) fun u s2 ⟨y, H2, I3, ry, q⟩ => thn (hkw.run pos _ s2 σ H2 _ I3 q) fun kv s3 ⟨zs, H3, I4, rz, l2, a, xs, ey, hxs, lx, q3⟩ => ?_))
  subst ey
  obtain rfl : u = Value.ref a := ry
  refine StX.star_any I4 hxs fun us s4 I5 rv => ⟨⟨pin_at I5, I5.kIn⟩, ?_⟩
  rw [hks]
  show wpAny (model X.prog X.w) X.A (call (.ref h'.objs.size) us (ks.zip kv)) _ X.xe s4
  refine wpAny_call (PySem.W.method_call (pin_at I5) (codeAny_mono (F.run X.A X.stack s4 H3 ⟨Value.ref o :: us, ks.zip kv⟩ [Value.ref o] us (g kv) [V.ref o] xs (gV zs) (fun _ H3 => D'.nx σ H3) (E σ) hr hgu I5.env0 (B.to _ [Value.ref o] us kv I5.kIn rfl (rz.length.symm.trans l2)) (.cons rfl .nil) rv (B.rel rz) rfl (B.len zs l2) lx q3) fun r s' hq' => ?_))
  rcases r with er | fl
  · exact hx σ _ _ _ er s' I5 hq'
  · cases fl with
    | ret u =>
      obtain ⟨v, H', I6, rv, q4⟩ := I5.after hq'
      exact ⟨σ, H', unpin I6, q4⟩
    | next => exact hq'.elim
    | brk => exact hq'.elim
    | cont => exact hq'.elim
end
/-! ### a def that closes over __class__ -/
structure ScopeS (N P : List Str) (sc : Scope) : Prop where
  kind : sc.kind = .function
  co : sc.isCoroutine = false
  gen : sc.isGenerator = false
  nd : N.Nodup
  pre : N.take P.length = P
  par : ∀ x ∈ P, sc.names.lookup x = some .local
  nocell : ∀ x ∈ sc.names, x.2 ≠ .cell
  free : ∀ y ∈ sc.names, y.2 = .free → y.1 = ("__class__" : Str)
  cls : sc.names.lookup ("__class__" : Str) = some .free
  sup : sc.names.lookup ("super" : Str) = some .globalImplicit
structure FunC (K : PySem.W.Frag) (x qual : Str) (st : Stmt) (f : Addr) (fd : FuncData) (D : Addr) (x0 FILE : Str) : Prop where
  ex : ∃ (oc : Value) (od : Option Addr) (dV kV doc pm ct : Value) (an : Option Addr) (osl : Array (Option Value)) (cc cda : Addr) (cld : Option Addr) (csl : Array (Option Value)) (cdd : Option Addr) (ccs : Array (Option Value)) (vs : Array Value) (tf : Tok) (ar : Arg),
    fd = PySem.W.fnX x qual (defArgs st) (defBody st) (defScope st) [("__class__", cc)] dV kV doc pm an (.ref cda) ct ∧ K.lookup f = some ⟨oc, od, .func fd, osl⟩ ∧ PySem.W.codeIn K (.ref cda) qual = true ∧
    K.lookup cda = some ⟨.type "code", cdd, .fields vs, ccs⟩ ∧ vs[2]? = some (.str FILE tf) ∧
    K.lookup cc = some ⟨.type "cell", cld, .cell (some (.ref D)), csl⟩ ∧ (PySem.W.clsIn K D).isSome = true ∧ ((defArgs st).posonlyargs ++ (defArgs st).args).head? = some ar ∧ ar.arg = x0
  kp : PySem.W.keepIn K (.ref f) = true
def cxS (P : Program) (w : World) (K : PySem.W.Frag) (mg : Str → Option Value) (base : Heap) (N : List Str) (qual : Str) (scope : Scope) (f cda cc : Addr) (A : Around) (outer : List Env) (s : Shared) (H : Hp) (E : XK) : Cx where
  prog := P
  w := w
  K := K
  mg := mg
  base := base
  A := A.deeper (PySem.W.ksEnv qual scope s.heap.objs.size f (.ref cda) cc)
  N := N
  s_0 := s
  H_0 := H
  env := PySem.W.ksEnv qual scope s.heap.objs.size f (.ref cda) cc
  outer := outer
  stack := PySem.W.ksEnv qual scope s.heap.objs.size f (.ref cda) cc :: outer
  ex := []
  calm := true
  fn := fun _ => false
  pn := []
  xe := fun e s' => wpAny (model P w) (A.deeper (PySem.W.ksEnv qual scope s.heap.objs.size f (.ref cda) cc)) (leaving (PySem.W.ksEnv qual scope s.heap.objs.size f (.ref cda) cc) e) (fun _ s'' => L2.CX P w outer H s E e s'') (fun e' s'' => L2.CX P w outer H s E e' s'') s'
theorem lookup_nodup {α : Type} : ∀ {l : List (Str × α)} {x : Str} {a : α}, (l.map (·.1)).Nodup → (x, a) ∈ l → l.lookup x = some a
  | (y, b) :: r, x, a, nd, h => by
    rw [List.map_cons, List.nodup_cons] at nd
    rw [List.lookup_cons]
    rcases List.mem_cons.mp h with e | m
    · cases e
      simp
    · have ne : x ≠ y := fun e => nd.1 (by rw [← e]; exact List.mem_map.mpr ⟨_, m, rfl⟩)
      rw [show (x == y) = false by simpa using ne]
      exact lookup_nodup nd.2 m
section
variable {P : Program} {w : World} {K : PySem.W.Frag} {mg : Str → Option Value} {base : Heap} {N ps : List Str} {qual : Str} {scope : Scope} {f cda cc : Addr} {A : Around} {outer : List Env} {s : Shared} {H : Hp} {E : XK} {us : List Value} {vs : List V}
theorem cellsS {x : Str} {c : Addr} (h : List.lookup x [(("__class__" : Str), cc)] = some c) : x = ("__class__" : Str) ∧ c = cc := by
  rw [List.lookup_cons] at h
  split at h
  · rename_i e
    exact ⟨by simpa using e, (Option.some.inj h).symm⟩
  · cases h
theorem inv_startS {cl : Value} {cld : Option Addr} {csl : Array (Option Value)} {vc : Option Value} {h1 : Heap} {tk : Nat} (S : ScopeS N ps scope) (hd : A.handled = none) (e0 : Env0 P w K mg base A outer s H) (hl : vs.length = ps.length) (r : Vals vs us) (hcc : K.lookup cc = some ⟨cl, cld, .cell vc, csl⟩)
    (ns : h1.Ns s.heap.objs.size (fun x => (ps.zip us).reverse.lookup x)) (hk : ∀ b o, s.heap.get? b = some o → h1.get? b = some o) : Inv (cxS P w K mg base N qual scope f cda cc A outer s H E) [] (start N vs) H { s with heap := h1, toks := tk } := by
  have hpl : ps.length ≤ N.length := by have := congrArg List.length S.pre; rw [List.length_take] at this; omega
  have noA : ∀ b : Addr, b ∉ (cxS P w K mg base N qual scope f cda cc A outer s H E).ex := fun b z => absurd (show b ∈ ([] : List Addr) from z) (by simp)
  have hcb := e0.mod.kin _ _ hcc
  have hlu : us.length = ps.length := by rw [← r.length]; exact hl
  refine ⟨⟨e0.mod, S.kind, rfl, rfl, Nat.le_refl _, fun y z c h1 h2 => ?_, fun y hy => ?_, fun y c h _ => (nomatch h), fun _ => hd, Around.frames_deeper e0.frames, .inr ⟨rfl, rfl⟩, fun b z => absurd z (noA b), e0.bs, e0.bsz, fun b _ _ => noA b, fun b z => absurd z (noA b), e0.funs, e0.frf⟩,
    rfl, e0.bare, Un.kept hk, ⟨_, ns, fun i y v h1 h2 h3 => ?_⟩, fun y c h => ?_, e0.hok.fresh (Nat.le_refl _), fun y c h => ?_, fun p hp => absurd (show p ∈ ([] : List (Addr × Obj)) from hp) (by simp), e0.hok.kept hk, ?_⟩
  · rw [(cellsS h1).1, (cellsS h2).1]
  · have hy : scope.names.lookup y = some .cell ∨ scope.names.lookup y = some .free := hy
    rcases hy with hy | hy
    · exact absurd rfl (S.nocell _ (PySem.mem_of_lookup hy))
    · have := S.free _ (PySem.mem_of_lookup hy) rfl
      have e : y = ("__class__" : Str) := this
      subst e
      exact ⟨cc, rfl⟩
  · have hi : i < vs.length := by
      unfold L2.start at h2
      by_cases hi : i < vs.length
      · exact hi
      · rw [List.getElem?_append_right (by simpa using hi)] at h2
        rw [List.getElem?_replicate] at h2
        split at h2 <;> cases h2
    have ha : vs[i]? = some v := by
      unfold L2.start at h2
      rw [List.getElem?_append_left (by simpa using hi), List.getElem?_map] at h2
      cases e : vs[i]? with
      | none => rw [e] at h2; cases h2
      | some a => rw [e] at h2; cases h2; rfl
    obtain ⟨u, hu, rv⟩ := r.get ha
    have hp : ps[i]? = some y := by
      rw [← S.pre, List.getElem?_take_of_lt (by omega)]; exact h1
    have ndP : ps.Nodup := by rw [← S.pre]; exact S.nd.sublist (List.take_sublist _ _)
    refine ⟨u, rv, .inl ⟨S.par y (List.mem_of_getElem? hp), ?_⟩⟩
    show (ps.zip us).reverse.lookup y = some u
    refine lookup_nodup ?_ (List.mem_reverse.mpr (List.mem_of_getElem? (i := i) ?_))
    · rw [List.map_reverse, List.map_fst_zip (by omega)]
      exact (List.reverse_perm _).nodup_iff.mpr ndP
    · rw [List.getElem?_zip_eq_some]
      exact ⟨hp, hu⟩
  · obtain ⟨rfl, rfl⟩ := cellsS h
    exact ⟨vc, _, hk _ _ (e0.bs _ _ hcb).1, rfl⟩
  · obtain ⟨rfl, rfl⟩ := cellsS h
    exact (e0.bs _ _ hcb).2
  · unfold L2.start
    rw [List.length_append, List.length_map, List.length_replicate]
    show vs.length + (N.length - vs.length) = N.length
    omega
end
/-- statements at their def's own activation -/
structure PAs (X : Cx) (body st : List Stmt) (t : TS) : Prop where
  run : ∀ (pins : List (Addr × Obj)) (s : Shared) (σ : St) (H : Hp) (D : Ends), Inv X pins σ H s → t D σ H → _root_.PySem.wpAt (model X.prog X.w) X.A (.func body X.env) (execs st X.env) (SP X pins D) X.xe s
section
variable {X : Cx} {body rest : List Stmt} {st : Stmt} {sts : List Stmt} {t u : TS}
theorem pas_plain (h : PSs X sts t) : PAs X body sts t := ⟨fun pins s σ H D I q => _root_.PySem.wpAt_of_wpAny (h.run pins s σ H D I q)⟩
theorem pas_sup (h1 : ∀ (pins : List (Addr × Obj)) (s : Shared) (σ : St) (H : Hp) (D : Ends), Inv X pins σ H s → t D σ H → _root_.PySem.wpAt (model X.prog X.w) X.A (.func body X.env) (exec st X.env) (SP X pins D) X.xe s) (h2 : PAs X body rest u) : PAs X body (st :: rest) (tSeq t u) := by
  refine ⟨fun pins s σ H D I h => ?_⟩
  refine ks_wpAt_execs_cons (_root_.PySem.wpAt_mono (h1 pins s σ H { D with nx := u D } I h) (fun f s1 q => ?_) fun _ _ z => z)
  cases f with
  | next =>
    obtain ⟨σ', H', I', q⟩ := q
    exact h2.run pins s1 σ' H' D I' q
  | ret v => exact q
  | brk => exact q
  | cont => exact q
theorem pas_cons (h1 : PS X st t) (h2 : PAs X body rest u) : PAs X body (st :: rest) (tSeq t u) := pas_sup (fun pins s σ H D I q => _root_.PySem.wpAt_of_wpAny (h1.run pins s σ H D I q)) h2
end
section
variable {gd : Bool} {P : Program} {w : World} {K : PySem.W.Frag} {mg : Str → Option Value} {base : Heap}
theorem okSup {x qual : Str} {st : Stmt} {f D : Addr} {fd : FuncData} {N ps : List Str} {x0 FILE : Str} {k n m : Nat} {sp : Sp} (F : FunC K x qual st f fd D x0 FILE) (hP1 : P.main.file = FILE) (hP2 : (P.main.scope.names.lookup ("super" : Str)).isSome = false) (S : ScopeS N ps (defScope st)) (h0 : N[0]? = some x0) (hx0 : (defScope st).names.lookup x0 = some .local) (hmg : mg "super" = none) (hps : ps.length = n + m + 1)
    (hbody : ∀ (cda cc : Addr) (A : Around) (outer : List Env) (s : Shared) (H : Hp) (vs : List V) (Q : VK) (E : XK), SupC (cxS P w K mg base N qual (defScope st) f cda cc A outer s H E) D x0 →
      Room k (A.deeper (PySem.W.ksEnv qual (defScope st) s.heap.objs.size f (.ref cda) cc)) → (gd = true → (A.deeper (PySem.W.ksEnv qual (defScope st) s.heap.objs.size f (.ref cda) cc)).guards = some []) → sp vs H Q E →
      ∃ t, PAs (cxS P w K mg base N qual (defScope st) f cda cc A outer s H E) (defBody st) (defBody st) t ∧ t { nx := fun _ H' => Q .non H', rt := Q } (start N vs) H) :
    FnS gd P w K mg base (k + 1) f fd ps n m sp := by
  obtain ⟨oc, od, dV, kV, doc, pm, ct, an, osl, cc, cda, cld, csl, cdd, ccs, vs0, tf, ar, rfl, lk, hcd, q1, q2, q5, q6, q7, q8⟩ := F.ex
  obtain ⟨cdD, q6⟩ := Option.isSome_iff_exists.mp q6
  have q3 : ((P.main.file : Str) == FILE) = true := by rw [hP1]; simp
  refine ⟨fun A outer s H args u1 rest kv ws rs zs Q E hr hgu e0 hb r1 r2 r3 l1 l2 l3 hq => ?_⟩
  have hn : H s.heap.objs.size = Option.none := e0.hok.fresh (Nat.le_refl _)
  have KX : K.In s.heap := e0.mod.kin.keeps fun b o e => (e0.bs b o e).1
  have supC : ∀ s2 H2, SupC (cxS P w K mg base N qual (defScope st) f cda cc A outer s2 H2 E) D x0 := fun s2 H2 =>
    ⟨⟨f, cda, cc, oc, od, _, osl, ar, _, cdd, vs0, ccs, FILE, tf, _, cld, csl, cdD, rfl, lk, q7, q8, rfl, q1, q2, q3, hP2, rfl, q5, q6⟩, S.sup, S.cls, hx0, h0, hmg⟩
  refine codeAny_call_function hr.depth (KX _ _ lk) rfl S.co S.gen rfl (PySem.W.codeRec_of KX hcd) ?_
  refine hb _ _ _ _ (by rw [← r2.length]; exact l3) ?_
  have new : ObjOk P w (upd H s.heap.objs.size (.tup rs)) (s.heap.push ({ cls := .type "tuple", data := .seq rest.toArray } : Obj)) s.heap.objs.size (.tup rs) := ⟨l3, rest, r2, ⟨_, Heap.get?_push_size _ rfl, rfl, _, rfl⟩⟩
  have un := StX.un_laid (fs := frs outer) (s := s) (o := ({ cls := .type "tuple", data := .seq rest.toArray } : Obj)) (u := .tup rs) hn
  have e2 := StX.env0_laid e0 new
  have hlen : (ws ++ zs ++ [V.ref s.heap.objs.size]).length = ps.length := by
    rw [List.length_append, List.length_append, l1, l2, hps]
    rfl
  have rv : Vals (ws ++ zs ++ [V.ref s.heap.objs.size]) (u1 ++ kv ++ [Value.ref s.heap.objs.size]) := (r1.append r3).append (.cons rfl .nil)
  have lim : ({ s with heap := s.heap.push ({ cls := .type "tuple", data := .seq rest.toArray } : Obj) } : Shared).heap.NoLimit := e0.mod.nolimit.keeps fun b o e => (e2.bs b o e).1
  refine wpAny_newFunctionEnv (s := { s with heap := s.heap.push ({ cls := .type "tuple", data := .seq rest.toArray } : Obj) }) S.nocell (fun y hy => ?_) (fun h1 hns hsb => ?_) S.kind
  · obtain ⟨y1, y2⟩ := y
    exact S.par _ (List.of_mem_zip hy).1
  have keep : ∀ b o, (s.heap.push ({ cls := .type "tuple", data := .seq rest.toArray } : Obj)).get? b = some o → h1.get? b = some o := fun b o e => hsb.extBut b o (Nat.ne_of_lt (Heap.lt_size e)) (Heap.get?_push_of_some _ e)
  refine ⟨lim.fresh _ hsb, ks_codeAny_funcAt ?_⟩
  obtain ⟨t, ht, hq2⟩ := hbody cda cc A outer { s with heap := s.heap.push ({ cls := .type "tuple", data := .seq rest.toArray } : Obj) } (upd H s.heap.objs.size (.tup rs)) _ Q E (supC _ _) (hr.deeper _) hgu (hq _ hn)
  have I := inv_startS (N := N) (qual := qual) (f := f) (cda := cda) (E := E) (tk := s.toks + (ps.zip (u1 ++ kv ++ [Value.ref s.heap.objs.size])).length) S hr.hd e2 hlen rv q5 hns keep
  refine _root_.PySem.wpAt_mono (ht.run [] _ _ _ _ I hq2) (fun fl s' hs => ?_) fun e s' hs => ?_
  · have fin : ∀ {σ' : St} {H' : Hp} {v' : V} {u' : Value}, Inv (cxS P w K mg base N qual (defScope st) f cda cc A outer { s with heap := s.heap.push ({ cls := .type "tuple", data := .seq rest.toArray } : Obj) } (upd H s.heap.objs.size (.tup rs)) E) [] σ' H' s' → RelV v' u' → Q v' H' → CE outer P w H s Q u' s' :=
      fun {σ' H' v' u'} J rv' q => ⟨v', H', J.os, J.bare, un.trans J.base, J.hok, rv', q⟩
    cases fl with
    | ret u' =>
      obtain ⟨v', σ', H', J, rv', q⟩ := hs
      exact fin J rv' q
    | next =>
      obtain ⟨σ', H', J, q⟩ := hs
      exact fin (v' := V.non) (u' := Value.none) J rfl q
    | brk =>
      obtain ⟨_, _, _, q⟩ := hs
      exact False.elim q
    | cont =>
      obtain ⟨_, _, _, q⟩ := hs
      exact False.elim q
  · have up : ∀ e' s'', L2.CX P w outer (upd H s.heap.objs.size (.tup rs)) { s with heap := s.heap.push ({ cls := .type "tuple", data := .seq rest.toArray } : Obj) } E e' s'' → L2.CX P w outer H s E e' s'' := fun e' s'' z => StX.cxUp outer s H { s with heap := s.heap.push ({ cls := .type "tuple", data := .seq rest.toArray } : Obj) } (upd H s.heap.objs.size (.tup rs)) E e' s'' un (fun b o q => Heap.get?_push_of_some _ q) rfl z
    exact wpAny_mono hs (fun _ s'' z => up _ _ z) fun e' s'' z => up _ _ z
end
end Z
namespace Z
open PySem PySem.Spec PyProof.Rows L2
/-! ### C(e, .., k = v, ..), C of the module, its __init__ a def with *rest -/
section
variable {gd : Bool} {X : Cx} {k n m i : Nat} {f C : Addr} {fd : FuncData} {ps ks : List Str} {sp : Sp} {E : St → XK} {x : Str} {p pos sp_ : Pos} {e : Expr} {es : List Expr} {kws : List Keyword} {te : TE} {t tk : TA} {g : List Value → List Value} {gV : List V → List V}
def zMakeSK (C : Addr) (n j : Nat) (sp : Sp) (gV : List V → List V) (E : St → XK) (t tk : TA) : TE := fun σ H Q => t σ H fun vs H1 => tk σ H1 fun zs H2 => zs.length = j ∧ NewS C n sp gV (E σ) vs zs H2 Q
theorem pe_makeSK (M : Mk X.K C f) (F : FnS gd X.prog X.w X.K X.mg X.base k f fd ps (n + 1) m sp) (hr : Room (k + 1) X.A) (hgu : gd = true → X.A.guards = some []) (B : SBn X.K fd ps (n + 1) m ks g gV) (hg : Gl X x) (hm : X.mg x = some (.ref C))
    (hx : ∀ σ, PassesAt (L2.CX X.prog X.w) X σ (E σ)) (ha : PA X (e :: es) t) (hkw : PK X kws tk)
    (hall : (backToKw pos (keywordEach kws X.env)).all (·.1.isSome) = true := by rfl) (hks : (backToKw pos (keywordEach kws X.env)).filterMap (·.1) = ks := by rfl) (hdb : (x == ("__debug__" : Str)) = false := by decide)
    (he : starEach (e :: es) X.env = (false, eval e X.env) :: starEach es X.env := by rfl) (hpl : ((backTo pos (starEach (e :: es) X.env)).any (·.1) || (backToKw pos (keywordEach kws X.env)).any (·.1.isNone)) = false := by rfl) :
    PE X (.Call (.Name x p) (e :: es) kws pos) (zMakeSK C n ks.length sp gV E t tk) := by
  constructor
  intro pins s σ H Q I h
  refine wpAny_Call_Name_kw (ld_glob I hg hm ?_ hdb)
  refine PySem.W.callWith_KW (h₀ := X.base) I.ok.mod.kin M.kp hall (thn (ha.run pos pins s σ H _ I h) fun us s1 ⟨vs, H1, I1, r, q⟩ => ?_) hpl he
  refine thn (hkw.run pos pins s1 σ H1 _ I1 q) fun ws s2 ⟨zs, H2, I2, rz, l2, q2⟩ => ⟨I2.kIn, ?_⟩
  rw [hks]
  exact run_newS M F hr hgu B (hx σ) I2 r rz l2 q2
end
end Z
namespace Z
open PySem PySem.Spec PyProof.Rows L2
open PySem.SeqAt
open AutoSeq1 (wpAny_loadPart')
open MeetsSeq MeetsSeq2 MeetsSeq3 SeqRoads2
/-! ### == and != of lists and tuples, the items' == run by the program: it may answer False and may make objects -/
section
variable {prog : Program} {w : World} {A : Around} {R : Result → Shared → Prop}
def LstAt (l b : Addr) (N : Nat) (s : Shared) (P : Array Value → Array Value → Prop) : Prop := ∃ (items items2 : Array Value), s.heap.IsList l items ∧ s.heap.IsList b items2 ∧ items.size = N ∧ items2.size = N ∧ P items items2
def LstB (prog : Program) (w : World) (A : Around) (E : Value → Shared → Prop) (l b : Addr) (N : Nat) (I : Nat → Shared → Prop) (Fl : Shared → Prop) : Prop :=
  (∀ i s, I i s → LstAt l b N s fun items items2 => ∀ (h1 : i < items.size) (h2 : i < items2.size), wpAny (model prog w) A.in1 (eqBool items[i] items2[i]) (fun r s' => (r = true ∧ I (i + 1) s') ∨ (r = false ∧ Fl s')) E s) ∧
  (∀ s, Fl s → LstAt l b N s fun _ _ => True)
theorem eq_loopB (l b : Addr) (N : Nat) (I : Nat → Shared → Prop) (Fl : Shared → Prop) (hl : LstB prog w A (fun e s' => R (.error e) s') l b N I Fl)
    (fin : ∀ s, I N s → R (.ok (.ret (.bool true))) s) (fail : ∀ s, Fl s → R (.ok (.ret (.bool false))) s) (k : Nat) :
    ∀ i : Nat, N - i = k → i ≤ N → ∀ s, I i s →
      wpAny (model prog w) A.in1 (Builtin.«list.__eq__.loop» ⟨[.ref l, .ref b, rawInt i, rawInt 2], []⟩) (GQ.FinOf prog w A R) (fun e s' => R (.error e) s') s := by
  induction k with
  | zero =>
    intro i hk hi s h
    obtain ⟨items, items2, hL1, hL2, hs1, hs2, _⟩ := hl.1 _ _ h
    obtain ⟨⟨cls, dd, data, sl⟩, hl1, hc, n, hd⟩ := hL1
    obtain ⟨⟨cls2, dd2, data2, sl2⟩, hb1, hc2, n2, hd2⟩ := hL2
    simp only at hc hd hc2 hd2
    subst hc hd hc2 hd2
    have hi' : i = N := by omega
    have hR : R (.ok (.ret (.bool true))) s := fin s (hi' ▸ h)
    obtain ⟨hp, g, d, tk, os⟩ := s
    wp_walk using wpAny_loadPart' hl1, wpAny_loadPart' hb1
    have hi1 : items[((i : Nat) : Int).toNat]? = none := by simp; omega
    have hi2 : items2[((i : Nat) : Int).toNat]? = none := by simp; omega
    rw [hi1, hi2]
    wp_walk using wpAny_loadPart' hl1, wpAny_loadPart' hb1
    show R (.ok (.ret (.bool (items.size == items2.size)))) _
    rw [hs1, hs2]
    simpa using hR
  | succ k ih =>
    intro i hk hi s h
    obtain ⟨items, items2, hL1, hL2, hs1, hs2, turn⟩ := hl.1 _ _ h
    obtain ⟨⟨cls, dd, data, sl⟩, hl1, hc, n, hd⟩ := hL1
    obtain ⟨⟨cls2, dd2, data2, sl2⟩, hb1, hc2, n2, hd2⟩ := hL2
    simp only at hc hd hc2 hd2
    subst hc hd hc2 hd2
    have hlt : i < items.size := by omega
    have hlt2 : i < items2.size := by omega
    have ht := turn hlt hlt2
    obtain ⟨hp, g, d, tk, os⟩ := s
    wp_walk using wpAny_loadPart' hl1, wpAny_loadPart' hb1
    have hi1 : items[((i : Nat) : Int).toNat]? = some items[i] := by simp [hlt]
    have hi2 : items2[((i : Nat) : Int).toNat]? = some items2[i] := by simp [hlt2]
    have hc : ((i : Int) + 1) = ((i + 1 : Nat) : Int) := by omega
    rw [hi1, hi2]
    refine wpAny_bind (wpAny_mono ht (fun r s2 h2 => ?_) fun _ _ x => x)
    rcases h2 with ⟨hr, h2⟩ | ⟨hr, h2⟩
    · subst hr
      have hrec := ih (i + 1) (by omega) (by omega) s2 h2
      obtain ⟨hp2, g2, d2, tk2, os2⟩ := s2
      wp_walk
      rw [hc]
      exact ⟨plainId_quiet plain_eq_loop _, codeAny_builtin entry_eq_loop (by
        rw [Around.under_plainId plain_eq_loop _]
        exact hrec)⟩
    · subst hr
      have hR := fail s2 h2
      obtain ⟨jtems, jtems2, gL1, gL2, gs1, gs2, _⟩ := hl.2 _ h2
      obtain ⟨⟨cls3, dd3, data3, sl3⟩, gl1, gc, m3, gd⟩ := gL1
      obtain ⟨⟨cls4, dd4, data4, sl4⟩, gb1, gc2, m4, gd2⟩ := gL2
      simp only at gc gd gc2 gd2
      subst gc gd gc2 gd2
      have glt : i < jtems.size := by omega
      have glt2 : i < jtems2.size := by omega
      have gi1 : jtems[((i : Nat) : Int).toNat]? = some jtems[i] := by simp [glt]
      have gi2 : jtems2[((i : Nat) : Int).toNat]? = some jtems2[i] := by simp [glt2]
      obtain ⟨hp2, g2, d2, tk2, os2⟩ := s2
      wp_walk using wpAny_loadPart' gl1, wpAny_loadPart' gb1
      rw [gi1, gi2]
      wp_walk
      simpa using hR
theorem list_eqB (l b : Addr) (N : Nat) (I : Nat → Shared → Prop) (Fl : Shared → Prop) (hl : LstB prog w A (fun e s' => R (.error e) s') l b N I Fl)
    (fin : ∀ s, I N s → R (.ok (.ret (.bool true))) s) (fail : ∀ s, Fl s → R (.ok (.ret (.bool false))) s) {s : Shared} (h : I 0 s) :
    wpAny (model prog w) A.in1 (Builtin.«list.__eq__» ⟨[.ref l, .ref b], []⟩) (GQ.FinOf prog w A R) (fun e s' => R (.error e) s') s := by
  obtain ⟨items, items2, hL1, hL2, hs1, hs2, _⟩ := hl.1 _ _ h
  obtain ⟨⟨cls, dd, data, sl⟩, hl1, hc, n, hd⟩ := hL1
  obtain ⟨⟨cls2, dd2, data2, sl2⟩, hb1, hc2, n2, hd2⟩ := hL2
  simp only at hc hd hc2 hd2
  subst hc hd hc2 hd2
  have hrec := eq_loopB (A := A) (R := R) l b N I Fl hl fin fail _ 0 rfl (Nat.zero_le _) s h
  obtain ⟨hp, g, d, tk, os⟩ := s
  have f3 := AutoSeq1.sub_list_list
  have hne : ¬ (items.size != items2.size) = true := by simp [hs1, hs2]
  wp_walk using wpAny_loadPart' hl1, wpAny_loadPart' hb1
  exact ⟨plainId_quiet plain_eq_loop _, codeAny_builtin entry_eq_loop (by
    rw [Around.under_plainId plain_eq_loop _]
    exact hrec)⟩
theorem tuple_eqB (l b : Addr) (items items2 : Array Value) (n n2 : Nat) (dd dd2 : Option Addr) (sl sl2 : Array (Option Value)) (I : Nat → Shared → Prop) (Fl : Shared → Prop)
    (turn : ∀ i (h1 : i < items.size) (h2 : i < items2.size) s, I i s → wpAny (model prog w) A.in1 (eqBool items[i] items2[i]) (fun r s' => (r = true ∧ I (i + 1) s') ∨ (r = false ∧ Fl s')) (fun e s' => R (.error e) s') s)
    (fin : ∀ s, I (min items.size items2.size) s → R (.ok (.ret (.bool (items.size == items2.size)))) s) (fail : ∀ s, Fl s → R (.ok (.ret (.bool false))) s) {s : Shared}
    (hl1 : s.heap.get? l = some { cls := .type "tuple", dict := dd, data := .seq items n, slots := sl }) (hb1 : s.heap.get? b = some { cls := .type "tuple", dict := dd2, data := .seq items2 n2, slots := sl2 }) (h : I 0 s) :
    wpAny (model prog w) A.in1 (Builtin.«tuple.__eq__» ⟨[.ref l, .ref b], []⟩) (GQ.FinOf prog w A R) (fun e s' => R (.error e) s') s := by
  have f2 := AutoSeq1.sub_tuple_tuple
  have hZ : (items.toList.zip items2.toList).length = min items.size items2.size := by simp
  have h0 := h
  obtain ⟨hp, g, d, tk, os⟩ := s
  wp_walk using wpAny_loadPart' hl1, wpAny_loadPart' hb1, wpAny_forIn_list _ (fun rest b s' => b.1 = none ∧ ∃ i, rest = (items.toList.zip items2.toList).drop i ∧ i ≤ min items.size items2.size ∧ I i s') _
  case turn =>
    rintro ⟨y, x⟩ rest b s' ⟨hb', i, hz, hi, hI⟩
    have hlt : i < (items.toList.zip items2.toList).length := by
      rcases Nat.lt_or_ge i (items.toList.zip items2.toList).length with h' | h'
      · exact h'
      · rw [List.drop_of_length_le h'] at hz; cases hz
    have hm : i < min items.size items2.size := hZ ▸ hlt
    have h1 : i < items.size := Nat.lt_of_lt_of_le hm (Nat.min_le_left _ _)
    have h2 : i < items2.size := Nat.lt_of_lt_of_le hm (Nat.min_le_right _ _)
    rw [List.drop_eq_getElem_cons hlt] at hz
    injection hz with hyx hrest
    have hy : y = items[i] := by have := congrArg Prod.fst hyx; simpa using this
    have hx : x = items2[i] := by have := congrArg Prod.snd hyx; simpa using this
    subst hy hx
    refine wpAny_bind (wpAny_mono (turn i h1 h2 s' hI) (fun r s2 q2 => ?_) fun _ _ x => x)
    rcases q2 with ⟨hr, q2⟩ | ⟨hr, q2⟩
    · subst hr
      wp_walk
      exact ⟨rfl, i + 1, hrest, hm, q2⟩
    · subst hr
      have hR := fail s2 q2
      wp_walk
      first
        | exact ⟨_, rfl, by simpa using hR⟩
        | simpa using hR
        | exact hR
  case fin =>
    rintro ⟨b1, b2⟩ s' ⟨hb', i, hz, hi, hI⟩
    simp only at hb'
    subst hb'
    have hge : min items.size items2.size ≤ i := by
      rcases Nat.lt_or_ge i (items.toList.zip items2.toList).length with h' | h'
      · rw [List.drop_eq_getElem_cons h'] at hz; cases hz
      · exact hZ ▸ h'
    have hi' : i = min items.size items2.size := by omega
    have hR := fin s' (hi' ▸ hI)
    wp_walk
    first
      | exact ⟨_, rfl, by simpa [Builtin.Tuple.tupleCompareSizes, bne] using hR⟩
      | simpa [Builtin.Tuple.tupleCompareSizes, bne] using hR
  case h =>
    exact ⟨rfl, 0, rfl, Nat.zero_le _, h0⟩
theorem ne_loopB (l b : Addr) (N : Nat) (I : Nat → Shared → Prop) (Fl : Shared → Prop) (hl : LstB prog w A (fun e s' => R (.error e) s') l b N I Fl)
    (fin : ∀ s, I N s → R (.ok (.ret (.bool false))) s) (fail : ∀ s, Fl s → R (.ok (.ret (.bool true))) s) (k : Nat) :
    ∀ i : Nat, N - i = k → i ≤ N → ∀ s, I i s →
      wpAny (model prog w) A.in1 (Builtin.«list.__eq__.loop» ⟨[.ref l, .ref b, rawInt i, rawInt 3], []⟩) (GQ.FinOf prog w A R) (fun e s' => R (.error e) s') s := by
  induction k with
  | zero =>
    intro i hk hi s h
    obtain ⟨items, items2, hL1, hL2, hs1, hs2, _⟩ := hl.1 _ _ h
    obtain ⟨⟨cls, dd, data, sl⟩, hl1, hc, n, hd⟩ := hL1
    obtain ⟨⟨cls2, dd2, data2, sl2⟩, hb1, hc2, n2, hd2⟩ := hL2
    simp only at hc hd hc2 hd2
    subst hc hd hc2 hd2
    have hi' : i = N := by omega
    have hR : R (.ok (.ret (.bool false))) s := fin s (hi' ▸ h)
    obtain ⟨hp, g, d, tk, os⟩ := s
    wp_walk using wpAny_loadPart' hl1, wpAny_loadPart' hb1
    have hi1 : items[((i : Nat) : Int).toNat]? = none := by simp; omega
    have hi2 : items2[((i : Nat) : Int).toNat]? = none := by simp; omega
    rw [hi1, hi2]
    wp_walk using wpAny_loadPart' hl1, wpAny_loadPart' hb1
    show R (.ok (.ret (.bool (items.size != items2.size)))) _
    rw [hs1, hs2]
    simpa using hR
  | succ k ih =>
    intro i hk hi s h
    obtain ⟨items, items2, hL1, hL2, hs1, hs2, turn⟩ := hl.1 _ _ h
    obtain ⟨⟨cls, dd, data, sl⟩, hl1, hc, n, hd⟩ := hL1
    obtain ⟨⟨cls2, dd2, data2, sl2⟩, hb1, hc2, n2, hd2⟩ := hL2
    simp only at hc hd hc2 hd2
    subst hc hd hc2 hd2
    have hlt : i < items.size := by omega
    have hlt2 : i < items2.size := by omega
    have ht := turn hlt hlt2
    obtain ⟨hp, g, d, tk, os⟩ := s
    wp_walk using wpAny_loadPart' hl1, wpAny_loadPart' hb1
    have hi1 : items[((i : Nat) : Int).toNat]? = some items[i] := by simp [hlt]
    have hi2 : items2[((i : Nat) : Int).toNat]? = some items2[i] := by simp [hlt2]
    have hc : ((i : Int) + 1) = ((i + 1 : Nat) : Int) := by omega
    rw [hi1, hi2]
    refine wpAny_bind (wpAny_mono ht (fun r s2 h2 => ?_) fun _ _ x => x)
    rcases h2 with ⟨hr, h2⟩ | ⟨hr, h2⟩
    · subst hr
      have hrec := ih (i + 1) (by omega) (by omega) s2 h2
      obtain ⟨hp2, g2, d2, tk2, os2⟩ := s2
      wp_walk
      rw [hc]
      exact ⟨plainId_quiet plain_eq_loop _, codeAny_builtin entry_eq_loop (by
        rw [Around.under_plainId plain_eq_loop _]
        exact hrec)⟩
    · subst hr
      have hR := fail s2 h2
      obtain ⟨jtems, jtems2, gL1, gL2, gs1, gs2, _⟩ := hl.2 _ h2
      obtain ⟨⟨cls3, dd3, data3, sl3⟩, gl1, gc, m3, gd⟩ := gL1
      obtain ⟨⟨cls4, dd4, data4, sl4⟩, gb1, gc2, m4, gd2⟩ := gL2
      simp only at gc gd gc2 gd2
      subst gc gd gc2 gd2
      have glt : i < jtems.size := by omega
      have glt2 : i < jtems2.size := by omega
      have gi1 : jtems[((i : Nat) : Int).toNat]? = some jtems[i] := by simp [glt]
      have gi2 : jtems2[((i : Nat) : Int).toNat]? = some jtems2[i] := by simp [glt2]
      obtain ⟨hp2, g2, d2, tk2, os2⟩ := s2
      wp_walk using wpAny_loadPart' gl1, wpAny_loadPart' gb1
      rw [gi1, gi2]
      wp_walk
      simpa using hR
theorem list_neB (l b : Addr) (N : Nat) (I : Nat → Shared → Prop) (Fl : Shared → Prop) (hl : LstB prog w A (fun e s' => R (.error e) s') l b N I Fl)
    (fin : ∀ s, I N s → R (.ok (.ret (.bool false))) s) (fail : ∀ s, Fl s → R (.ok (.ret (.bool true))) s) {s : Shared} (h : I 0 s) :
    wpAny (model prog w) A.in1 (Builtin.«list.__ne__» ⟨[.ref l, .ref b], []⟩) (GQ.FinOf prog w A R) (fun e s' => R (.error e) s') s := by
  obtain ⟨items, items2, hL1, hL2, hs1, hs2, _⟩ := hl.1 _ _ h
  obtain ⟨⟨cls, dd, data, sl⟩, hl1, hc, n, hd⟩ := hL1
  obtain ⟨⟨cls2, dd2, data2, sl2⟩, hb1, hc2, n2, hd2⟩ := hL2
  simp only at hc hd hc2 hd2
  subst hc hd hc2 hd2
  have hrec := ne_loopB (A := A) (R := R) l b N I Fl hl fin fail _ 0 rfl (Nat.zero_le _) s h
  obtain ⟨hp, g, d, tk, os⟩ := s
  have f3 := AutoSeq1.sub_list_list
  have hne : ¬ (items.size != items2.size) = true := by simp [hs1, hs2]
  wp_walk using wpAny_loadPart' hl1, wpAny_loadPart' hb1
  exact ⟨plainId_quiet plain_eq_loop _, codeAny_builtin entry_eq_loop (by
    rw [Around.under_plainId plain_eq_loop _]
    exact hrec)⟩
theorem tuple_neB (l b : Addr) (items items2 : Array Value) (n n2 : Nat) (dd dd2 : Option Addr) (sl sl2 : Array (Option Value)) (I : Nat → Shared → Prop) (Fl : Shared → Prop)
    (turn : ∀ i (h1 : i < items.size) (h2 : i < items2.size) s, I i s → wpAny (model prog w) A.in1 (eqBool items[i] items2[i]) (fun r s' => (r = true ∧ I (i + 1) s') ∨ (r = false ∧ Fl s')) (fun e s' => R (.error e) s') s)
    (fin : ∀ s, I (min items.size items2.size) s → R (.ok (.ret (.bool (items.size != items2.size)))) s) (fail : ∀ s, Fl s → R (.ok (.ret (.bool true))) s) {s : Shared}
    (hl1 : s.heap.get? l = some { cls := .type "tuple", dict := dd, data := .seq items n, slots := sl }) (hb1 : s.heap.get? b = some { cls := .type "tuple", dict := dd2, data := .seq items2 n2, slots := sl2 }) (h : I 0 s) :
    wpAny (model prog w) A.in1 (Builtin.«tuple.__ne__» ⟨[.ref l, .ref b], []⟩) (GQ.FinOf prog w A R) (fun e s' => R (.error e) s') s := by
  have f2 := AutoSeq1.sub_tuple_tuple
  have hZ : (items.toList.zip items2.toList).length = min items.size items2.size := by simp
  have h0 := h
  obtain ⟨hp, g, d, tk, os⟩ := s
  wp_walk using wpAny_loadPart' hl1, wpAny_loadPart' hb1, wpAny_forIn_list _ (fun rest b s' => b.1 = none ∧ ∃ i, rest = (items.toList.zip items2.toList).drop i ∧ i ≤ min items.size items2.size ∧ I i s') _
  case turn =>
    rintro ⟨y, x⟩ rest b s' ⟨hb', i, hz, hi, hI⟩
    have hlt : i < (items.toList.zip items2.toList).length := by
      rcases Nat.lt_or_ge i (items.toList.zip items2.toList).length with h' | h'
      · exact h'
      · rw [List.drop_of_length_le h'] at hz; cases hz
    have hm : i < min items.size items2.size := hZ ▸ hlt
    have h1 : i < items.size := Nat.lt_of_lt_of_le hm (Nat.min_le_left _ _)
    have h2 : i < items2.size := Nat.lt_of_lt_of_le hm (Nat.min_le_right _ _)
    rw [List.drop_eq_getElem_cons hlt] at hz
    injection hz with hyx hrest
    have hy : y = items[i] := by have := congrArg Prod.fst hyx; simpa using this
    have hx : x = items2[i] := by have := congrArg Prod.snd hyx; simpa using this
    subst hy hx
    refine wpAny_bind (wpAny_mono (turn i h1 h2 s' hI) (fun r s2 q2 => ?_) fun _ _ x => x)
    rcases q2 with ⟨hr, q2⟩ | ⟨hr, q2⟩
    · subst hr
      wp_walk
      exact ⟨rfl, i + 1, hrest, hm, q2⟩
    · subst hr
      have hR := fail s2 q2
      wp_walk
      first
        | exact ⟨_, rfl, by simpa using hR⟩
        | simpa using hR
        | exact hR
  case fin =>
    rintro ⟨b1, b2⟩ s' ⟨hb', i, hz, hi, hI⟩
    simp only at hb'
    subst hb'
    have hge : min items.size items2.size ≤ i := by
      rcases Nat.lt_or_ge i (items.toList.zip items2.toList).length with h' | h'
      · rw [List.drop_eq_getElem_cons h'] at hz; cases hz
      · exact hZ ▸ h'
    have hi' : i = min items.size items2.size := by omega
    have hR := fin s' (hi' ▸ hI)
    wp_walk
    first
      | exact ⟨_, rfl, by simpa [Builtin.Tuple.tupleCompareSizes, bne] using hR⟩
      | simpa [Builtin.Tuple.tupleCompareSizes, bne] using hR
  case h =>
    exact ⟨rfl, 0, rfl, Nat.zero_le _, h0⟩
end
end Z
namespace Z
open PySem PySem.Spec PyProof.Rows L2
open PySem.SeqAt
/-! ### == and != by a relation that tells the answer too -/
abbrev Eqb := V → V → Bool → Hp → Prop
def MonB (D : Eqb) : Prop := ∀ x y b H H', Same H H' → D x y b H → D x y b H'
/-- eqBool answers b -/
def EqGB (X : Cx) (n : Nat) (D : Eqb) : Prop :=
  ∀ (A : Around) (pins : List (Addr × Obj)) (s : Shared) (σ : St) (H : Hp) (x y : V) (b : Bool) (u v : Value), Sub X n A → Inv X pins σ H s → RelV x u → RelV y v → D x y b H →
    wpAny (model X.prog X.w) A (eqBool u v) (fun r s' => r = b ∧ ∃ H', Inv X pins σ H' s' ∧ Same H H') X.xe s
/-- the rich comparison (neg: !=) answers it -/
def RcGB (X : Cx) (n : Nat) (neg : Bool) (D : Eqb) : Prop :=
  ∀ (A : Around) (pins : List (Addr × Obj)) (s : Shared) (σ : St) (H : Hp) (x y : V) (b : Bool) (u v : Value), Sub X n A → Inv X pins σ H s → RelV x u → RelV y v → D x y b H →
    wpAny (model X.prog X.w) A (richCompare (if neg then .NotEq else .Eq) u v) (fun r s' => r = .bool (b != neg) ∧ ∃ H', Inv X pins σ H' s' ∧ Same H H') X.xe s
section
variable {X : Cx} {n m : Nat} {D D' : Eqb} {neg : Bool}
theorem EqGB.mono (h : EqGB X n D) (hn : n ≤ m) : EqGB X m D := fun A pins s σ H x y b u v sb => h A pins s σ H x y b u v (sb.mono hn)
theorem RcGB.mono (h : RcGB X n neg D) (hn : n ≤ m) : RcGB X m neg D := fun A pins s σ H x y b u v sb => h A pins s σ H x y b u v (sb.mono hn)
def Eqb.or (D D' : Eqb) : Eqb := fun x y b H => D x y b H ∨ D' x y b H
theorem EqGB.or (h : EqGB X n D) (h' : EqGB X n D') : EqGB X n (D.or D') := fun A pins s σ H x y b u v sb I rx ry d => d.elim (h A pins s σ H x y b u v sb I rx ry) (h' A pins s σ H x y b u v sb I rx ry)
theorem RcGB.or (h : RcGB X n neg D) (h' : RcGB X n neg D') : RcGB X n neg (D.or D') := fun A pins s σ H x y b u v sb I rx ry d => d.elim (h A pins s σ H x y b u v sb I rx ry) (h' A pins s σ H x y b u v sb I rx ry)
theorem MonB.or (h : MonB D) (h' : MonB D') : MonB (D.or D') := fun x y b H H' e d => d.elim (fun d => .inl (h x y b H H' e d)) fun d => .inr (h' x y b H H' e d)
/-- what needs no program: the same object, equal scalars, unlike scalars -/
def DFl : Eqb := fun x y b _ => (SmV x ∧ y = x ∧ b = true) ∨ (flatV x = true ∧ flatV y = true ∧ eqV x y = b)
theorem mon_fl : MonB DFl := fun _ _ _ _ _ _ d => d
theorem eqb_fl : EqGB X 0 DFl := by
  intro A pins s σ H x y b u v sb I rx ry d
  rcases d with ⟨h1, rfl, rfl⟩ | ⟨fx, fy, e⟩
  · exact smV_eq h1 rx ry X.prog X.w X.xe _ ⟨rfl, H, I, Same.refl H⟩
  · have q := eqAt_V (A := A) (s := s) rx ry fx fy
    rw [e] at q
    exact q X.prog X.w X.xe _ ⟨rfl, H, I, Same.refl H⟩
/-- item by item, up to the first that is unlike -/
inductive PrsB (D : Eqb) (H : Hp) : List V → List V → Bool → Prop
  | nil : PrsB D H [] [] true
  | lt {y : V} {ys : List V} : PrsB D H [] (y :: ys) false
  | gt {x : V} {xs : List V} : PrsB D H (x :: xs) [] false
  | no {x y : V} {xs ys : List V} : D x y false H → PrsB D H (x :: xs) (y :: ys) false
  | yes {x y : V} {xs ys : List V} {b : Bool} : D x y true H → PrsB D H xs ys b → PrsB D H (x :: xs) (y :: ys) b
theorem PrsB.mon (hD : MonB D) {xs ys : List V} {b : Bool} {H H' : Hp} (e : Same H H') (p : PrsB D H xs ys b) : PrsB D H' xs ys b := by
  induction p with
  | nil => exact .nil
  | lt => exact .lt
  | gt => exact .gt
  | no d => exact .no (hD _ _ _ _ _ e d)
  | yes d _ ih => exact .yes (hD _ _ _ _ _ e d) ih
/-- all items the same -/
theorem PrsB.same {H : Hp} (hD : ∀ v, SmV v → D v v true H) : ∀ (xs : List V), (∀ v ∈ xs, SmV v) → PrsB D H xs xs true
  | [], _ => .nil
  | x :: r, h => .yes (hD x (h x List.mem_cons_self)) (PrsB.same hD r fun v hv => h v (List.mem_cons_of_mem _ hv))
def LoopB (X : Cx) (pins : List (Addr × Obj)) (σ : St) (H : Hp) (D : Eqb) (xs ys : List V) (b : Bool) (i : Nat) (s' : Shared) : Prop := ∃ H', Inv X pins σ H' s' ∧ Same H H' ∧ PrsB D H' (xs.drop i) (ys.drop i) b
def FailB (X : Cx) (pins : List (Addr × Obj)) (σ : St) (H : Hp) (b : Bool) (s' : Shared) : Prop := b = false ∧ ∃ H', Inv X pins σ H' s' ∧ Same H H'
theorem turnB (hD : MonB D) (h : EqGB X n D) {A : Around} (sb : Sub X (n + 1) A) {pins : List (Addr × Obj)} {σ : St} {H : Hp} {xs ys : List V} {b : Bool} {its its2 : List Value} (r : Vals xs its) (r2 : Vals ys its2)
    (i : Nat) (h1 : i < its.toArray.size) (h2 : i < its2.toArray.size) (s' : Shared) (l : LoopB X pins σ H D xs ys b i s') :
    wpAny (model X.prog X.w) A.in1 (eqBool its.toArray[i] its2.toArray[i]) (fun r s2 => (r = true ∧ LoopB X pins σ H D xs ys b (i + 1) s2) ∨ (r = false ∧ FailB X pins σ H b s2)) X.xe s' := by
  obtain ⟨H1, I1, e1, p⟩ := l
  have g1 : its[i]? = some its.toArray[i] := by
    have h1' : i < its.length := by simpa using h1
    rw [List.getElem?_eq_getElem h1'] <;> simp
  have g2 : its2[i]? = some its2.toArray[i] := by
    have h2' : i < its2.length := by simpa using h2
    rw [List.getElem?_eq_getElem h2'] <;> simp
  have k1 : i < xs.length := by rw [r.length]; simpa using h1
  have k2 : i < ys.length := by rw [r2.length]; simpa using h2
  obtain ⟨u, hu, ru⟩ := r.get (List.getElem?_eq_getElem k1)
  obtain ⟨v, hv, rv⟩ := r2.get (List.getElem?_eq_getElem k2)
  rw [g1] at hu
  rw [g2] at hv
  rw [Option.some.inj hu, Option.some.inj hv]
  rw [List.drop_eq_getElem_cons k1, List.drop_eq_getElem_cons k2] at p
  cases p with
  | no d =>
    refine wpAny_mono (h A.in1 pins s' σ H1 _ _ _ u v sb.in1 I1 ru rv d) (fun r s2 q => ?_) fun _ _ x => x
    obtain ⟨hr, H2, I2, e2⟩ := q
    exact .inr ⟨hr, rfl, H2, I2, e1.trans e2⟩
  | yes d p =>
    refine wpAny_mono (h A.in1 pins s' σ H1 _ _ _ u v sb.in1 I1 ru rv d) (fun r s2 q => ?_) fun _ _ x => x
    obtain ⟨hr, H2, I2, e2⟩ := q
    exact .inl ⟨hr, H2, I2, e1.trans e2, p.mon hD e2⟩
theorem PrsB.end_ {H : Hp} {xs ys : List V} {b : Bool} (p : PrsB D H xs ys b) (h : xs = [] ∨ ys = []) : b = (xs.length == ys.length) := by
  rcases h with rfl | rfl
  · cases p <;> simp
  · cases p <;> simp
def DTupB (K : PySem.W.Frag) (D : Eqb) : Eqb := fun x y b H => ∃ a c xs ys, x = .ref a ∧ y = .ref c ∧ SqT K H a xs ∧ SqT K H c ys ∧ PrsB D H xs ys b
def DLstB (K : PySem.W.Frag) (D : Eqb) : Eqb := fun x y b H => ∃ a c xs ys, x = .ref a ∧ y = .ref c ∧ SqL K H a xs ∧ SqL K H c ys ∧ ((xs.length = ys.length ∧ PrsB D H xs ys b) ∨ (xs.length ≠ ys.length ∧ b = false))
theorem mon_tupB {K : PySem.W.Frag} (hD : MonB D) : MonB (DTupB K D) := fun x y b H H' e d => by
  obtain ⟨a, c, xs, ys, hx, hy, h1, h2, p⟩ := d
  exact ⟨a, c, xs, ys, hx, hy, L2.SqT.ext h1 e, L2.SqT.ext h2 e, p.mon hD e⟩
theorem mon_lstB {K : PySem.W.Frag} (hD : MonB D) : MonB (DLstB K D) := fun x y b H H' e d => by
  obtain ⟨a, c, xs, ys, hx, hy, h1, h2, p⟩ := d
  exact ⟨a, c, xs, ys, hx, hy, L2.SqL.ext h1 e, L2.SqL.ext h2 e, p.imp (fun p => ⟨p.1, p.2.mon hD e⟩) id⟩
theorem rcb_tup (hD : MonB D) (h : EqGB X n D) : RcGB X (n + 1) neg (DTupB X.K D) := by
  intro A pins s σ H x y b u v sb I rx ry d
  obtain ⟨a, c, xs, ys, rfl, rfl, ha, hb, p⟩ := d
  cases rx
  cases ry
  obtain ⟨its, r, e, _⟩ := I.tuple ha
  obtain ⟨its2, r2, e2, _⟩ := I.tuple hb
  have z1 : its.toArray.size = xs.length := by rw [List.size_toArray, ← r.length]
  have z2 : its2.toArray.size = ys.length := by rw [List.size_toArray, ← r2.length]
  obtain ⟨⟨cls, dd, data, sl⟩, ho, hc, n1, hd⟩ := id e
  obtain ⟨⟨cls2, dd2, data2, sl2⟩, ho2, hc2, n2, hd2⟩ := id e2
  simp only at hc hd hc2 hd2
  subst hc hd hc2 hd2
  have fin : ∀ s', LoopB X pins σ H D xs ys b (min its.toArray.size its2.toArray.size) s' → b = (xs.length == ys.length) ∧ ∃ H', Inv X pins σ H' s' ∧ Same H H' := by
    rintro s' ⟨H1, I1, e1, p1⟩
    refine ⟨?_, H1, I1, e1⟩
    rw [z1, z2] at p1
    have := p1.end_ (by
      rcases Nat.le_total xs.length ys.length with l | l
      · exact .inl (List.drop_of_length_le (by omega))
      · exact .inr (List.drop_of_length_le (by omega)))
    rw [this, List.length_drop, List.length_drop]
    rw [Bool.eq_iff_iff]
    simp only [beq_iff_eq]
    omega
  have st : LoopB X pins σ H D xs ys b 0 s := ⟨H, I, Same.refl H, p⟩
  cases neg with
  | false =>
    refine wpAny_richCompare_same_room (op := .Eq) ⟨_, ho, rfl⟩ ⟨_, ho2, rfl⟩ F.slot_tuple_eq (GQ.call_here F.slot_tuple_eq ⟨_, ho, rfl⟩ F.entry_tuple_eq (F.args_tuple_eq_2 _ _) ?_) sb.room.units0
    refine tuple_eqB (R := wants _ _) a c _ _ n1 n2 dd dd2 sl sl2 (fun i s' => LoopB X pins σ H D xs ys b i s') (fun s' => FailB X pins σ H b s') (fun i h1 h2 s' l => turnB hD h sb r r2 i h1 h2 s' l) (fun s' q => ?_) (fun s' q => ?_) ho ho2 st
    · obtain ⟨q1, q2⟩ := fin s' q
      refine ⟨(fun x => nomatch x), ?_, q2⟩
      rw [z1, z2, q1]
      simp
    · exact ⟨(fun x => nomatch x), by rw [q.1]; rfl, q.2⟩
  | true =>
    refine wpAny_richCompare_same_room (op := .NotEq) ⟨_, ho, rfl⟩ ⟨_, ho2, rfl⟩ F.slot_tuple_ne (GQ.call_here F.slot_tuple_ne ⟨_, ho, rfl⟩ F.entry_tuple_ne (F.args_tuple_ne_2 _ _) ?_) sb.room.units0
    refine tuple_neB (R := wants _ _) a c _ _ n1 n2 dd dd2 sl sl2 (fun i s' => LoopB X pins σ H D xs ys b i s') (fun s' => FailB X pins σ H b s') (fun i h1 h2 s' l => turnB hD h sb r r2 i h1 h2 s' l) (fun s' q => ?_) (fun s' q => ?_) ho ho2 st
    · obtain ⟨q1, q2⟩ := fin s' q
      refine ⟨(fun x => nomatch x), ?_, q2⟩
      rw [z1, z2, q1]
      simp [bne]
    · exact ⟨(fun x => nomatch x), by rw [q.1]; rfl, q.2⟩
theorem lst_at {pins : List (Addr × Obj)} {σ : St} {H : Hp} {s : Shared} {a c : Addr} {xs ys : List V} (I : Inv X pins σ H s) (ha : SqL X.K H a xs) (hb : SqL X.K H c ys) :
    ∃ its its2, Vals xs its ∧ Vals ys its2 ∧ s.heap.IsList a its.toArray ∧ s.heap.IsList c its2.toArray := by
  obtain ⟨its, r, e, _⟩ := I.list ha
  obtain ⟨its2, r2, e2, _⟩ := I.list hb
  exact ⟨its, its2, r, r2, e.isList, e2.isList⟩
theorem rcb_lst (hD : MonB D) (h : EqGB X n D) : RcGB X (n + 1) neg (DLstB X.K D) := by
  intro A pins s σ H x y b u v sb I rx ry d
  obtain ⟨a, c, xs, ys, rfl, rfl, ha, hb, p⟩ := d
  cases rx
  cases ry
  obtain ⟨its, its2, r, r2, e, e2⟩ := lst_at I ha hb
  have z1 : its.toArray.size = xs.length := by rw [List.size_toArray, ← r.length]
  have z2 : its2.toArray.size = ys.length := by rw [List.size_toArray, ← r2.length]
  rcases p with ⟨hl, p⟩ | ⟨hl, rfl⟩
  · have look : ∀ s' H1, Inv X pins σ H1 s' → Same H H1 → LstAt a c xs.length s' fun it it2 => ∃ its its2, it = its.toArray ∧ it2 = its2.toArray ∧ Vals xs its ∧ Vals ys its2 := fun s' H1 I1 e1 => by
      obtain ⟨jts, jts2, q, q2, f, f2⟩ := lst_at I1 (L2.SqL.ext ha e1) (L2.SqL.ext hb e1)
      exact ⟨_, _, f, f2, by rw [List.size_toArray, ← q.length], by rw [List.size_toArray, ← q2.length, hl], jts, jts2, rfl, rfl, q, q2⟩
    have lb : ∀ (E : Value → Shared → Prop), (∀ e s', X.xe e s' → E e s') → LstB X.prog X.w A E a c xs.length (fun i s' => LoopB X pins σ H D xs ys b i s') (fun s' => FailB X pins σ H b s') := fun E hE => by
      refine ⟨fun i s' q => ?_, fun s' q => ?_⟩
      · obtain ⟨H1, I1, e1, p1⟩ := id q
        obtain ⟨it, it2, f, f2, g1, g2, jts, jts2, rfl, rfl, q1, q2⟩ := look s' H1 I1 e1
        exact ⟨_, _, f, f2, g1, g2, fun h1 h2 => wpAny_mono (turnB hD h sb q1 q2 i h1 h2 s' q) (fun _ _ x => x) fun e s' x => hE e s' x⟩
      · obtain ⟨q1, H1, I1, e1⟩ := q
        obtain ⟨it, it2, f, f2, g1, g2, _⟩ := look s' H1 I1 e1
        exact ⟨_, _, f, f2, g1, g2, trivial⟩
    have fin : ∀ s', LoopB X pins σ H D xs ys b xs.length s' → b = true ∧ ∃ H', Inv X pins σ H' s' ∧ Same H H' := by
      rintro s' ⟨H1, I1, e1, p1⟩
      refine ⟨?_, H1, I1, e1⟩
      rw [List.drop_length] at p1
      have e9 : ys.drop xs.length = [] := List.drop_of_length_le (by omega)
      rw [e9] at p1
      have := p1.end_ (.inl rfl)
      simpa using this
    have st : LoopB X pins σ H D xs ys b 0 s := ⟨H, I, Same.refl H, p⟩
    obtain ⟨⟨cls, dd, data, sl⟩, ho, hc, n1, hd⟩ := id e
    obtain ⟨⟨cls2, dd2, data2, sl2⟩, ho2, hc2, n2, hd2⟩ := id e2
    simp only at hc hd hc2 hd2
    subst hc hd hc2 hd2
    cases neg with
    | false =>
      refine wpAny_richCompare_same_room (op := .Eq) ⟨_, ho, rfl⟩ ⟨_, ho2, rfl⟩ F.slot_list_eq (GQ.call_here F.slot_list_eq ⟨_, ho, rfl⟩ F.entry_list_eq (F.args_list_eq_2 _ _) ?_) sb.room.units0
      refine list_eqB (R := wants _ _) a c _ (fun i s' => LoopB X pins σ H D xs ys b i s') (fun s' => FailB X pins σ H b s') (lb _ fun _ _ x => x) (fun s' q => ?_) (fun s' q => ?_) st
      · obtain ⟨q1, q2⟩ := fin s' q
        exact ⟨(fun x => nomatch x), by rw [q1]; rfl, q2⟩
      · exact ⟨(fun x => nomatch x), by rw [q.1]; rfl, q.2⟩
    | true =>
      refine wpAny_richCompare_same_room (op := .NotEq) ⟨_, ho, rfl⟩ ⟨_, ho2, rfl⟩ F.slot_list_ne (GQ.call_here F.slot_list_ne ⟨_, ho, rfl⟩ F.entry_list_ne (F.args_list_ne_2 _ _) ?_) sb.room.units0
      refine list_neB (R := wants _ _) a c _ (fun i s' => LoopB X pins σ H D xs ys b i s') (fun s' => FailB X pins σ H b s') (lb _ fun _ _ x => x) (fun s' q => ?_) (fun s' q => ?_) st
      · obtain ⟨q1, q2⟩ := fin s' q
        exact ⟨(fun x => nomatch x), by rw [q1]; rfl, q2⟩
      · exact ⟨(fun x => nomatch x), by rw [q.1]; rfl, q.2⟩
  · have hz : (its.toArray.size != its2.toArray.size) = true := by
      rw [z1, z2]
      simpa using hl
    cases neg with
    | false => exact RcAt.lists_lengths e e2 hz sb.room.units0 X.prog X.w X.xe _ ⟨rfl, H, I, Same.refl H⟩
    | true => exact RcNeAt.lists_lengths e e2 hz sb.room.units0 X.prog X.w X.xe _ ⟨rfl, H, I, Same.refl H⟩
/-- inside a list or tuple: the same object is equal to itself -/
theorem RcGB.eqb (h : RcGB X n false D) (hr : ∀ x y b H, D x y b H → ∃ a c, x = .ref a ∧ y = .ref c ∧ (a = c → b = true)) : EqGB X n D := by
  intro A pins s σ H x y b u v sb I rx ry d
  obtain ⟨a, c, rfl, rfl, hb⟩ := hr _ _ _ _ d
  cases rx
  cases ry
  by_cases hab : a = c
  · obtain rfl := hb hab
    subst hab
    exact SeqAt.EqAt.same (A := A) (s := s) (.ref a) X.prog X.w X.xe _ ⟨rfl, H, I, Same.refl H⟩
  · refine GQ.eqBool_refG hab (wpAny_mono (h A pins s σ H (.ref a) (.ref c) b _ _ sb I rfl rfl d) (fun r s' q => ?_) fun _ _ x => x)
    obtain ⟨hr', q⟩ := q
    exact ⟨b, by rw [hr']; simp, rfl, q⟩
/-- different objects, so that no item of theirs is asked whether it is the same -/
def DNe (D : Eqb) : Eqb := fun x y b H => D x y b H ∧ ∃ a c, x = .ref a ∧ y = .ref c ∧ (a = c → b = true)
theorem mon_ne (hD : MonB D) : MonB (DNe D) := fun x y b H H' e d => ⟨hD _ _ _ _ _ e d.1, d.2⟩
theorem eqb_ne (h : RcGB X n false D) : EqGB X n (DNe D) := RcGB.eqb (fun A pins s σ H x y b u v sb I rx ry d => h A pins s σ H x y b u v sb I rx ry d.1) fun x y b H d => d.2
/-! ### instances with an own == -/
def DInB (K : PySem.W.Frag) (C : Addr) (sp : Sp) : Eqb := fun x y b H => ∃ a c C2 dx dy fs gs, x = .ref a ∧ y = .ref c ∧ H a = some (.ins C dx fs) ∧ H c = some (.ins C2 dy gs) ∧ PySem.W.notFirst K C (.ref C2) = true ∧
  ∀ H', Same H H' → sp [x, y] H' (fun v H2 => v = .bl b ∧ Same H' H2) (fun _ _ _ => False)
theorem mon_in {K : PySem.W.Frag} {C : Addr} {sp : Sp} : MonB (DInB K C sp) := fun x y b H H' e d => by
  obtain ⟨a, c, C2, dx, dy, fs, gs, hx, hy, h1, h2, h3, h4⟩ := d
  exact ⟨a, c, C2, dx, dy, fs, gs, hx, hy, e _ _ h1, e _ _ h2, h3, fun H2 e2 => h4 H2 (e.trans e2)⟩
/-- the own def run inside a builtin -/
theorem run_in {gd : Bool} {f : Addr} {fd : FuncData} {ps : List Str} {sp : Sp} {A : Around} {pins : List (Addr × Obj)} {s : Shared} {σ : St} {H : Hp} {xs : List V} {us : List Value} {b : Bool} (F : FnG gd X.prog X.w X.K X.mg X.base n f fd ps sp) (hgu : gd = true → A.guards = some [])
    (hb : Binds X.K fd ps []) (sb : Sub X n A) (I : Inv X pins σ H s) (r : Vals xs us) (h : sp xs H (fun v H2 => v = .bl b ∧ Same H H2) (fun _ _ _ => False)) :
    wpAny (model X.prog X.w) A (PySem.call (.ref f) us) (fun r s' => r = .bool b ∧ ∃ H', Inv X pins σ H' s' ∧ Same H H') X.xe s := by
  have e := I.env0
  have e0 : Env0 X.prog X.w X.K X.mg X.base A X.stack s H := ⟨by rw [sb.fr]; exact e.frames, e.mod, e.bs, e.bsz, e.funs, e.frf, e.hok, e.bare⟩
  have hl := F.len _ _ _ _ h
  refine wpAny_call (codeAny_mono (F.run A X.stack s H ⟨us, []⟩ us xs _ _ sb.room hgu e0 (by
    have := hb s us I.kIn (by rw [List.append_nil, ← r.length]; exact hl)
    simpa using this) r h) fun r s' hq => ?_)
  cases r with
  | error e =>
    obtain ⟨_, _, _, _, _, _, _, _, _, _, _, _, q⟩ := hq
    exact q.elim
  | ok fl =>
    cases fl with
    | ret w =>
      obtain ⟨z, H', I', rz, ez, ex⟩ := I.after hq
      subst ez
      cases rz
      exact ⟨rfl, H', I', ex⟩
    | next => exact False.elim hq
    | brk => exact False.elim hq
    | cont => exact False.elim hq
theorem rcb_in {gd : Bool} {f C : Addr} {fd : FuncData} {ps : List Str} {sp : Sp} (F : FnG gd X.prog X.w X.K X.mg X.base n f fd ps sp) (hgd : gd = false) (hs : PySem.W.findIn X.K (.ref C) "__eq__" = some (some (.ref f))) (hf : PySem.W.isFn X.K (.ref f) = true)
    (hb : Binds X.K fd ps []) : RcGB X n false (DInB X.K C sp) := by
  intro A pins s σ H x y b u v sb I rx ry d
  obtain ⟨a, c, C2, dx, dy, fs, gs, rfl, rfl, ha, hc, hn, h⟩ := d
  cases rx
  cases ry
  obtain ⟨mA, J, _⟩ := ins_get I.hok ha
  obtain ⟨mB, J', _⟩ := ins_get I.hok hc
  obtain ⟨od, J, _⟩ := J.look
  obtain ⟨od', J', _⟩ := J'.look
  obtain ⟨m, hF⟩ := I.fr
  refine PySem.W.cmp_K (op := .Eq) (tb := .ref C2) sb.room.units0 hF I.ok.mod.kin J J'.type hn hs hf ?_
  refine wpAny_mono (run_in (b := b) F (fun z => by rw [hgd] at z; cases z) hb sb I (xs := [V.ref a, V.ref c]) (.cons rfl (.cons rfl .nil)) (h H (Same.refl H))) (fun r s' q => ?_) fun _ _ x => x
  obtain ⟨rfl, q⟩ := q
  exact ⟨by simp, q⟩
/-! ### the operators -/
def rEqB (D : Eqb) (neg : Bool) : R2 := fun x y H Q => ∃ b, D x y b H ∧ ∀ H', Same H H' → Q (.bl (b != neg)) H'
theorem op_eqB (h : RcGB X n false D) (hr : Room n X.A) : OpR X (compareOp .Eq) (rEqB D false) := by
  intro pins s σ H x y v u Q I rx ry hq
  obtain ⟨b, d, q⟩ := hq
  show wpAny (model X.prog X.w) X.A (richCompare .Eq v u) (EP X pins σ Q) X.xe s
  refine wpAny_mono (h X.A pins s σ H x y b v u ⟨hr, rfl⟩ I rx ry d) (fun r s' z => ?_) fun _ _ x => x
  obtain ⟨rfl, H', I', e⟩ := z
  exact ⟨.bl (b != false), H', I', rfl, q H' e⟩
theorem op_neB (h : RcGB X n true D) (hr : Room n X.A) : OpR X (compareOp .NotEq) (rEqB D true) := by
  intro pins s σ H x y v u Q I rx ry hq
  obtain ⟨b, d, q⟩ := hq
  show wpAny (model X.prog X.w) X.A (richCompare .NotEq v u) (EP X pins σ Q) X.xe s
  refine wpAny_mono (h X.A pins s σ H x y b v u ⟨hr, rfl⟩ I rx ry d) (fun r s' z => ?_) fun _ _ x => x
  obtain ⟨rfl, H', I', e⟩ := z
  exact ⟨.bl (b != true), H', I', rfl, q H' e⟩
/-- lists and tuples of what is alike, two deep -/
def DAl (K : PySem.W.Frag) : Eqb := (DLstB K (DFl.or (DNe (DTupB K DFl)))).or (DTupB K DFl)
theorem rcb_al : RcGB X 2 neg (DAl X.K) := (rcb_lst (mon_fl.or (mon_ne (mon_tupB mon_fl))) ((eqb_fl.mono (by decide)).or (eqb_ne (rcb_tup mon_fl eqb_fl)))).or ((rcb_tup mon_fl eqb_fl).mono (by decide))
end
end Z
namespace Z
open PySem PySem.Spec PyProof.Rows L2
section
variable {X : Cx} {tg : Expr}
/-! ### a list or a tuple, walked -/
def iSeq (K : PySem.W.Frag) (tl : TE) : TI := fun σ H R => tl σ H fun x H1 => ∃ a, x = .ref a ∧ (((∃ xs, SqL K H1 a xs) ∧ R (Itl K a) H1) ∨ ((∃ xs, SqT K H1 a xs) ∧ R (Itt K a) H1))
theorem pi_seq {l : Expr} {tl : TE} (hl : PE X l tl) : PI X tg l (iSeq X.K tl) := by
  refine ⟨fun pins s σ H R I h => ?_⟩
  refine thn (hl.run pins s σ H _ I h) fun v s1 ⟨x, H1, I1, r1, q1⟩ => ?_
  obtain ⟨a, e, q1⟩ := q1
  subst e
  cases r1
  have fr : ∀ b ∈ [s1.heap.objs.size], _ := fun b hb => by
    have e : b = s1.heap.objs.size := by simpa using hb
    subst e
    exact I1.fpOk (Nat.le_refl _) (I1.hok.fresh (Nat.le_refl _))
  rcases q1 with ⟨⟨xs, hq⟩, q⟩ | ⟨⟨xs, hq⟩, q⟩
  · obtain ⟨its, rv, p, hz⟩ := I1.list hq
    refine wpAny_pyIter_list p.isList ?_
    exact ⟨s1.heap.objs.size, [s1.heap.objs.size], _, _, H1, rfl, I1.kept (t' := s1.toks) fun b o e => Heap.get?_push_of_some _ e, turn_list a _, ⟨_, Heap.get?_push_size _ rfl, rfl, rfl⟩, fr, q⟩
  · obtain ⟨its, rv, p, hz⟩ := I1.tuple hq
    refine wpAny_pyIter_tuple (show s1.heap.IsTuple a its.toArray from p) ?_
    exact ⟨s1.heap.objs.size, [s1.heap.objs.size], _, _, H1, rfl, I1.kept (t' := s1.toks) fun b o e => Heap.get?_push_of_some _ e, turn_tuple a _, ⟨_, Heap.get?_push_size _ rfl, rfl, rfl⟩, fr, q⟩
end
end Z
namespace Z
open PySem PySem.Spec PyProof.Rows L2
def top (i : Nat) : Stmt := PySem.Challenge.pw_falsedefaults_k05_handlers_refused.main.body.getD i (.Pass ⟨0, 0, 0, 0⟩)
abbrev s_BadName_init : Stmt := inClass (top 1) 0
abbrev s_BadValue_init : Stmt := inClass (top 2) 0
abbrev s_BadTest_init : Stmt := inClass (top 3) 0
abbrev s_BadStep_init : Stmt := inClass (top 4) 0
abbrev s_Twice_init : Stmt := inClass (top 5) 0
abbrev s_TooMany_init : Stmt := inClass (top 6) 0
abbrev s_is_name : Stmt := top 12
abbrev s_is_int : Stmt := top 13
abbrev s_check_name : Stmt := top 14
abbrev s_check_operand : Stmt := top 15
abbrev s_Step_inner : Stmt := inClass (top 17) 2
abbrev s_Let_init : Stmt := inClass (top 19) 1
abbrev s_Has_init : Stmt := inClass (top 24) 0
abbrev s_Block_init : Stmt := inClass (top 27) 0
abbrev s_Block_inner : Stmt := inClass (top 27) 2
abbrev s_When_init : Stmt := inClass (top 28) 1
abbrev s_When_made : Stmt := inClass (top 28) 2
abbrev s_Attempt_made : Stmt := inClass (top 29) 1
abbrev s_many_of : Stmt := top 32
abbrev s_check_unlike : Stmt := top 35
abbrev s_depth_of : Stmt := top 36
abbrev s_Handler_init : Stmt := inClass (top 37) 2
abbrev s_Handler_made : Stmt := inClass (top 37) 3
abbrev s_law_deck : Stmt := top 39
abbrev s_law_draw : Stmt := top 40
abbrev s_law_of : Stmt := top 41
abbrev s_law_names : Stmt := top 43
abbrev s_law_nest : Stmt := top 44
abbrev s_law_inside : Stmt := top 45
abbrev s_law_steps : Stmt := top 46
abbrev s_law_marks : Stmt := top 47
abbrev s_law_is_name : Stmt := top 48
abbrev s_law_due : Stmt := top 49
abbrev s_law_told : Stmt := top 50
abbrev s_law : Stmt := top 51
structure Ads where
  f_BadName_init : Addr
  d_BadName_init : FuncData
  f_BadValue_init : Addr
  d_BadValue_init : FuncData
  f_BadTest_init : Addr
  d_BadTest_init : FuncData
  f_BadStep_init : Addr
  d_BadStep_init : FuncData
  f_Twice_init : Addr
  d_Twice_init : FuncData
  f_TooMany_init : Addr
  d_TooMany_init : FuncData
  f_is_name : Addr
  d_is_name : FuncData
  f_is_int : Addr
  d_is_int : FuncData
  f_check_name : Addr
  d_check_name : FuncData
  f_check_operand : Addr
  d_check_operand : FuncData
  f_Step_inner : Addr
  d_Step_inner : FuncData
  f_Let_init : Addr
  d_Let_init : FuncData
  f_Has_init : Addr
  d_Has_init : FuncData
  f_Block_init : Addr
  d_Block_init : FuncData
  f_Block_inner : Addr
  d_Block_inner : FuncData
  f_When_init : Addr
  d_When_init : FuncData
  f_When_made : Addr
  d_When_made : FuncData
  f_Attempt_made : Addr
  d_Attempt_made : FuncData
  f_many_of : Addr
  d_many_of : FuncData
  f_check_unlike : Addr
  d_check_unlike : FuncData
  f_depth_of : Addr
  d_depth_of : FuncData
  f_Handler_init : Addr
  d_Handler_init : FuncData
  f_Handler_made : Addr
  d_Handler_made : FuncData
  f_law_deck : Addr
  d_law_deck : FuncData
  f_law_draw : Addr
  d_law_draw : FuncData
  f_law_of : Addr
  d_law_of : FuncData
  f_law_names : Addr
  d_law_names : FuncData
  f_law_nest : Addr
  d_law_nest : FuncData
  f_law_inside : Addr
  d_law_inside : FuncData
  f_law_steps : Addr
  d_law_steps : FuncData
  f_law_marks : Addr
  d_law_marks : FuncData
  f_law_is_name : Addr
  d_law_is_name : FuncData
  f_law_due : Addr
  d_law_due : FuncData
  f_law_told : Addr
  d_law_told : FuncData
  f_law : Addr
  d_law : FuncData
  c_BadName : Addr
  c_BadValue : Addr
  c_BadTest : Addr
  c_BadStep : Addr
  c_Twice : Addr
  c_TooMany : Addr
  c_Step : Addr
  c_Let : Addr
  c_Refuse : Addr
  c_Has : Addr
  c_Typed : Addr
  c_Holds : Addr
  c_Block : Addr
  c_When : Addr
  p_When_made : Addr
  c_Attempt : Addr
  p_Attempt_made : Addr
  c_Handler : Addr
  p_Handler_made : Addr
  t_Block_init_otherwise : Addr
  t_When_init_otherwise : Addr
  t_When_made_otherwise : Addr
  t_Attempt_made_otherwise : Addr
  t_Handler_init_params : Addr
  t_Handler_made_params : Addr
abbrev supFile : Str := (PySem.W.OpenLaw.prog PySem.Challenge.rw_falsedefaults_k05_handlers_refused).main.file
class SupP (P : Program) : Prop where
  file : P.main.file = supFile
  top : (P.main.scope.names.lookup ("super" : Str)).isSome = false
instance supCx {CX : CXT} {P : Program} [SupP P] {w : World} {K : PySem.W.Frag} {mg : Str → Option Value} {base : Heap} {N : List Str} {qual : Str} {scope : Scope} {f : Addr} {cd : Value} {A : Around} {outer : List Env} {s : Shared} {H : Hp} {E : XK} [h : SupP P] : SupP (cxOf CX P w K mg base N qual scope f cd A outer s H E).prog := h
instance supCx2 {P : Program} [SupP P] {w : World} {K : PySem.W.Frag} {mg : Str → Option Value} {base : Heap} {N : List Str} {qual : Str} {scope : Scope} {f cda cc : Addr} {A : Around} {outer : List Env} {s : Shared} {H : Hp} {E : XK} [h : SupP P] : SupP (cxS P w K mg base N qual scope f cda cc A outer s H E).prog := h
structure Txt (K : PySem.W.Frag) (mg : Str → Option Value) (g : Ads) : Prop where
  f_BadName_init : Fun K "__init__" "BadName.__init__" s_BadName_init g.f_BadName_init g.d_BadName_init
  e_BadName_init : Binds K g.d_BadName_init ["self", "name"] []
  f_BadValue_init : Fun K "__init__" "BadValue.__init__" s_BadValue_init g.f_BadValue_init g.d_BadValue_init
  e_BadValue_init : Binds K g.d_BadValue_init ["self", "value"] []
  f_BadTest_init : Fun K "__init__" "BadTest.__init__" s_BadTest_init g.f_BadTest_init g.d_BadTest_init
  e_BadTest_init : Binds K g.d_BadTest_init ["self", "test"] []
  f_BadStep_init : Fun K "__init__" "BadStep.__init__" s_BadStep_init g.f_BadStep_init g.d_BadStep_init
  e_BadStep_init : Binds K g.d_BadStep_init ["self", "index"] []
  f_Twice_init : Fun K "__init__" "Twice.__init__" s_Twice_init g.f_Twice_init g.d_Twice_init
  e_Twice_init : Binds K g.d_Twice_init ["self", "name"] []
  f_TooMany_init : Fun K "__init__" "TooMany.__init__" s_TooMany_init g.f_TooMany_init g.d_TooMany_init
  e_TooMany_init : Binds K g.d_TooMany_init ["self", "limit"] []
  f_is_name : Fun K "is_name" "is_name" s_is_name g.f_is_name g.d_is_name
  e_is_name : Binds K g.d_is_name ["thing"] []
  g_is_name : mg "is_name" = some (.ref g.f_is_name)
  k_is_name : PySem.W.keepIn K (.ref g.f_is_name) = true
  f_is_int : Fun K "is_int" "is_int" s_is_int g.f_is_int g.d_is_int
  e_is_int : Binds K g.d_is_int ["thing"] []
  g_is_int : mg "is_int" = some (.ref g.f_is_int)
  k_is_int : PySem.W.keepIn K (.ref g.f_is_int) = true
  f_check_name : Fun K "check_name" "check_name" s_check_name g.f_check_name g.d_check_name
  e_check_name : Binds K g.d_check_name ["thing"] []
  g_check_name : mg "check_name" = some (.ref g.f_check_name)
  k_check_name : PySem.W.keepIn K (.ref g.f_check_name) = true
  f_check_operand : Fun K "check_operand" "check_operand" s_check_operand g.f_check_operand g.d_check_operand
  e_check_operand : Binds K g.d_check_operand ["thing"] []
  g_check_operand : mg "check_operand" = some (.ref g.f_check_operand)
  k_check_operand : PySem.W.keepIn K (.ref g.f_check_operand) = true
  f_Step_inner : Fun K "inner" "Step.inner" s_Step_inner g.f_Step_inner g.d_Step_inner
  e_Step_inner : Binds K g.d_Step_inner ["self"] []
  f_Let_init : Fun K "__init__" "Let.__init__" s_Let_init g.f_Let_init g.d_Let_init
  e_Let_init : Binds K g.d_Let_init ["self", "into", "value"] []
  f_Has_init : Fun K "__init__" "Has.__init__" s_Has_init g.f_Has_init g.d_Has_init
  e_Has_init : Binds K g.d_Has_init ["self", "value"] []
  f_Block_init : Fun K "__init__" "Block.__init__" s_Block_init g.f_Block_init g.d_Block_init
  kt_Block_init_otherwise : ∀ H, SqT K H g.t_Block_init_otherwise []
  sb_Block_init : SBn K g.d_Block_init ["self", "otherwise", "body"] 1 1 ["otherwise"] (fun ws => ws) (fun zs => zs)
  sb0_Block_init : SBn K g.d_Block_init ["self", "otherwise", "body"] 1 1 [] (fun _ => [.ref g.t_Block_init_otherwise]) (fun _ => [.ref g.t_Block_init_otherwise])
  f_Block_inner : Fun K "inner" "Block.inner" s_Block_inner g.f_Block_inner g.d_Block_inner
  e_Block_inner : Binds K g.d_Block_inner ["self"] []
  f_When_init : FunC K "__init__" "When.__init__" s_When_init g.f_When_init g.d_When_init g.c_When "self" supFile
  sup_When_init : SupM K g.c_When g.c_When g.f_Block_init
  kt_When_init_otherwise : ∀ H, SqT K H g.t_When_init_otherwise []
  sb_When_init : SBn K g.d_When_init ["self", "test", "otherwise", "body"] 2 1 ["otherwise"] (fun ws => ws) (fun zs => zs)
  sb0_When_init : SBn K g.d_When_init ["self", "test", "otherwise", "body"] 2 1 [] (fun _ => [.ref g.t_When_init_otherwise]) (fun _ => [.ref g.t_When_init_otherwise])
  f_When_made : FunA K "made" "When.made" s_When_made g.f_When_made g.d_When_made
  kt_When_made_otherwise : ∀ H, SqT K H g.t_When_made_otherwise []
  e_When_made : Binds K g.d_When_made ["cls", "test", "body", "otherwise"] [.ref g.t_When_made_otherwise]
  ef_When_made : Binds K g.d_When_made ["cls", "test", "body", "otherwise"] []
  f_Attempt_made : FunA K "made" "Attempt.made" s_Attempt_made g.f_Attempt_made g.d_Attempt_made
  kt_Attempt_made_otherwise : ∀ H, SqT K H g.t_Attempt_made_otherwise []
  e_Attempt_made : Binds K g.d_Attempt_made ["cls", "body", "otherwise"] [.ref g.t_Attempt_made_otherwise]
  ef_Attempt_made : Binds K g.d_Attempt_made ["cls", "body", "otherwise"] []
  f_many_of : Fun K "many_of" "many_of" s_many_of g.f_many_of g.d_many_of
  e_many_of : Binds K g.d_many_of ["steps"] []
  g_many_of : mg "many_of" = some (.ref g.f_many_of)
  k_many_of : PySem.W.keepIn K (.ref g.f_many_of) = true
  f_check_unlike : Fun K "check_unlike" "check_unlike" s_check_unlike g.f_check_unlike g.d_check_unlike
  e_check_unlike : Binds K g.d_check_unlike ["names"] []
  g_check_unlike : mg "check_unlike" = some (.ref g.f_check_unlike)
  k_check_unlike : PySem.W.keepIn K (.ref g.f_check_unlike) = true
  f_depth_of : Fun K "depth_of" "depth_of" s_depth_of g.f_depth_of g.d_depth_of
  e_depth_of : Binds K g.d_depth_of ["steps"] []
  g_depth_of : mg "depth_of" = some (.ref g.f_depth_of)
  k_depth_of : PySem.W.keepIn K (.ref g.f_depth_of) = true
  f_Handler_init : Fun K "__init__" "Handler.__init__" s_Handler_init g.f_Handler_init g.d_Handler_init
  kt_Handler_init_params : ∀ H, SqT K H g.t_Handler_init_params []
  sb_Handler_init : SBn K g.d_Handler_init ["self", "name", "params", "steps"] 2 1 ["params"] (fun ws => ws) (fun zs => zs)
  sb0_Handler_init : SBn K g.d_Handler_init ["self", "name", "params", "steps"] 2 1 [] (fun _ => [.ref g.t_Handler_init_params]) (fun _ => [.ref g.t_Handler_init_params])
  f_Handler_made : FunA K "made" "Handler.made" s_Handler_made g.f_Handler_made g.d_Handler_made
  kt_Handler_made_params : ∀ H, SqT K H g.t_Handler_made_params []
  e_Handler_made : Binds K g.d_Handler_made ["cls", "name", "steps", "params"] [.ref g.t_Handler_made_params]
  ef_Handler_made : Binds K g.d_Handler_made ["cls", "name", "steps", "params"] []
  kc_0 : KBn K g.d_Handler_made ["cls", "name", "steps", "params"] 3 ["params"] (fun us ws => us ++ ws) (fun us ws => us ++ ws)
  f_law_deck : Fun K "_law_deck" "_law_deck" s_law_deck g.f_law_deck g.d_law_deck
  e_law_deck : Binds K g.d_law_deck ["script", "turn"] []
  g_law_deck : mg "_law_deck" = some (.ref g.f_law_deck)
  k_law_deck : PySem.W.keepIn K (.ref g.f_law_deck) = true
  f_law_draw : Fun K "_law_draw" "_law_draw" s_law_draw g.f_law_draw g.d_law_draw
  e_law_draw : Binds K g.d_law_draw ["deck", "many"] []
  g_law_draw : mg "_law_draw" = some (.ref g.f_law_draw)
  k_law_draw : PySem.W.keepIn K (.ref g.f_law_draw) = true
  f_law_of : Fun K "_law_of" "_law_of" s_law_of g.f_law_of g.d_law_of
  e_law_of : Binds K g.d_law_of ["deck", "some"] []
  g_law_of : mg "_law_of" = some (.ref g.f_law_of)
  k_law_of : PySem.W.keepIn K (.ref g.f_law_of) = true
  f_law_names : Fun K "_law_names" "_law_names" s_law_names g.f_law_names g.d_law_names
  e_law_names : Binds K g.d_law_names ["deck", "many"] []
  g_law_names : mg "_law_names" = some (.ref g.f_law_names)
  k_law_names : PySem.W.keepIn K (.ref g.f_law_names) = true
  f_law_nest : Fun K "_law_nest" "_law_nest" s_law_nest g.f_law_nest g.d_law_nest
  e_law_nest : Binds K g.d_law_nest ["deck", "deep"] []
  g_law_nest : mg "_law_nest" = some (.ref g.f_law_nest)
  k_law_nest : PySem.W.keepIn K (.ref g.f_law_nest) = true
  f_law_inside : Fun K "_law_inside" "_law_inside" s_law_inside g.f_law_inside g.d_law_inside
  e_law_inside : Binds K g.d_law_inside ["step"] []
  g_law_inside : mg "_law_inside" = some (.ref g.f_law_inside)
  k_law_inside : PySem.W.keepIn K (.ref g.f_law_inside) = true
  f_law_steps : Fun K "_law_steps" "_law_steps" s_law_steps g.f_law_steps g.d_law_steps
  e_law_steps : Binds K g.d_law_steps ["deck", "is_odd"] []
  g_law_steps : mg "_law_steps" = some (.ref g.f_law_steps)
  k_law_steps : PySem.W.keepIn K (.ref g.f_law_steps) = true
  f_law_marks : Fun K "_law_marks" "_law_marks" s_law_marks g.f_law_marks g.d_law_marks
  e_law_marks : Binds K g.d_law_marks ["deck", "names", "is_odd", "is_twice"] []
  g_law_marks : mg "_law_marks" = some (.ref g.f_law_marks)
  k_law_marks : PySem.W.keepIn K (.ref g.f_law_marks) = true
  f_law_is_name : Fun K "_law_is_name" "_law_is_name" s_law_is_name g.f_law_is_name g.d_law_is_name
  e_law_is_name : Binds K g.d_law_is_name ["thing"] []
  g_law_is_name : mg "_law_is_name" = some (.ref g.f_law_is_name)
  k_law_is_name : PySem.W.keepIn K (.ref g.f_law_is_name) = true
  f_law_due : Fun K "_law_due" "_law_due" s_law_due g.f_law_due g.d_law_due
  e_law_due : Binds K g.d_law_due ["name", "steps", "marks"] []
  g_law_due : mg "_law_due" = some (.ref g.f_law_due)
  k_law_due : PySem.W.keepIn K (.ref g.f_law_due) = true
  f_law_told : Fun K "_law_told" "_law_told" s_law_told g.f_law_told g.d_law_told
  e_law_told : Binds K g.d_law_told ["name", "steps", "marks"] []
  g_law_told : mg "_law_told" = some (.ref g.f_law_told)
  k_law_told : PySem.W.keepIn K (.ref g.f_law_told) = true
  f_law : Fun K "law" "law" s_law g.f_law g.d_law
  e_law : Binds K g.d_law ["script"] []
  g_law : mg "law" = some (.ref g.f_law)
  k_law : PySem.W.keepIn K (.ref g.f_law) = true
  g_BadName : mg "BadName" = some (.ref g.c_BadName)
  o_BadName : OexB K g.c_BadName
  x_BadName : XfC K g.c_BadName
  h_BadName : PySem.W.exmOne K (.ref g.c_BadName) (.ref g.c_BadName) = some true
  i_BadName : PySem.W.findIn K (.ref g.c_BadName) "__init__" = some (some (.ref g.f_BadName_init))
  t_BadName : PySem.W.typeIn K (.ref g.f_BadName_init) = some (.type "function")
  a_BadName_name : PySem.W.findIn K (.ref g.c_BadName) "name" = some none
  xv_BadName : ExT K g.c_BadName
  g_BadValue : mg "BadValue" = some (.ref g.c_BadValue)
  o_BadValue : OexB K g.c_BadValue
  x_BadValue : XfC K g.c_BadValue
  h_BadValue : PySem.W.exmOne K (.ref g.c_BadValue) (.ref g.c_BadValue) = some true
  i_BadValue : PySem.W.findIn K (.ref g.c_BadValue) "__init__" = some (some (.ref g.f_BadValue_init))
  t_BadValue : PySem.W.typeIn K (.ref g.f_BadValue_init) = some (.type "function")
  a_BadValue_value : PySem.W.findIn K (.ref g.c_BadValue) "value" = some none
  g_BadTest : mg "BadTest" = some (.ref g.c_BadTest)
  o_BadTest : OexB K g.c_BadTest
  x_BadTest : XfC K g.c_BadTest
  h_BadTest : PySem.W.exmOne K (.ref g.c_BadTest) (.ref g.c_BadTest) = some true
  i_BadTest : PySem.W.findIn K (.ref g.c_BadTest) "__init__" = some (some (.ref g.f_BadTest_init))
  t_BadTest : PySem.W.typeIn K (.ref g.f_BadTest_init) = some (.type "function")
  a_BadTest_test : PySem.W.findIn K (.ref g.c_BadTest) "test" = some none
  g_BadStep : mg "BadStep" = some (.ref g.c_BadStep)
  o_BadStep : OexB K g.c_BadStep
  x_BadStep : XfC K g.c_BadStep
  h_BadStep : PySem.W.exmOne K (.ref g.c_BadStep) (.ref g.c_BadStep) = some true
  i_BadStep : PySem.W.findIn K (.ref g.c_BadStep) "__init__" = some (some (.ref g.f_BadStep_init))
  t_BadStep : PySem.W.typeIn K (.ref g.f_BadStep_init) = some (.type "function")
  a_BadStep_index : PySem.W.findIn K (.ref g.c_BadStep) "index" = some none
  xv_BadStep : ExT K g.c_BadStep
  hx_BadStep_BadName : PySem.W.exmOne K (.ref g.c_BadStep) (.ref g.c_BadName) = some false
  g_Twice : mg "Twice" = some (.ref g.c_Twice)
  o_Twice : OexB K g.c_Twice
  x_Twice : XfC K g.c_Twice
  h_Twice : PySem.W.exmOne K (.ref g.c_Twice) (.ref g.c_Twice) = some true
  i_Twice : PySem.W.findIn K (.ref g.c_Twice) "__init__" = some (some (.ref g.f_Twice_init))
  t_Twice : PySem.W.typeIn K (.ref g.f_Twice_init) = some (.type "function")
  a_Twice_name : PySem.W.findIn K (.ref g.c_Twice) "name" = some none
  xv_Twice : ExT K g.c_Twice
  hx_Twice_BadName : PySem.W.exmOne K (.ref g.c_Twice) (.ref g.c_BadName) = some false
  hx_Twice_BadStep : PySem.W.exmOne K (.ref g.c_Twice) (.ref g.c_BadStep) = some false
  g_TooMany : mg "TooMany" = some (.ref g.c_TooMany)
  o_TooMany : OexB K g.c_TooMany
  x_TooMany : XfC K g.c_TooMany
  h_TooMany : PySem.W.exmOne K (.ref g.c_TooMany) (.ref g.c_TooMany) = some true
  i_TooMany : PySem.W.findIn K (.ref g.c_TooMany) "__init__" = some (some (.ref g.f_TooMany_init))
  t_TooMany : PySem.W.typeIn K (.ref g.f_TooMany_init) = some (.type "function")
  a_TooMany_limit : PySem.W.findIn K (.ref g.c_TooMany) "limit" = some none
  xv_TooMany : ExT K g.c_TooMany
  hx_TooMany_BadName : PySem.W.exmOne K (.ref g.c_TooMany) (.ref g.c_BadName) = some false
  hx_TooMany_BadStep : PySem.W.exmOne K (.ref g.c_TooMany) (.ref g.c_BadStep) = some false
  hx_TooMany_Twice : PySem.W.exmOne K (.ref g.c_TooMany) (.ref g.c_Twice) = some false
  g_Step : mg "Step" = some (.ref g.c_Step)
  cl_Step : Cls K g.c_Step
  ci_Step : CIns K g.c_Step
  ka_Step_NoneType : PySem.W.subIn K (.type "NoneType") (.ref g.c_Step) = some false
  kb_Step_NoneType : PySem.W.kitOne K (.type "NoneType") (.ref g.c_Step) = some false
  ka_Step_int : PySem.W.subIn K (.type "int") (.ref g.c_Step) = some false
  kb_Step_int : PySem.W.kitOne K (.type "int") (.ref g.c_Step) = some false
  ka_Step_bool : PySem.W.subIn K (.type "bool") (.ref g.c_Step) = some false
  kb_Step_bool : PySem.W.kitOne K (.type "bool") (.ref g.c_Step) = some false
  ka_Step_str : PySem.W.subIn K (.type "str") (.ref g.c_Step) = some false
  kb_Step_str : PySem.W.kitOne K (.type "str") (.ref g.c_Step) = some false
  ka_Step_list : PySem.W.subIn K (.type "list") (.ref g.c_Step) = some false
  kb_Step_list : PySem.W.kitOne K (.type "list") (.ref g.c_Step) = some false
  ka_Step_tuple : PySem.W.subIn K (.type "tuple") (.ref g.c_Step) = some false
  kb_Step_tuple : PySem.W.kitOne K (.type "tuple") (.ref g.c_Step) = some false
  a_Step_inner : PySem.W.findIn K (.ref g.c_Step) "inner" = some (some (.ref g.f_Step_inner))
  i_Step_inner : PySem.W.isFn K (.ref g.f_Step_inner) = true
  g_Let : mg "Let" = some (.ref g.c_Let)
  cl_Let : Cls K g.c_Let
  ci_Let : CIns K g.c_Let
  su_Let_Step : PySem.W.kitOne K (.ref g.c_Let) (.ref g.c_Step) = some true
  ka_Let_NoneType : PySem.W.subIn K (.type "NoneType") (.ref g.c_Let) = some false
  kb_Let_NoneType : PySem.W.kitOne K (.type "NoneType") (.ref g.c_Let) = some false
  ka_Let_int : PySem.W.subIn K (.type "int") (.ref g.c_Let) = some false
  kb_Let_int : PySem.W.kitOne K (.type "int") (.ref g.c_Let) = some false
  ka_Let_bool : PySem.W.subIn K (.type "bool") (.ref g.c_Let) = some false
  kb_Let_bool : PySem.W.kitOne K (.type "bool") (.ref g.c_Let) = some false
  ka_Let_str : PySem.W.subIn K (.type "str") (.ref g.c_Let) = some false
  kb_Let_str : PySem.W.kitOne K (.type "str") (.ref g.c_Let) = some false
  ka_Let_list : PySem.W.subIn K (.type "list") (.ref g.c_Let) = some false
  kb_Let_list : PySem.W.kitOne K (.type "list") (.ref g.c_Let) = some false
  ka_Let_tuple : PySem.W.subIn K (.type "tuple") (.ref g.c_Let) = some false
  kb_Let_tuple : PySem.W.kitOne K (.type "tuple") (.ref g.c_Let) = some false
  ih_Let_inner : PySem.W.findIn K (.ref g.c_Let) "inner" = some (some (.ref g.f_Step_inner))
  nk_Let_Refuse : PySem.W.kitOne K (.ref g.c_Let) (.ref g.c_Refuse) = some false
  nk_Let_Block : PySem.W.kitOne K (.ref g.c_Let) (.ref g.c_Block) = some false
  nk_Let_Attempt : PySem.W.kitOne K (.ref g.c_Let) (.ref g.c_Attempt) = some false
  nk_Let_When : PySem.W.kitOne K (.ref g.c_Let) (.ref g.c_When) = some false
  na_Let_into : NoAttr K g.c_Let "into"
  na_Let_value : NoAttr K g.c_Let "value"
  m_Let : Mk K g.c_Let g.f_Let_init
  g_Refuse : mg "Refuse" = some (.ref g.c_Refuse)
  cl_Refuse : Cls K g.c_Refuse
  ci_Refuse : CIns K g.c_Refuse
  su_Refuse_Step : PySem.W.kitOne K (.ref g.c_Refuse) (.ref g.c_Step) = some true
  ka_Refuse_NoneType : PySem.W.subIn K (.type "NoneType") (.ref g.c_Refuse) = some false
  kb_Refuse_NoneType : PySem.W.kitOne K (.type "NoneType") (.ref g.c_Refuse) = some false
  ka_Refuse_int : PySem.W.subIn K (.type "int") (.ref g.c_Refuse) = some false
  kb_Refuse_int : PySem.W.kitOne K (.type "int") (.ref g.c_Refuse) = some false
  ka_Refuse_bool : PySem.W.subIn K (.type "bool") (.ref g.c_Refuse) = some false
  kb_Refuse_bool : PySem.W.kitOne K (.type "bool") (.ref g.c_Refuse) = some false
  ka_Refuse_str : PySem.W.subIn K (.type "str") (.ref g.c_Refuse) = some false
  kb_Refuse_str : PySem.W.kitOne K (.type "str") (.ref g.c_Refuse) = some false
  ka_Refuse_list : PySem.W.subIn K (.type "list") (.ref g.c_Refuse) = some false
  kb_Refuse_list : PySem.W.kitOne K (.type "list") (.ref g.c_Refuse) = some false
  ka_Refuse_tuple : PySem.W.subIn K (.type "tuple") (.ref g.c_Refuse) = some false
  kb_Refuse_tuple : PySem.W.kitOne K (.type "tuple") (.ref g.c_Refuse) = some false
  ih_Refuse_inner : PySem.W.findIn K (.ref g.c_Refuse) "inner" = some (some (.ref g.f_Step_inner))
  nk_Refuse_Block : PySem.W.kitOne K (.ref g.c_Refuse) (.ref g.c_Block) = some false
  nk_Refuse_Attempt : PySem.W.kitOne K (.ref g.c_Refuse) (.ref g.c_Attempt) = some false
  nk_Refuse_When : PySem.W.kitOne K (.ref g.c_Refuse) (.ref g.c_When) = some false
  m0_Refuse : Mk0 K g.c_Refuse
  g_Has : mg "Has" = some (.ref g.c_Has)
  cl_Has : Cls K g.c_Has
  ci_Has : CIns K g.c_Has
  nk_Has_Step : PySem.W.kitOne K (.ref g.c_Has) (.ref g.c_Step) = some false
  nk_Has_Refuse : PySem.W.kitOne K (.ref g.c_Has) (.ref g.c_Refuse) = some false
  nk_Has_Let : PySem.W.kitOne K (.ref g.c_Has) (.ref g.c_Let) = some false
  nk_Has_Attempt : PySem.W.kitOne K (.ref g.c_Has) (.ref g.c_Attempt) = some false
  nk_Has_When : PySem.W.kitOne K (.ref g.c_Has) (.ref g.c_When) = some false
  na_Has_value : NoAttr K g.c_Has "value"
  m_Has : Mk K g.c_Has g.f_Has_init
  g_Typed : mg "Typed" = some (.ref g.c_Typed)
  cl_Typed : Cls K g.c_Typed
  ci_Typed : CIns K g.c_Typed
  g_Holds : mg "Holds" = some (.ref g.c_Holds)
  cl_Holds : Cls K g.c_Holds
  ci_Holds : CIns K g.c_Holds
  g_Block : mg "Block" = some (.ref g.c_Block)
  cl_Block : Cls K g.c_Block
  ci_Block : CIns K g.c_Block
  na_Block_body : NoAttr K g.c_Block "body"
  na_Block_otherwise : NoAttr K g.c_Block "otherwise"
  m_Block : Mk K g.c_Block g.f_Block_init
  a_Block_inner : PySem.W.findIn K (.ref g.c_Block) "inner" = some (some (.ref g.f_Block_inner))
  i_Block_inner : PySem.W.isFn K (.ref g.f_Block_inner) = true
  g_When : mg "When" = some (.ref g.c_When)
  cl_When : Cls K g.c_When
  ci_When : CIns K g.c_When
  su_When_Step : PySem.W.kitOne K (.ref g.c_When) (.ref g.c_Step) = some true
  su_When_Block : PySem.W.kitOne K (.ref g.c_When) (.ref g.c_Block) = some true
  ka_When_NoneType : PySem.W.subIn K (.type "NoneType") (.ref g.c_When) = some false
  kb_When_NoneType : PySem.W.kitOne K (.type "NoneType") (.ref g.c_When) = some false
  ka_When_int : PySem.W.subIn K (.type "int") (.ref g.c_When) = some false
  kb_When_int : PySem.W.kitOne K (.type "int") (.ref g.c_When) = some false
  ka_When_bool : PySem.W.subIn K (.type "bool") (.ref g.c_When) = some false
  kb_When_bool : PySem.W.kitOne K (.type "bool") (.ref g.c_When) = some false
  ka_When_str : PySem.W.subIn K (.type "str") (.ref g.c_When) = some false
  kb_When_str : PySem.W.kitOne K (.type "str") (.ref g.c_When) = some false
  ka_When_list : PySem.W.subIn K (.type "list") (.ref g.c_When) = some false
  kb_When_list : PySem.W.kitOne K (.type "list") (.ref g.c_When) = some false
  ka_When_tuple : PySem.W.subIn K (.type "tuple") (.ref g.c_When) = some false
  kb_When_tuple : PySem.W.kitOne K (.type "tuple") (.ref g.c_When) = some false
  ih_When_inner : PySem.W.findIn K (.ref g.c_When) "inner" = some (some (.ref g.f_Block_inner))
  nk_When_Refuse : PySem.W.kitOne K (.ref g.c_When) (.ref g.c_Refuse) = some false
  nk_When_Let : PySem.W.kitOne K (.ref g.c_When) (.ref g.c_Let) = some false
  nk_When_Attempt : PySem.W.kitOne K (.ref g.c_When) (.ref g.c_Attempt) = some false
  na_When_test : NoAttr K g.c_When "test"
  na_When_body : NoAttr K g.c_When "body"
  na_When_otherwise : NoAttr K g.c_When "otherwise"
  m_When : Mk K g.c_When g.f_When_init
  cm_When_made : ClX.CMet K g.c_When (.type "type") "made" g.p_When_made g.f_When_made
  cr_When : ClX.CRead K g.c_When (.type "type")
  g_Attempt : mg "Attempt" = some (.ref g.c_Attempt)
  cl_Attempt : Cls K g.c_Attempt
  ci_Attempt : CIns K g.c_Attempt
  su_Attempt_Step : PySem.W.kitOne K (.ref g.c_Attempt) (.ref g.c_Step) = some true
  su_Attempt_Block : PySem.W.kitOne K (.ref g.c_Attempt) (.ref g.c_Block) = some true
  ka_Attempt_NoneType : PySem.W.subIn K (.type "NoneType") (.ref g.c_Attempt) = some false
  kb_Attempt_NoneType : PySem.W.kitOne K (.type "NoneType") (.ref g.c_Attempt) = some false
  ka_Attempt_int : PySem.W.subIn K (.type "int") (.ref g.c_Attempt) = some false
  kb_Attempt_int : PySem.W.kitOne K (.type "int") (.ref g.c_Attempt) = some false
  ka_Attempt_bool : PySem.W.subIn K (.type "bool") (.ref g.c_Attempt) = some false
  kb_Attempt_bool : PySem.W.kitOne K (.type "bool") (.ref g.c_Attempt) = some false
  ka_Attempt_str : PySem.W.subIn K (.type "str") (.ref g.c_Attempt) = some false
  kb_Attempt_str : PySem.W.kitOne K (.type "str") (.ref g.c_Attempt) = some false
  ka_Attempt_list : PySem.W.subIn K (.type "list") (.ref g.c_Attempt) = some false
  kb_Attempt_list : PySem.W.kitOne K (.type "list") (.ref g.c_Attempt) = some false
  ka_Attempt_tuple : PySem.W.subIn K (.type "tuple") (.ref g.c_Attempt) = some false
  kb_Attempt_tuple : PySem.W.kitOne K (.type "tuple") (.ref g.c_Attempt) = some false
  ih_Attempt_inner : PySem.W.findIn K (.ref g.c_Attempt) "inner" = some (some (.ref g.f_Block_inner))
  nk_Attempt_Refuse : PySem.W.kitOne K (.ref g.c_Attempt) (.ref g.c_Refuse) = some false
  nk_Attempt_Let : PySem.W.kitOne K (.ref g.c_Attempt) (.ref g.c_Let) = some false
  na_Attempt_body : NoAttr K g.c_Attempt "body"
  na_Attempt_otherwise : NoAttr K g.c_Attempt "otherwise"
  cm_Attempt_made : ClX.CMet K g.c_Attempt (.type "type") "made" g.p_Attempt_made g.f_Attempt_made
  m_Attempt : Mk K g.c_Attempt g.f_Block_init
  cr_Attempt : ClX.CRead K g.c_Attempt (.type "type")
  g_Handler : mg "Handler" = some (.ref g.c_Handler)
  cl_Handler : Cls K g.c_Handler
  ci_Handler : CIns K g.c_Handler
  cv_Handler_MOST : ∃ u, ClX.CVal K g.c_Handler (.type "type") "MOST" (.int 16) u
  cv_Handler_DEEPEST : ∃ u, ClX.CVal K g.c_Handler (.type "type") "DEEPEST" (.int 4) u
  na_Handler_name : NoAttr K g.c_Handler "name"
  na_Handler_params : NoAttr K g.c_Handler "params"
  na_Handler_body : NoAttr K g.c_Handler "body"
  na_Handler_steps : NoAttr K g.c_Handler "steps"
  m_Handler : Mk K g.c_Handler g.f_Handler_init
  cm_Handler_made : ClX.CMet K g.c_Handler (.type "type") "made" g.p_Handler_made g.f_Handler_made
  cr_Handler : ClX.CRead K g.c_Handler (.type "type")
  n_LETTERS : ∃ t, mg "LETTERS" = some (.str "abcdefghijklmnopqrstuvwxyz" t)
  n_MOST_SIGNS : ∃ t, mg "MOST_SIGNS" = some (.int 8 t)
  n_MOST_OPERANDS : ∃ t, mg "MOST_OPERANDS" = some (.int 3 t)
  n_BEYOND : ∃ t, mg "BEYOND" = some (.int 100000000000000000000 t)
  n_MOST_PARAMS : ∃ t, mg "MOST_PARAMS" = some (.int 3 t)
  b_abs : mg "abs" = none
  b_all : mg "all" = none
  b_bool : mg "bool" = none
  b_enumerate : mg "enumerate" = none
  b_int : mg "int" = none
  b_isinstance : mg "isinstance" = none
  b_len : mg "len" = none
  b_list : mg "list" = none
  b_max : mg "max" = none
  b_min : mg "min" = none
  b_range : mg "range" = none
  b_repr : mg "repr" = none
  b_str : mg "str" = none
  b_sum : mg "sum" = none
  b_super : mg "super" = none
  b_tuple : mg "tuple" = none
theorem sc_is_int : FnScope ["thing"] ["thing"] (defScope s_is_int) := ⟨rfl, rfl, rfl, by decide +kernel, rfl, by decide +kernel, by decide +kernel⟩
def R_is_int (K : PySem.W.Frag) (g : Ads) (E : XK) : TS :=
  (tRet (zAndV (zIsiT K .int (zVar 0)) (zAndV (zNotV (zIsiT K .bool (zVar 0))) (zChain zLt zLt (zNeg (tC (.int 100000000000000000000))) (zVar 0) (tC (.int 100000000000000000000))))))
def rw_is_int (K : PySem.W.Frag) (g : Ads) : Sp := fun vs H Q E => vs.length = 1 ∧ R_is_int K g E { nx := fun _ H' => Q .non H', rt := Q } (start ["thing"] vs) H
theorem raw_is_int {P : Program} [SupP P] {w : World} {K : PySem.W.Frag} {mg : Str → Option Value} {base : Heap} {g : Ads} (T : Txt K mg g) : FnG false P w K mg base 1 g.f_is_int g.d_is_int ["thing"] (rw_is_int K g) := by
  refine okZ T.f_is_int sc_is_int (fun vs H Q E h => h.1) (fun cdv A outer s H vs Q E hr hgu h => ⟨R_is_int K g E, ?_, h.2⟩)
  exact (pss_one (ps_ret (pez_and (pe_isi (kd := .int) (zv 0) (by rfl) T.b_isinstance (by decide +kernel) (by rfl) T.b_int (by decide +kernel)) (pez_and (pez_not (pe_isi (kd := .bool) (zv 0) (by rfl) T.b_isinstance (by decide +kernel) (by rfl) T.b_bool (by decide +kernel))) (pe_one (pez_chain op_zLt op_zLt (pez_neg (pe_cint rfl T.n_BEYOND)) (zv 0) (pe_cint rfl T.n_BEYOND)))))))
theorem sc_is_name : FnScope ["thing", "sign"] ["thing"] (defScope s_is_name) := ⟨rfl, rfl, rfl, by decide +kernel, rfl, by decide +kernel, by decide +kernel⟩
def R_is_name_3 (K : PySem.W.Frag) (g : Ads) (E : XK) : TS :=
  (tRet (tCB (rAll K) (tCons (zLc (iStr (zVar 0)) (gName 1) tYes (tOp (zIn K) (zVar 1) (tC (.str "abcdefghijklmnopqrstuvwxyz"))) [1]) tNil)))
def R_is_name (K : PySem.W.Frag) (g : Ads) (E : XK) : TS :=
  (tSeq (tIfS (tOr (tNot (zTru K (zIsiT K .str (zVar 0)))) (tOr (tNot (zTest (zChain zLe zLe (tC (.int 1)) (tCB (zLen K) (tCons (zVar 0) tNil)) (tC (.int 8))))) (zTest (tOp (zEq K) (zVar 0) (tC (.str "none"))))))
  (tRet (tC (.bl false)))
  tNext)
  (R_is_name_3 K g E))
def rw_is_name (K : PySem.W.Frag) (g : Ads) : Sp := fun vs H Q E => vs.length = 1 ∧ R_is_name K g E { nx := fun _ H' => Q .non H', rt := Q } (start ["thing", "sign"] vs) H
theorem raw_is_name {P : Program} [SupP P] {w : World} {K : PySem.W.Frag} {mg : Str → Option Value} {base : Heap} {g : Ads} (T : Txt K mg g) : FnG false P w K mg base 1 g.f_is_name g.d_is_name ["thing"] (rw_is_name K g) := by
  refine okZ T.f_is_name sc_is_name (fun vs H Q E h => h.1) (fun cdv A outer s H vs Q E hr hgu h => ⟨R_is_name K g E, ?_, h.2⟩)
  exact (pss_cons (ps_if (PW.pt (pw_or (pt_not (ptz_truth (pe_isi (kd := .str) (zv 0) (by rfl) T.b_isinstance (by decide +kernel) (by rfl) T.b_str (by decide +kernel)) (by intro _; rfl))) (pw_or (pt_not (ptz_chain op_zLe op_zLe pe_int (pe_callB call_lenZ (by rfl) T.b_len (by decide +kernel) (pa_cons (zv 0) pa_nil)) (pe_cint rfl T.n_MOST_SIGNS))) (pw_or1 (ptz_cmp (op_zEq hr.units) (zv 0) pe_str (nomark _))))))
  (pss_one (ps_ret pe_bl))
  pss_nil)
  (pss_one (ps_ret (pe_callB (cr_all rfl) (by rfl) T.b_all (by decide +kernel) (pa_cons (pez_lc (own := [("sign", 1)]) rfl sc_is_name.nd (pi_str (zv 0)) (blkOk_by (own := [("sign", 1)]) (N := ["thing", "sign"]) (sc := defScope s_is_name) (by decide +kernel)) (fun _ _ _ _ _ => pg_name (i := 1) sc_is_name.nd rfl (Or.inl rfl)) (fun _ _ _ _ _ => pts_nil) (fun _ _ _ _ _ => (pe_cmpR op_zIn (zv 1) (pe_cstr rfl T.n_LETTERS) (by rfl)))) pa_nil)))))
end Z
namespace Z
open PySem PySem.Spec PyProof.Rows L2
/-- a value of which isinstance knows the kind -/
def Knd (K : PySem.W.Frag) (H : Hp) (v : V) : Prop := match v with
  | .non => True | .bl _ => True | .int _ => True | .str z => z.length ≤ 1000
  | .ref a => ∃ t, KndR K H a t
  | _ => False
def isIntV (v : V) : Bool := match v with
  | .int i => decide (-100000000000000000000 < i) && decide (i < 100000000000000000000)
  | _ => false
def sp_is_int (K : PySem.W.Frag) (g : Ads) : Sp := fun vs H Q E => ∃ v, vs = [v] ∧ Knd K H v ∧ Q (.bl (isIntV v)) H
theorem pf_is_int {K : PySem.W.Frag} {g : Ads} (vs : List V) (H : Hp) (Q : VK) (E : XK) (h : sp_is_int K g vs H Q E) : rw_is_int K g vs H Q E := by
  obtain ⟨v, rfl, hk, q⟩ := h
  refine ⟨rfl, ?_⟩
  cases v with
  | non => exact q
  | bl b => exact q
  | str b => exact q
  | int i =>
    show if decide (-100000000000000000000 < i) = true then Q (.bl (decide (i < 100000000000000000000))) H else Q (.bl false) H
    refine zite (fun h => ?_) (fun h => ?_)
    · simpa [isIntV, h] using q
    · simpa [isIntV, h] using q
  | ref a =>
    obtain ⟨t, ht⟩ := hk
    cases t <;> first | exact ht.elim | exact ⟨_, ht, q⟩
  | _ => exact hk.elim
/-- the signs of a name -/
def lettB (z : Str) : Bool := ((List.range z.cps.size).map fun i => decide (z.cps.getD i 0 ∈ ("abcdefghijklmnopqrstuvwxyz" : Str).cps.toList)).all id
def nameB (z : Str) : Bool := decide ((1 : Int) ≤ z.length) && decide ((z.length : Int) ≤ 8) && !decide (z = "none") && lettB z
def isNameV (v : V) : Bool := match v with
  | .str z => nameB z
  | _ => false
def sp_is_name (K : PySem.W.Frag) (g : Ads) : Sp := fun vs H Q E => ∃ v, vs = [v] ∧ Knd K H v ∧ ∀ H', Same H H' → Q (.bl (isNameV v)) H'
theorem pf_is_name {K : PySem.W.Frag} {g : Ads} (vs : List V) (H : Hp) (Q : VK) (E : XK) (h : sp_is_name K g vs H Q E) : rw_is_name K g vs H Q E := by
  obtain ⟨v, rfl, hk, q⟩ := h
  refine ⟨rfl, ?_⟩
  cases v with
  | non => exact q H (Same.refl H)
  | bl b => exact q H (Same.refl H)
  | int b => exact q H (Same.refl H)
  | ref a =>
    obtain ⟨t, ht⟩ := hk
    cases t <;> first | exact ht.elim | exact ⟨_, ht, q H (Same.refl H)⟩
  | str z =>
    have hz : z.length ≤ 1000 := hk
    refine ⟨Nat.le_trans hz (by decide), zite (fun h1 => ?_) (fun h1 => ?_)⟩
    · refine zite (fun h2 => ?_) (fun h2 => ?_)
      · have e : isNameV (.str z) = false := by simp [isNameV, nameB] at h2 ⊢; omega
        rw [e] at q
        exact q H (Same.refl H)
      · refine .inl ⟨rfl, zite (fun h3 => ?_) (fun h3 => ?_)⟩
        · have e : isNameV (.str z) = false := by simp [isNameV, nameB] at h3 ⊢; simp [h3]
          rw [e] at q
          exact q H (Same.refl H)
        · refine ⟨z, rfl, lc_map walk_str (fun i => .bl (decide (z.cps.getD i 0 ∈ ("abcdefghijklmnopqrstuvwxyz" : Str).cps.toList))) ?_ (fun _ _ => trivial) (fun i x H0 H' hi s y => ?_) (fun D hD => ?_)⟩
          · exact Nat.le_trans hz (by decide)
          · obtain ⟨rfl, c, hc, rfl⟩ := y
            refine ⟨rfl, _, fun R r => r, rfl, fun R r => r, fun R r => .inl ⟨c, _, rfl, rfl, ?_⟩⟩
            have e : z.cps.getD i 0 = c := by simp [Array.getD_eq_getD_getElem?, hc]
            rw [← e]
            exact r
          · refine ⟨D, (List.range z.cps.size).map fun i => decide (z.cps.getD i 0 ∈ ("abcdefghijklmnopqrstuvwxyz" : Str).cps.toList), rfl, SqL.of ?_, ?_⟩
            · rw [upd_same, List.map_map]
              rfl
            · have e : isNameV (.str z) = lettB z := by
                have a1 : ¬ z = "none" := by simpa using h3
                have a2 : (1 : Int) ≤ z.length := by simpa using h1
                have a3 : (z.length : Int) ≤ 8 := by simpa using h2
                simp [isNameV, nameB, a1, a2, a3]
              have q' := q _ (Same.put (o := .lst ((List.range z.cps.size).map fun i => V.bl (decide (z.cps.getD i 0 ∈ ("abcdefghijklmnopqrstuvwxyz" : Str).cps.toList)))) hD)
              rw [e] at q'
              exact q'
    · have e : isNameV (.str z) = false := by
        have a1 : ¬ (1 : Int) ≤ z.length := by simpa using h1
        simp [isNameV, nameB, a1]
      rw [e] at q
      exact q H (Same.refl H)
  | _ => exact hk.elim
end Z
namespace Z
open PySem PySem.Spec PyProof.Rows L2
theorem ok_is_int {P : Program} [SupP P] {w : World} {K : PySem.W.Frag} {mg : Str → Option Value} {base : Heap} {g : Ads} (T : Txt K mg g) : FnG false P w K mg base 1 g.f_is_int g.d_is_int ["thing"] (sp_is_int K g) := (raw_is_int T).imp pf_is_int
theorem ok_is_name {P : Program} [SupP P] {w : World} {K : PySem.W.Frag} {mg : Str → Option Value} {base : Heap} {g : Ads} (T : Txt K mg g) : FnG false P w K mg base 1 g.f_is_name g.d_is_name ["thing"] (sp_is_name K g) := (raw_is_name T).imp pf_is_name
/-! ### an error with one field -/
def sp_x1 (C : Addr) (f : Str) : Sp := fun vs H Q E => ∃ a v, vs = [.ref a, v] ∧ H a = some (exo a C none) ∧
  ∀ dx, H dx = none → dx ≠ a → Q .non (upd (upd H dx (exd dx [(f, v)])) a (exo a C (some dx)))
theorem raise_at {C : Addr} {f : Str} {v : V} {H : Hp} {R : XK} (k : ∀ d, H d = none → R (.ref C) (some d) (upd H d (.xd [(f, v)]))) :
    [v].length ≤ 1000 ∧ ∀ a, H a = none → sp_x1 C f (.ref a :: [v]) (upd H a (exo a C none))
      (fun v' H2 => v' = .non ∧ ∃ (d : Addr) (fs : List (Str × V)), H2 a = some (exo a C (some d)) ∧ H2 d = some (exd d fs) ∧ H d = none ∧ R (.ref C) (some d) (upd (del H2 a) d (.xd fs))) E0 := by
  refine ⟨by simp, fun a ha => ⟨a, v, rfl, upd_same, fun dx hdx ne => ⟨rfl, dx, [(f, v)], upd_same, by rw [upd_ne ne, upd_same], ?_, ?_⟩⟩⟩
  · rw [upd_ne ne] at hdx
    exact hdx
  · have hd : H dx = none := by
      rw [upd_ne ne] at hdx
      exact hdx
    have e : upd (del (upd (upd (upd H a (exo a C none)) dx (exd dx [(f, v)])) a (exo a C (some dx))) a) dx (.xd [(f, v)]) = upd H dx (.xd [(f, v)]) := by
      funext b
      by_cases h1 : b = dx
      · rw [h1, upd_same, upd_same]
      · rw [upd_ne h1, upd_ne h1]
        by_cases h2 : b = a
        · rw [h2, del_same, ha]
        · rw [del_ne h2, upd_ne h2, upd_ne h1, upd_ne h2]
    rw [e]
    exact k dx hd
def sp_BadName_init (K : PySem.W.Frag) (g : Ads) : Sp := sp_x1 g.c_BadName "name"
def sp_BadValue_init (K : PySem.W.Frag) (g : Ads) : Sp := sp_x1 g.c_BadValue "value"
theorem sc_BadName_init : FnScope ["self", "name"] ["self", "name"] (defScope s_BadName_init) := ⟨rfl, rfl, rfl, by decide +kernel, rfl, by decide +kernel, by decide +kernel⟩
def R_BadName_init (K : PySem.W.Frag) (g : Ads) (E : XK) : TS :=
  (tOstB K "name" (zVar 0) (zVar 1))
def rw_BadName_init (K : PySem.W.Frag) (g : Ads) : Sp := fun vs H Q E => vs.length = 2 ∧ R_BadName_init K g E { nx := fun _ H' => Q .non H', rt := Q } (start ["self", "name"] vs) H
theorem raw_BadName_init {P : Program} [SupP P] {w : World} {K : PySem.W.Frag} {mg : Str → Option Value} {base : Heap} {g : Ads} (T : Txt K mg g) : FnG false P w K mg base 1 g.f_BadName_init g.d_BadName_init ["self", "name"] (rw_BadName_init K g) := by
  refine okZ T.f_BadName_init sc_BadName_init (fun vs H Q E h => h.1) (fun cdv A outer s H vs Q E hr hgu h => ⟨R_BadName_init K g E, ?_, h.2⟩)
  exact (pss_one (ps_ostB (zv 0) (zv 1)))
theorem sc_BadValue_init : FnScope ["self", "value"] ["self", "value"] (defScope s_BadValue_init) := ⟨rfl, rfl, rfl, by decide +kernel, rfl, by decide +kernel, by decide +kernel⟩
def R_BadValue_init (K : PySem.W.Frag) (g : Ads) (E : XK) : TS :=
  (tOstB K "value" (zVar 0) (zVar 1))
def rw_BadValue_init (K : PySem.W.Frag) (g : Ads) : Sp := fun vs H Q E => vs.length = 2 ∧ R_BadValue_init K g E { nx := fun _ H' => Q .non H', rt := Q } (start ["self", "value"] vs) H
theorem raw_BadValue_init {P : Program} [SupP P] {w : World} {K : PySem.W.Frag} {mg : Str → Option Value} {base : Heap} {g : Ads} (T : Txt K mg g) : FnG false P w K mg base 1 g.f_BadValue_init g.d_BadValue_init ["self", "value"] (rw_BadValue_init K g) := by
  refine okZ T.f_BadValue_init sc_BadValue_init (fun vs H Q E h => h.1) (fun cdv A outer s H vs Q E hr hgu h => ⟨R_BadValue_init K g E, ?_, h.2⟩)
  exact (pss_one (ps_ostB (zv 0) (zv 1)))
section
variable {P : Program} [SupP P] {w : World} {K : PySem.W.Frag} {mg : Str → Option Value} {base : Heap} {g : Ads}
theorem ok_BadName_init (T : Txt K mg g) : FnG false P w K mg base 1 g.f_BadName_init g.d_BadName_init ["self", "name"] (sp_BadName_init K g) :=
  (raw_BadName_init T).imp fun vs H Q E ⟨a, v, e, ha, k⟩ => by
    subst e
    exact ⟨rfl, a, g.c_BadName, rfl, T.o_BadName, T.a_BadName_name, .inl ⟨ha, k⟩⟩
theorem ok_BadValue_init (T : Txt K mg g) : FnG false P w K mg base 1 g.f_BadValue_init g.d_BadValue_init ["self", "value"] (sp_BadValue_init K g) :=
  (raw_BadValue_init T).imp fun vs H Q E ⟨a, v, e, ha, k⟩ => by
    subst e
    exact ⟨rfl, a, g.c_BadValue, rfl, T.o_BadValue, T.a_BadValue_value, .inl ⟨ha, k⟩⟩
end
def sp_TooMany_init (K : PySem.W.Frag) (g : Ads) : Sp := sp_x1 g.c_TooMany "limit"
theorem sc_TooMany_init : FnScope ["self", "limit"] ["self", "limit"] (defScope s_TooMany_init) := ⟨rfl, rfl, rfl, by decide +kernel, rfl, by decide +kernel, by decide +kernel⟩
def R_TooMany_init (K : PySem.W.Frag) (g : Ads) (E : XK) : TS :=
  (tOstB K "limit" (zVar 0) (zVar 1))
def rw_TooMany_init (K : PySem.W.Frag) (g : Ads) : Sp := fun vs H Q E => vs.length = 2 ∧ R_TooMany_init K g E { nx := fun _ H' => Q .non H', rt := Q } (start ["self", "limit"] vs) H
theorem raw_TooMany_init {P : Program} [SupP P] {w : World} {K : PySem.W.Frag} {mg : Str → Option Value} {base : Heap} {g : Ads} (T : Txt K mg g) : FnG false P w K mg base 1 g.f_TooMany_init g.d_TooMany_init ["self", "limit"] (rw_TooMany_init K g) := by
  refine okZ T.f_TooMany_init sc_TooMany_init (fun vs H Q E h => h.1) (fun cdv A outer s H vs Q E hr hgu h => ⟨R_TooMany_init K g E, ?_, h.2⟩)
  exact (pss_one (ps_ostB (zv 0) (zv 1)))
theorem ok_TooMany_init {P : Program} [SupP P] {w : World} {K : PySem.W.Frag} {mg : Str → Option Value} {base : Heap} {g : Ads} (T : Txt K mg g) : FnG false P w K mg base 1 g.f_TooMany_init g.d_TooMany_init ["self", "limit"] (sp_TooMany_init K g) :=
  (raw_TooMany_init T).imp fun vs H Q E ⟨a, v, e, ha, k⟩ => by
    subst e
    exact ⟨rfl, a, g.c_TooMany, rfl, T.o_TooMany, T.a_TooMany_limit, .inl ⟨ha, k⟩⟩
theorem sc_check_name : FnScope ["thing"] ["thing"] (defScope s_check_name) := ⟨rfl, rfl, rfl, by decide +kernel, rfl, by decide +kernel, by decide +kernel⟩
def R_check_name_2 (K : PySem.W.Frag) (g : Ads) (E : XK) : TS :=
  (zRaise (fun cls d _ H => E cls d H) g.c_BadName (sp_BadName_init K g) (tCons (zVar 0) tNil))
def R_check_name (K : PySem.W.Frag) (g : Ads) (E : XK) : TS :=
  (tSeq (tIfS (tNot (zTru K (zCall (sp_is_name K g) [] (WE (fun cls d _ H => E cls d H)) (tCons (zVar 0) tNil))))
  (R_check_name_2 K g E)
  tNext)
  (tRet (zVar 0)))
def rw_check_name (K : PySem.W.Frag) (g : Ads) : Sp := fun vs H Q E => vs.length = 1 ∧ R_check_name K g E { nx := fun _ H' => Q .non H', rt := Q } (start ["thing"] vs) H
theorem raw_check_name {P : Program} [SupP P] {w : World} {K : PySem.W.Frag} {mg : Str → Option Value} {base : Heap} {g : Ads} (T : Txt K mg g) : FnG false P w K mg base 3 g.f_check_name g.d_check_name ["thing"] (rw_check_name K g) := by
  refine okZ T.f_check_name sc_check_name (fun vs H Q E h => h.1) (fun cdv A outer s H vs Q E hr hgu h => ⟨R_check_name K g E, ?_, h.2⟩)
  exact (pss_cons (ps_if (pt_not (ptz_truth (pe_callZ (ok_is_name T) (hr.mono (by decide)) (fun z => nomatch z) rfl T.g_is_name T.k_is_name T.e_is_name .nil (fun σ => passAt (takes_of rfl rfl rfl rfl) σ) (pa_cons (zv 0) pa_nil)) (by intro _; rfl)))
  (pss_one (ps_raise rfl (takes_of rfl rfl rfl rfl) (pmk_ZB T.o_BadName T.i_BadName T.t_BadName (ok_BadName_init T) (hr.mono (by decide)) (fun z => nomatch z) T.e_BadName_init rfl T.g_BadName (by exact (pa_cons (zv 0) pa_nil)))))
  pss_nil)
  (pss_one (ps_ret (zv 0))))
theorem sc_check_operand : FnScope ["thing"] ["thing"] (defScope s_check_operand) := ⟨rfl, rfl, rfl, by decide +kernel, rfl, by decide +kernel, by decide +kernel⟩
def R_check_operand_2 (K : PySem.W.Frag) (g : Ads) (E : XK) : TS :=
  (zRaise (fun cls d _ H => E cls d H) g.c_BadValue (sp_BadValue_init K g) (tCons (zVar 0) tNil))
def R_check_operand (K : PySem.W.Frag) (g : Ads) (E : XK) : TS :=
  (tSeq (tIfS (tAnd (zTest (tOp zIsnt (zVar 0) (tC .non))) (tAnd (tNot (zTru K (zCall (sp_is_int K g) [] (WE (fun cls d _ H => E cls d H)) (tCons (zVar 0) tNil)))) (tNot (zTru K (zCall (sp_is_name K g) [] (WE (fun cls d _ H => E cls d H)) (tCons (zVar 0) tNil))))))
  (R_check_operand_2 K g E)
  tNext)
  (tRet (zVar 0)))
def rw_check_operand (K : PySem.W.Frag) (g : Ads) : Sp := fun vs H Q E => vs.length = 1 ∧ R_check_operand K g E { nx := fun _ H' => Q .non H', rt := Q } (start ["thing"] vs) H
theorem raw_check_operand {P : Program} [SupP P] {w : World} {K : PySem.W.Frag} {mg : Str → Option Value} {base : Heap} {g : Ads} (T : Txt K mg g) : FnG false P w K mg base 3 g.f_check_operand g.d_check_operand ["thing"] (rw_check_operand K g) := by
  refine okZ T.f_check_operand sc_check_operand (fun vs H Q E h => h.1) (fun cdv A outer s H vs Q E hr hgu h => ⟨R_check_operand K g E, ?_, h.2⟩)
  exact (pss_cons (ps_if (PW.pt (pw_and (ptz_cmp op_zIsnt (zv 0) pe_non (nomark _)) (pw_and (pt_not (ptz_truth (pe_callZ (ok_is_int T) (hr.mono (by decide)) (fun z => nomatch z) rfl T.g_is_int T.k_is_int T.e_is_int .nil (fun σ => passAt (takes_of rfl rfl rfl rfl) σ) (pa_cons (zv 0) pa_nil)) (by intro _; rfl))) (pw_and1 (pt_not (ptz_truth (pe_callZ (ok_is_name T) (hr.mono (by decide)) (fun z => nomatch z) rfl T.g_is_name T.k_is_name T.e_is_name .nil (fun σ => passAt (takes_of rfl rfl rfl rfl) σ) (pa_cons (zv 0) pa_nil)) (by intro _; rfl)))))))
  (pss_one (ps_raise rfl (takes_of rfl rfl rfl rfl) (pmk_ZB T.o_BadValue T.i_BadValue T.t_BadValue (ok_BadValue_init T) (hr.mono (by decide)) (fun z => nomatch z) T.e_BadValue_init rfl T.g_BadValue (by exact (pa_cons (zv 0) pa_nil)))))
  pss_nil)
  (pss_one (ps_ret (zv 0))))
theorem Knd.same {K : PySem.W.Frag} {H H' : Hp} {v : V} (k : Knd K H v) (s : Same H H') : Knd K H' v := by
  cases v with
  | ref a =>
    obtain ⟨t, ht⟩ := k
    refine ⟨t, ?_⟩
    cases t with
    | list => exact ht.imp fun xs q => s.seq q
    | tuple =>
      obtain ⟨xs, q⟩ := ht
      refine ⟨xs, ?_⟩
      rcases q with (h | ⟨o, h⟩) | h
      · exact .inl (.inl (s _ _ h))
      · exact .inl (.inr ⟨o, s _ _ h⟩)
      · exact .inr h
    | dict =>
      rcases ht with ⟨x, h⟩ | ⟨x, h⟩
      · exact .inl ⟨x, s _ _ h⟩
      · exact .inr ⟨x, s _ _ h⟩
    | _ => exact ht.elim
  | non => trivial
  | bl _ => trivial
  | int _ => trivial
  | str _ => exact k
  | _ => exact k.elim
def sp_check_name (K : PySem.W.Frag) (g : Ads) : Sp := fun vs H Q E => ∃ v, vs = [v] ∧ Knd K H v ∧ (isNameV v = true → ∀ H', Same H H' → Q v H') ∧
  (isNameV v = false → ∀ H' d, Same H H' → H d = none → H' d = some (.xd [("name", v)]) → E (.ref g.c_BadName) (some d) H')
theorem pf_check_name {K : PySem.W.Frag} {g : Ads} (vs : List V) (H : Hp) (Q : VK) (E : XK) (h : sp_check_name K g vs H Q E) : rw_check_name K g vs H Q E := by
  obtain ⟨v, rfl, hk, q1, q2⟩ := h
  refine ⟨rfl, ⟨v, rfl, hk, fun H' s => ?_⟩⟩
  cases e : isNameV v with
  | true => exact q1 e H' s
  | false => exact raise_at fun d hd => q2 e _ d (s.trans (Same.put hd)) (s.free hd) upd_same
def isOperV (v : V) : Bool := decide (v = .non) || isIntV v || isNameV v
def sp_check_operand (K : PySem.W.Frag) (g : Ads) : Sp := fun vs H Q E => ∃ v, vs = [v] ∧ Knd K H v ∧ (isOperV v = true → ∀ H', Same H H' → Q v H') ∧
  (isOperV v = false → ∀ H' d, Same H H' → H d = none → H' d = some (.xd [("value", v)]) → E (.ref g.c_BadValue) (some d) H')
theorem pf_check_operand {K : PySem.W.Frag} {g : Ads} (vs : List V) (H : Hp) (Q : VK) (E : XK) (h : sp_check_operand K g vs H Q E) : rw_check_operand K g vs H Q E := by
  obtain ⟨v, rfl, hk, q1, q2⟩ := h
  refine ⟨rfl, rfl, zite (fun h1 => ?_) (fun h1 => ?_)⟩
  · have n1 : ¬ v = .non := by simpa using h1
    refine ⟨v, rfl, hk, zite (fun h2 => ?_) (fun h2 => ?_)⟩
    · have e2 : isIntV v = false := by simpa using h2
      refine ⟨v, rfl, hk, fun H' s => zite (fun h3 => ?_) (fun h3 => ?_)⟩
      · have e3 : isNameV v = false := by simpa using h3
        exact raise_at fun d hd => q2 (by simp [isOperV, n1, e2, e3]) _ d (s.trans (Same.put hd)) (s.free hd) upd_same
      · exact q1 (by simp [isOperV] at h3 ⊢; simp [h3]) H' s
    · exact q1 (by simp [isOperV] at h2 ⊢; simp [h2]) H (Same.refl H)
  · exact q1 (by simp [isOperV] at h1 ⊢; simp [h1]) H (Same.refl H)
end Z
namespace Z
open PySem PySem.Spec PyProof.Rows L2
theorem sc_law_deck : FnScope ["script", "turn", "cell", "words", "mix", "k", "word", "one"] ["script", "turn"] (defScope s_law_deck) := ⟨rfl, rfl, rfl, by decide +kernel, rfl, by decide +kernel, by decide +kernel⟩
def R_law_deck_5 (K : PySem.W.Frag) (g : Ads) (E : XK) : TS :=
  (tAsg (tOp zMod (tCB rInt1 (tCons (tOp zAdd (tOp zAdd (tOp zMul (zVar 4) (tC (.int 69069))) (zVar 6)) (tOp zMul (tC (.int 17)) (zVar 5))) tNil)) (tC (.int 2147483629))) (gName 4))
def R_law_deck_6 (K : PySem.W.Frag) (g : Ads) (E : XK) : TS :=
  (tRet (tLst (tCons (tIf (zTest (tOp zGe (zVar 2) (tOp zPow (tC (.int 10)) (tC (.int 18))))) (zVar 2) (tC (.int 0))) (tCons (zVar 4) (tCons (zVar 3) (tCons (zVar 1) tNil))))))
def R_law_deck_4 (K : PySem.W.Frag) (g : Ads) (E : XK) : TS :=
  (tSeq (zFor (zEnum K (tCons (zVar 3) tNil)) (gTup K 2 (gCons (gName 5) (gCons (gName 6) gNil)))
  (R_law_deck_5 K g E))
  (R_law_deck_6 K g E))
def R_law_deck_3 (K : PySem.W.Frag) (g : Ads) (E : XK) : TS :=
  (tSeq (tAsg (tOp zAdd (tC (.int 271)) (tOp zMul (tC (.int 1009)) (zVar 1))) (gName 4))
  (R_law_deck_4 K g E))
def R_law_deck_2 (K : PySem.W.Frag) (g : Ads) (E : XK) : TS :=
  (tSeq (tAsg (zLc (iList K (tSl (rSlL K) (zVar 0) tNoPart (tPart (tC (.int 63))))) (gName 7) tYes (tOp zMod (tCB rAbs (tCons (tCB rInt1 (tCons (zVar 7) tNil)) tNil)) (tC (.int 2147483563))) [7]) (gName 3))
  (R_law_deck_3 K g E))
def R_law_deck (K : PySem.W.Frag) (g : Ads) (E : XK) : TS :=
  (tSeq (tAsg (tIf (zTest (tOp zLt (zVar 1) (tCB (zLen K) (tCons (zVar 0) tNil)))) (tCB rAbs (tCons (tCB rIntS (tCons (tOp (zIx K) (zVar 0) (zVar 1)) tNil)) tNil)) (tC (.int 0))) (gName 2))
  (R_law_deck_2 K g E))
def rw_law_deck (K : PySem.W.Frag) (g : Ads) : Sp := fun vs H Q E => vs.length = 2 ∧ R_law_deck K g E { nx := fun _ H' => Q .non H', rt := Q } (start ["script", "turn", "cell", "words", "mix", "k", "word", "one"] vs) H
theorem raw_law_deck {P : Program} [SupP P] {w : World} {K : PySem.W.Frag} {mg : Str → Option Value} {base : Heap} {g : Ads} (T : Txt K mg g) : FnG false P w K mg base 1 g.f_law_deck g.d_law_deck ["script", "turn"] (rw_law_deck K g) := by
  refine okZ T.f_law_deck sc_law_deck (fun vs H Q E h => h.1) (fun cdv A outer s H vs Q E hr hgu h => ⟨R_law_deck K g E, ?_, h.2⟩)
  exact (pss_cons (ps_set (i := 2) sc_law_deck.nd rfl (Or.inl rfl) (pe_ifExp (ptz_cmp op_zLt (zv 1) (pe_callB call_lenZ (by rfl) T.b_len (by decide +kernel) (pa_cons (zv 0) pa_nil)) (nomark _)) (pe_callB call_absZ (by rfl) T.b_abs (by decide +kernel) (pa_cons (pe_callTy call_intS (by rfl) T.b_int (by decide +kernel) (pa_cons (pe_ix ix_z (zv 0) (zv 1) (fun _ _ => rfl)) pa_nil)) pa_nil)) pe_int))
  (pss_cons (psz_setLc (i := 3) (own := [("one", 7)]) rfl sc_law_deck.nd rfl rfl (sw_true rfl rfl rfl (by decide +kernel)) (pi_list (pe_slice sl_list (zv 0) po_none (po_some pe_int))) (blkOk_by (own := [("one", 7)]) (N := ["script", "turn", "cell", "words", "mix", "k", "word", "one"]) (sc := defScope s_law_deck) (by decide +kernel)) (fun _ _ _ _ _ => pg_name (i := 7) sc_law_deck.nd rfl (Or.inl rfl)) (fun _ _ _ _ _ => pts_nil) (fun _ _ _ _ _ => (pe_op op_zMod (pe_callB call_absZ (by rfl) T.b_abs (by decide +kernel) (pa_cons (pe_callTy call_intZ (by rfl) T.b_int (by decide +kernel) (pa_cons (zv 7) pa_nil)) pa_nil)) pe_int)))
  (pss_cons (ps_set (i := 4) sc_law_deck.nd rfl (Or.inl rfl) (pe_op op_zAdd pe_int (pe_op op_zMul pe_int (zv 1))))
  (pss_cons (psz_for PassesOwn.leaving rfl (pi_zEnum (by rfl) T.b_enumerate (pa_cons (zv 3) pa_nil)) (pg_tup rfl (pgs_cons (pg_name (i := 5) sc_law_deck.nd rfl (Or.inl rfl)) (pgs_cons (pg_name (i := 6) sc_law_deck.nd rfl (Or.inl rfl)) pgs_nil)))
  (pss_one (ps_set (i := 4) sc_law_deck.nd rfl (Or.inl rfl) (pe_op op_zMod (pe_callTy call_intZ (by rfl) T.b_int (by decide +kernel) (pa_cons (pe_op op_zAdd (pe_op op_zAdd (pe_op op_zMul (zv 4) pe_int) (zv 6)) (pe_op op_zMul pe_int (zv 5))) pa_nil)) pe_int))))
  (pss_one (ps_ret (pe_lst (pa_cons (pe_ifExp (ptz_cmp op_zGe (zv 2) (pe_op op_zPow pe_int pe_int) (nomark _)) (zv 2) pe_int) (pa_cons (zv 4) (pa_cons (zv 3) (pa_cons (zv 1) pa_nil)))))))))))
theorem sc_law_draw : FnScope ["deck", "many", "digit", "words", "more"] ["deck", "many"] (defScope s_law_draw) := ⟨rfl, rfl, rfl, by decide +kernel, rfl, by decide +kernel, by decide +kernel⟩
def R_law_draw_3 (K : PySem.W.Frag) (g : Ads) (E : XK) : TS :=
  (tSeq (tAsg (tOp zFdiv (tOp (zIx K) (zVar 0) (tC (.int 0))) (zVar 1)) (gSub (zVar 0) (tC (.int 0)) rSetL))
  (tRet (zVar 2)))
def R_law_draw_2 (K : PySem.W.Frag) (g : Ads) (E : XK) : TS :=
  (tSeq (tAsg (tOp zMod (tCB rIntS (tCons (tOp (zIx K) (zVar 0) (tC (.int 0))) tNil)) (zVar 1)) (gName 2))
  (R_law_draw_3 K g E))
def R_law_draw_9 (K : PySem.W.Frag) (g : Ads) (E : XK) : TS :=
  (tRet (tOp zMod (tOp zFdiv (tOp zMod (tCB rInt1 (tCons (tOp zAdd (tOp zMul (tOp zFdiv (tOp (zIx K) (zVar 0) (tC (.int 1))) (tC (.int 7))) (tC (.int 48271))) (tOp (zIx K) (zVar 0) (tC (.int 3)))) tNil)) (tC (.int 2147483587))) (tC (.int 32))) (zVar 1)))
def R_law_draw_8 (K : PySem.W.Frag) (g : Ads) (E : XK) : TS :=
  (tSeq (tAsg (tOp zMod (tCB rInt1 (tCons (tOp zAdd (tOp zAdd (tOp zMul (tOp (zIx K) (zVar 0) (tC (.int 1))) (tC (.int 16807))) (zVar 4)) (tOp zMul (tC (.int 7)) (tOp (zIx K) (zVar 0) (tC (.int 3))))) tNil)) (tC (.int 2147483629))) (gSub (zVar 0) (tC (.int 1)) rSetL))
  (R_law_draw_9 K g E))
def R_law_draw_7 (K : PySem.W.Frag) (g : Ads) (E : XK) : TS :=
  (tSeq (tAsg (tIf (zTest (tOp (zNe K) (zVar 3) (tLst tNil))) (tOp (zIx K) (zVar 3) (tOp zMod (tCB rIntS (tCons (tOp (zIx K) (zVar 0) (tC (.int 3))) tNil)) (tCB (zLen K) (tCons (zVar 3) tNil)))) (tC (.int 0))) (gName 4))
  (R_law_draw_8 K g E))
def R_law_draw_6 (K : PySem.W.Frag) (g : Ads) (E : XK) : TS :=
  (tSeq (tAsg (tOp zAdd (tOp (zIx K) (zVar 0) (tC (.int 3))) (tC (.int 1))) (gSub (zVar 0) (tC (.int 3)) rSetL))
  (R_law_draw_7 K g E))
def R_law_draw_5 (K : PySem.W.Frag) (g : Ads) (E : XK) : TS :=
  (tSeq (tAsg (tOp (zIx K) (zVar 0) (tC (.int 2))) (gName 3))
  (R_law_draw_6 K g E))
def R_law_draw (K : PySem.W.Frag) (g : Ads) (E : XK) : TS :=
  (tSeq (tIfS (zTest (tOp zGt (tOp (zIx K) (zVar 0) (tC (.int 0))) (tC (.int 0))))
  (R_law_draw_2 K g E)
  tNext)
  (R_law_draw_5 K g E))
def rw_law_draw (K : PySem.W.Frag) (g : Ads) : Sp := fun vs H Q E => vs.length = 2 ∧ R_law_draw K g E { nx := fun _ H' => Q .non H', rt := Q } (start ["deck", "many", "digit", "words", "more"] vs) H
theorem raw_law_draw {P : Program} [SupP P] {w : World} {K : PySem.W.Frag} {mg : Str → Option Value} {base : Heap} {g : Ads} (T : Txt K mg g) : FnG false P w K mg base 1 g.f_law_draw g.d_law_draw ["deck", "many"] (rw_law_draw K g) := by
  refine okZ T.f_law_draw sc_law_draw (fun vs H Q E h => h.1) (fun cdv A outer s H vs Q E hr hgu h => ⟨R_law_draw K g E, ?_, h.2⟩)
  exact (pss_cons (ps_if (ptz_cmp op_zGt (pe_ix ix_z (zv 0) pe_int (fun _ _ => rfl)) pe_int (nomark _))
  (pss_cons (ps_set (i := 2) sc_law_draw.nd rfl (Or.inl rfl) (pe_op op_zMod (pe_callTy call_intS (by rfl) T.b_int (by decide +kernel) (pa_cons (pe_ix ix_z (zv 0) pe_int (fun _ _ => rfl)) pa_nil)) (zv 1)))
  (pss_cons (ps_asg (pe_op op_zFdiv (pe_ix ix_z (zv 0) pe_int (fun _ _ => rfl)) (zv 1)) (pg_sub (zv 0) pe_int set_list))
  (pss_one (ps_ret (zv 2)))))
  pss_nil)
  (pss_cons (ps_set (i := 3) sc_law_draw.nd rfl (Or.inl rfl) (pe_ix ix_z (zv 0) pe_int (fun _ _ => rfl)))
  (pss_cons (ps_asg (pe_op op_zAdd (pe_ix ix_z (zv 0) pe_int (fun _ _ => rfl)) pe_int) (pg_sub (zv 0) pe_int set_list))
  (pss_cons (ps_set (i := 4) sc_law_draw.nd rfl (Or.inl rfl) (pe_ifExp (ptz_cmp (op_zNe hr.units) (zv 3) (pe_lst pa_nil) (nomark _)) (pe_ix ix_z (zv 3) (pe_op op_zMod (pe_callTy call_intS (by rfl) T.b_int (by decide +kernel) (pa_cons (pe_ix ix_z (zv 0) pe_int (fun _ _ => rfl)) pa_nil)) (pe_callB call_lenZ (by rfl) T.b_len (by decide +kernel) (pa_cons (zv 3) pa_nil))) (fun _ _ => rfl)) pe_int))
  (pss_cons (ps_asg (pe_op op_zMod (pe_callTy call_intZ (by rfl) T.b_int (by decide +kernel) (pa_cons (pe_op op_zAdd (pe_op op_zAdd (pe_op op_zMul (pe_ix ix_z (zv 0) pe_int (fun _ _ => rfl)) pe_int) (zv 4)) (pe_op op_zMul pe_int (pe_ix ix_z (zv 0) pe_int (fun _ _ => rfl)))) pa_nil)) pe_int) (pg_sub (zv 0) pe_int set_list))
  (pss_one (ps_ret (pe_op op_zMod (pe_op op_zFdiv (pe_op op_zMod (pe_callTy call_intZ (by rfl) T.b_int (by decide +kernel) (pa_cons (pe_op op_zAdd (pe_op op_zMul (pe_op op_zFdiv (pe_ix ix_z (zv 0) pe_int (fun _ _ => rfl)) pe_int) pe_int) (pe_ix ix_z (zv 0) pe_int (fun _ _ => rfl))) pa_nil)) pe_int) pe_int) (zv 1)))))))))
/-! ### what is drawn from -/
def DeckAt (H : Hp) (p wa : Addr) : Prop := ∃ (c m t : Int) (ws : List Int), H p = some (.lst [.int c, .int m, .ref wa, .int t]) ∧ H wa = some (.lst (ws.map V.int)) ∧ ws.length ≤ 63 ∧ 0 ≤ c
def sp_law_deck (K : PySem.W.Frag) (g : Ads) : Sp := fun vs H Q E => ∃ (a : Addr) (ns : List Int) (t : Int), vs = [.ref a, .int t] ∧ SqL K H a (ns.map V.int) ∧ ns.length ≤ 63 ∧ 0 ≤ t ∧
  ∀ p wa H', H p = none → H wa = none → Same H H' → DeckAt H' p wa → Q (.ref p) H'
theorem cut_ints (ns : List Int) (lo hi : Option Int) : ∃ ms : List Int, cutV (ns.map V.int) lo hi = ms.map V.int ∧ ms.length ≤ ns.length := by
  refine ⟨(ns.drop (HT.sIx ns.length 0 lo)).take (HT.sIx ns.length ns.length hi - HT.sIx ns.length 0 lo), ?_, ?_⟩
  · simp [cutV, List.map_take, List.map_drop]
  · simp; omega
theorem pf_law_deck {K : PySem.W.Frag} {g : Ads} (vs : List V) (H : Hp) (Q : VK) (E : XK) (h : sp_law_deck K g vs H Q E) : rw_law_deck K g vs H Q E := by
  obtain ⟨a, ns, t, rfl, hS, hl, ht, q⟩ := h
  refine ⟨rfl, ⟨_, .inl hS, ?_⟩⟩
  -- behind the first statement: any cell
  have go : ∀ c : Int, 0 ≤ c → R_law_deck_2 K g E { nx := fun _ H' => Q .non H', rt := Q } [some (.ref a), some (.int t), some (.int c), none, none, none, none, none] H := by
    intro c hc
    refine ⟨63, rfl, a, _, rfl, hS, fun p hp => ?_⟩
    obtain ⟨ms, em, lm⟩ := cut_ints ns none (some 63)
    rw [em]
    refine ⟨p, rfl, ⟨_, .inl (.inl upd_same)⟩, lc_map (walk_list (xs := ms.map V.int)) (fun i => .int ((if ms.getD i 0 < 0 then -ms.getD i 0 else ms.getD i 0) % 2147483563)) ?_ (fun H' s => .inl (.inl (s _ _ upd_same))) (fun i x H0 H' hi s y => ?_) (fun D hD => ?_)⟩
    · rw [List.length_map]
      exact Nat.le_trans lm (Nat.le_trans hl (by decide))
    · obtain ⟨rfl, hx⟩ := y
      rw [List.getElem?_map] at hx
      cases e : ms[i]? with
      | none =>
        rw [e] at hx
        cases hx
      | some z =>
        rw [e] at hx
        cases hx
        refine ⟨rfl, _, fun R r => r, rfl, fun R r => r, fun R r => ⟨by decide, ?_⟩⟩
        have e2 : ms.getD i 0 = z := by simp [List.getD_eq_getElem?_getD, e]
        rw [e2] at r
        exact r
    · -- the words stand at D
      have hnp : D ≠ p := fun z => by
        rw [z, upd_same] at hD
        cases hD
      have hDn : H D = none := by
        rw [upd_ne hnp] at hD
        exact hD
      generalize hw : (List.range (ms.map V.int).length).map (fun i => (if ms.getD i 0 < 0 then -ms.getD i 0 else ms.getD i 0) % 2147483563) = ws
      have hw2 : (List.range (ms.map V.int).length).map (fun i => V.int ((if ms.getD i 0 < 0 then -ms.getD i 0 else ms.getD i 0) % 2147483563)) = ws.map V.int := by
        rw [← hw, List.map_map]
        rfl
      have lw : ws.length ≤ 63 := by
        rw [← hw]
        simp
        omega
      rw [hw2]
      have s1 : Same H (upd (upd H p (.lst (ms.map V.int))) D (.lst (ws.map V.int))) := (Same.put hp).trans (Same.put hD)
      refine ⟨.inl (by decide), D, _, rfl, .inl ⟨SqL.of upd_same, for_z walk_enum (fun i σ H2 => ∃ (m : Int) (v5 v6 : Option V), σ = [some (.ref a), some (.int t), some (.int c), some (.ref D), some (.int m), v5, v6, none] ∧ Same (upd (upd H p (.lst (ms.map V.int))) D (.lst (ws.map V.int))) H2)
        ⟨_, none, none, rfl, Same.refl _⟩ (fun i σ H2 _ ⟨_, _, _, _, s2⟩ => SqL.of (s2 _ _ upd_same)) ?_ ?_⟩⟩
      · rintro i x σ H2 H3 hi ⟨m, v5, v6, rfl, s2⟩ ⟨T, x1, x2, rfl, hT, rfl, e1, e2⟩
        cases e1
        have e2 : (ws.map V.int)[i]? = some x2 := e2
        rw [List.getElem?_map] at e2
        cases e : ws[i]? with
        | none =>
          rw [e] at e2
          cases e2
        | some z =>
          rw [e] at e2
          cases e2
          exact ⟨T, _, rfl, SqT.of upd_same, rfl, _, _, rfl, _, _, rfl, rfl, .inr (by decide), .inl (by decide), by decide, _, _, _, rfl, s2.trans (Same.put hT)⟩
      · rintro σ H2 ⟨m, v5, v6, rfl, s2⟩
        have fin : ∀ c' : Int, 0 ≤ c' → (4 ≤ sizeLine ∧ ∀ p2, H2 p2 = none → Q (.ref p2) (upd H2 p2 (.lst [.int c', .int m, .ref D, .int t]))) := by
          refine fun c' hc' => ⟨by decide, fun p2 hp2 => q _ D _ ((s1.trans s2).free hp2) hDn ((s1.trans s2).trans (Same.put hp2)) ⟨c', m, t, ws, upd_same, ?_, lw, hc'⟩⟩
          rw [upd_ne (ne_of_none (s2 _ _ upd_same) hp2)]
          exact s2 _ _ upd_same
        refine ⟨⟨by decide, by decide, by decide⟩, zite (fun _ => ?_) (fun _ => ?_)⟩
        · exact fin c hc
        · exact fin 0 (Int.le_refl 0)
  refine zite (fun h1 => ?_) (fun h1 => ?_)
  · have h1' : t < (ns.map V.int).length := by simpa using h1
    obtain ⟨k, rfl⟩ : ∃ k : Nat, t = k := ⟨t.toNat, by omega⟩
    have hk : k < ns.length := by
      rw [List.length_map] at h1'
      omega
    refine ⟨_, .int ns[k], .inl hS, atI_nat (by simp [hk]), ?_⟩
    exact go _ (by split <;> omega)
  · exact go 0 (Int.le_refl 0)
end Z
namespace Z
open PySem PySem.Spec PyProof.Rows L2
theorem deck_ne {H : Hp} {p wa : Addr} {c m t : Int} {ws : List Int} (h : H p = some (.lst [.int c, .int m, .ref wa, .int t])) (h2 : H wa = some (.lst (ws.map V.int))) : wa ≠ p := by
  intro e
  rw [e, h] at h2
  have z : [V.int c, .int m, .ref wa, .int t] = ws.map V.int := by
    injection h2 with h2
    injection h2
  have z2 : V.ref wa ∈ ws.map V.int := z ▸ (by simp)
  obtain ⟨x, _, hx⟩ := List.mem_map.mp z2
  cases hx
theorem divW {n : Int} (h0 : 0 < n) (h : n ≤ 1000000000000000000000000) : CDivW 1 n := wide_div h0 (b := 80) (by omega) (by decide) (by decide)
theorem dp_ints {K : PySem.W.Frag} {H : Hp} : ∀ ws : List Int, DpAll K H (ws.map V.int) (ws.map PyData.int)
  | [] => .nil
  | x :: r => .cons (.int x) (dp_ints r)
theorem lay_ints : ∀ ws : List Int, PyData.canLayAll0 (ws.map PyData.int) = true ∧ PyData.depthAll (ws.map PyData.int) = 0
  | [] => ⟨by simp only [List.map_nil, PyData.canLayAll0], by simp only [List.map_nil, PyData.depthAll]⟩
  | x :: r => by
    obtain ⟨h1, h2⟩ := lay_ints r
    constructor
    · simp only [List.map_cons, PyData.canLayAll0, PyData.canLay0, h1, Bool.and_self]
    · simp only [List.map_cons, PyData.depthAll, PyData.depth, h2, Nat.max_self]
theorem shaped_ints (ws : List Int) : SeqAt.shaped (.list (ws.map PyData.int)) = true := by
  obtain ⟨h1, h2⟩ := lay_ints ws
  simp only [SeqAt.shaped, PyData.canLay0, PyData.depth, h1, h2]
  decide
def sp_law_draw (K : PySem.W.Frag) (g : Ads) : Sp := fun vs H Q E => ∃ (p wa : Addr) (n : Int), vs = [.ref p, .int n] ∧ DeckAt H p wa ∧ 0 < n ∧ n ≤ 1000000000000000000000000 ∧
  ∀ r H', 0 ≤ r → r < n → DeckAt H' p wa → But p H H' → Q (.int r) H'
theorem pf_law_draw {K : PySem.W.Frag} {g : Ads} (vs : List V) (H : Hp) (Q : VK) (E : XK) (h : sp_law_draw K g vs H Q E) : rw_law_draw K g vs H Q E := by
  obtain ⟨p, wa, n, rfl, ⟨c, m, t, ws, h1, h2, h3, h4⟩, n0, n1, q⟩ := h
  have hne := deck_ne h1 h2
  refine ⟨rfl, ⟨_, _, .inl (SqL.of h1), rfl, zite (fun hc => ?_) (fun hc => ?_)⟩⟩
  · refine ⟨_, _, .inl (SqL.of h1), rfl, n0, _, _, .inl (SqL.of h1), rfl, divW n0 n1, p, _, _, _, rfl, rfl, h1, rfl, ?_⟩
    refine q _ _ (Int.emod_nonneg _ (by omega)) (Int.emod_lt_of_pos _ n0) ⟨c / n, m, t, ws, upd_same, ?_, h3, Int.ediv_nonneg h4 (by omega)⟩ But.put
    rw [upd_ne hne]
    exact h2
  · refine ⟨_, _, .inl (SqL.of h1), rfl, _, _, .inl (SqL.of h1), rfl, p, _, _, _, rfl, rfl, h1, rfl, ?_⟩
    -- deck[3] is one more; what is drawn of the words is any int
    have go : ∀ (more : Int) (H1 : Hp), H1 p = some (.lst [.int c, .int m, .ref wa, .int (t + 1)]) → H1 wa = some (.lst (ws.map V.int)) → But p H H1 →
        R_law_draw_8 K g E { nx := fun _ H' => Q .non H', rt := Q } [some (.ref p), some (.int n), none, some (.ref wa), some (.int more)] H1 := by
      intro more H1 a1 a2 a3
      refine ⟨_, _, .inl (SqL.of a1), rfl, .inr (by decide), _, _, .inl (SqL.of a1), rfl, .inl (by decide), by decide, p, _, _, _, rfl, rfl, a1, rfl, ?_⟩
      refine ⟨_, _, .inl (SqL.of upd_same), rfl, ⟨by decide, by decide⟩, .inr (by decide), _, _, .inl (SqL.of upd_same), rfl, by decide, ⟨by decide, by decide⟩, n0, ?_⟩
      refine q _ _ (Int.emod_nonneg _ (by omega)) (Int.emod_lt_of_pos _ n0) ⟨c, _, t + 1, ws, upd_same, ?_, h3, h4⟩ (a3.trans But.put)
      rw [upd_ne hne]
      exact a2
    have g1 : (upd H p (.lst [.int c, .int m, .ref wa, .int (t + 1)])) wa = some (.lst (ws.map V.int)) := by
      rw [upd_ne hne]
      exact h2
    refine ⟨by decide, fun b hb => .inr ⟨_, _, .lst (SqL.of ?_) (dp_ints ws), .lst (SqL.of upd_same) .nil, shaped_ints ws, by decide +kernel, ?_⟩⟩
    · rw [upd_ne (ne_of_none g1 hb)]
      exact g1
    · have np : p ≠ b := ne_of_none upd_same hb
      have g2 : (upd (upd H p (.lst [.int c, .int m, .ref wa, .int (t + 1)])) b (.lst [])) p = some (.lst [.int c, .int m, .ref wa, .int (t + 1)]) := by rw [upd_ne np, upd_same]
      have g3 : (upd (upd H p (.lst [.int c, .int m, .ref wa, .int (t + 1)])) b (.lst [])) wa = some (.lst (ws.map V.int)) := by
        rw [upd_ne (ne_of_none g1 hb)]
        exact g1
      have g4 : But p H (upd (upd H p (.lst [.int c, .int m, .ref wa, .int (t + 1)])) b (.lst [])) := But.put.trans (But.same (Same.put hb))
      cases ws with
      | nil => exact go 0 _ g2 g3 g4
      | cons x r =>
        have l0 : (0 : Int) < (((x :: r).map V.int).length : Nat) := by
          rw [List.length_map, List.length_cons]
          omega
        have hlt := Int.emod_lt_of_pos (t + 1) l0
        have hge := Int.emod_nonneg (t + 1) (show ((((x :: r).map V.int).length : Nat) : Int) ≠ 0 by omega)
        obtain ⟨k, hk⟩ : ∃ k : Nat, (t + 1) % ((((x :: r).map V.int).length : Nat) : Int) = k := ⟨((t + 1) % ((((x :: r).map V.int).length : Nat) : Int)).toNat, by omega⟩
        have hkl : k < (x :: r).length := by
          rw [hk, List.length_map] at hlt
          omega
        refine ⟨_, _, .inl (SqL.of g2), rfl, _, .inl (SqL.of g3), l0, _, .int (x :: r)[k], .inl (SqL.of g3), ?_, go _ _ g2 g3 g4⟩
        rw [hk]
        exact atI_nat (by rw [List.getElem?_map, List.getElem?_eq_getElem hkl]; rfl)
end Z
namespace Z
open PySem PySem.Spec PyProof.Rows L2
section
variable {P : Program} [SupP P] {w : World} {K : PySem.W.Frag} {mg : Str → Option Value} {base : Heap} {g : Ads}
theorem ok_check_name (T : Txt K mg g) : FnG false P w K mg base 3 g.f_check_name g.d_check_name ["thing"] (sp_check_name K g) := (raw_check_name T).imp pf_check_name
theorem ok_check_operand (T : Txt K mg g) : FnG false P w K mg base 3 g.f_check_operand g.d_check_operand ["thing"] (sp_check_operand K g) := (raw_check_operand T).imp pf_check_operand
theorem ok_law_deck (T : Txt K mg g) : FnG false P w K mg base 1 g.f_law_deck g.d_law_deck ["script", "turn"] (sp_law_deck K g) := (raw_law_deck T).imp pf_law_deck
theorem ok_law_draw (T : Txt K mg g) : FnG false P w K mg base 1 g.f_law_draw g.d_law_draw ["deck", "many"] (sp_law_draw K g) := (raw_law_draw T).imp pf_law_draw
end
theorem sc_law_of : FnScope ["deck", "some"] ["deck", "some"] (defScope s_law_of) := ⟨rfl, rfl, rfl, by decide +kernel, rfl, by decide +kernel, by decide +kernel⟩
def R_law_of (K : PySem.W.Frag) (g : Ads) (E : XK) : TS :=
  (tRet (tOp (zIx K) (zVar 1) (zCall (sp_law_draw K g) [] (WE (fun cls d _ H => E cls d H)) (tCons (zVar 0) (tCons (tCB (zLen K) (tCons (zVar 1) tNil)) tNil)))))
def rw_law_of (K : PySem.W.Frag) (g : Ads) : Sp := fun vs H Q E => vs.length = 2 ∧ R_law_of K g E { nx := fun _ H' => Q .non H', rt := Q } (start ["deck", "some"] vs) H
theorem raw_law_of {P : Program} [SupP P] {w : World} {K : PySem.W.Frag} {mg : Str → Option Value} {base : Heap} {g : Ads} (T : Txt K mg g) : FnG false P w K mg base 2 g.f_law_of g.d_law_of ["deck", "some"] (rw_law_of K g) := by
  refine okZ T.f_law_of sc_law_of (fun vs H Q E h => h.1) (fun cdv A outer s H vs Q E hr hgu h => ⟨R_law_of K g E, ?_, h.2⟩)
  exact (pss_one (ps_ret (pe_ix ix_z (zv 1) (pe_callZ (ok_law_draw T) (hr.mono (by decide)) (fun z => nomatch z) rfl T.g_law_draw T.k_law_draw T.e_law_draw .nil (fun σ => passAt (takes_of rfl rfl rfl rfl) σ) (pa_cons (zv 0) (pa_cons (pe_callB call_lenZ (by rfl) T.b_len (by decide +kernel) (pa_cons (zv 1) pa_nil)) pa_nil))) (fun _ _ => rfl))))
theorem But.seq {K : PySem.W.Frag} {p a : Addr} {H H' : Hp} {xs : List V} (b : But p H H') (n : a ≠ p) (h : SqL K H a xs) : SqL K H' a xs := by
  rcases h with (h | ⟨o, h⟩) | h
  · exact .inl (.inl (b _ _ h n))
  · exact .inl (.inr ⟨o, b _ _ h n⟩)
  · exact .inr h
theorem But.tup {K : PySem.W.Frag} {p a : Addr} {H H' : Hp} {xs : List V} (b : But p H H') (n : a ≠ p) (h : SqT K H a xs) : SqT K H' a xs := by
  rcases h with (h | ⟨o, h⟩) | h
  · exact .inl (.inl (b _ _ h n))
  · exact .inl (.inr ⟨o, b _ _ h n⟩)
  · exact .inr h
theorem DeckAt.same {H H' : Hp} {p wa : Addr} (d : DeckAt H p wa) (s : Same H H') : DeckAt H' p wa := by
  obtain ⟨c, m, t, ws, h1, h2, h3, h4⟩ := d
  exact ⟨c, m, t, ws, s _ _ h1, s _ _ h2, h3, h4⟩
theorem DeckAt.ne {H : Hp} {p wa b : Addr} (d : DeckAt H p wa) (n : H b = none) : b ≠ p := by
  obtain ⟨c, m, t, ws, h1, h2, h3, h4⟩ := d
  exact (ne_of_none h1 n).symm
/-- an item by a drawn place -/
theorem drawn_at {xs : List V} {r : Int} (h0 : 0 ≤ r) (h1 : r < (xs.length : Int)) : ∃ (j : Nat) (x : V), xs[j]? = some x ∧ atI xs r = some x := by
  obtain ⟨k, rfl⟩ : ∃ k : Nat, r = k := ⟨r.toNat, by omega⟩
  have hk : k < xs.length := by omega
  exact ⟨k, xs[k], List.getElem?_eq_getElem hk, atI_nat (List.getElem?_eq_getElem hk)⟩
def sp_law_of (K : PySem.W.Frag) (g : Ads) : Sp := fun vs H Q E => ∃ (p wa a : Addr) (xs : List V), vs = [.ref p, .ref a] ∧ DeckAt H p wa ∧ (SqL K H a xs ∨ SqT K H a xs) ∧ a ≠ p ∧ xs ≠ [] ∧ xs.length ≤ 1000000 ∧
  ∀ (j : Nat) x H', xs[j]? = some x → DeckAt H' p wa → But p H H' → Q x H'
theorem pf_law_of {K : PySem.W.Frag} {g : Ads} (vs : List V) (H : Hp) (Q : VK) (E : XK) (h : sp_law_of K g vs H Q E) : rw_law_of K g vs H Q E := by
  obtain ⟨p, wa, a, xs, rfl, hd, ha, hne, hx, hl, q⟩ := h
  have l0 : 0 < xs.length := List.length_pos_iff.mpr hx
  refine ⟨rfl, ⟨xs, ha, p, wa, _, rfl, hd, by omega, by omega, fun r H' r0 r1 d' b' => ?_⟩⟩
  obtain ⟨j, x, e1, e2⟩ := drawn_at r0 r1
  refine ⟨xs, x, ?_, e2, q j x H' e1 d' b'⟩
  exact ha.elim (fun z => .inl (b'.seq hne z)) fun z => .inr (b'.tup hne z)
theorem ok_law_of {P : Program} [SupP P] {w : World} {K : PySem.W.Frag} {mg : Str → Option Value} {base : Heap} {g : Ads} (T : Txt K mg g) : FnG false P w K mg base 2 g.f_law_of g.d_law_of ["deck", "some"] (sp_law_of K g) := (raw_law_of T).imp pf_law_of
theorem two_of {x : V} {a b : V} {j : Nat} (h : [a, b][j]? = some x) : x = a ∨ x = b := by
  match j, h with
  | 0, h => exact .inl (Option.some.inj h).symm
  | 1, h => exact .inr (Option.some.inj h).symm
  | j + 2, h => simp at h
theorem sc_law_names : FnScope ["deck", "many", "letters", "stem", "first", "is_ahead", "turn", "found", "k", "at", "two"] ["deck", "many"] (defScope s_law_names) := ⟨rfl, rfl, rfl, by decide +kernel, rfl, by decide +kernel, by decide +kernel⟩
def R_law_names_4 (K : PySem.W.Frag) (g : Ads) (E : XK) : TS :=
  (tAsg (tOp zAdd (zVar 3) (zCall (sp_law_of K g) [] (WE (fun cls d _ H => E cls d H)) (tCons (zVar 0) (tCons (tLst (tCons (tC (.str "a")) (tCons (tC (.str "z")) (tCons (tC (.str "q")) (tCons (tC (.str "m")) tNil))))) tNil)))) (gName 3))
def R_law_names_9 (K : PySem.W.Frag) (g : Ads) (E : XK) : TS :=
  (tDrop (tBM K "list" rAppend (zVar 7) (tCons (tIf (zTru K (zVar 5)) (tOp zAdd (zVar 10) (zVar 3)) (tOp zAdd (zVar 3) (zVar 10))) tNil)))
def R_law_names_8 (K : PySem.W.Frag) (g : Ads) (E : XK) : TS :=
  (tSeq (tAsg (tOp zAdd (tOp (zIx K) (zVar 2) (tOp zFdiv (zVar 9) (tC (.int 26)))) (tOp (zIx K) (zVar 2) (tOp zMod (zVar 9) (tC (.int 26))))) (gName 10))
  (R_law_names_9 K g E))
def R_law_names_7 (K : PySem.W.Frag) (g : Ads) (E : XK) : TS :=
  (tSeq (tAsg (tOp zMod (tOp zAdd (zVar 4) (tOp zMul (tC (.int 7)) (zVar 8))) (tC (.int 676))) (gName 9))
  (R_law_names_8 K g E))
def R_law_names_6 (K : PySem.W.Frag) (g : Ads) (E : XK) : TS :=
  (tSeq (zFor (iRng1 (tCons (zVar 1) tNil)) (gName 8)
  (R_law_names_7 K g E))
  (tRet (zVar 7)))
def R_law_names_5 (K : PySem.W.Frag) (g : Ads) (E : XK) : TS :=
  (tSeq (tAsg (tLst tNil) (gName 7))
  (R_law_names_6 K g E))
def R_law_names_3 (K : PySem.W.Frag) (g : Ads) (E : XK) : TS :=
  (tSeq (zFor (iRng1 (tCons (zCall (sp_law_draw K g) [] (WE (fun cls d _ H => E cls d H)) (tCons (zVar 0) (tCons (tC (.int 7)) tNil))) tNil)) (gName 6)
  (R_law_names_4 K g E))
  (R_law_names_5 K g E))
def R_law_names_2 (K : PySem.W.Frag) (g : Ads) (E : XK) : TS :=
  (tSeq (tPar3 3 4 5 (tCons (tC (.str "")) (tCons (zCall (sp_law_draw K g) [] (WE (fun cls d _ H => E cls d H)) (tCons (zVar 0) (tCons (tC (.int 676)) tNil))) (tCons (tOp (zEq K) (zCall (sp_law_draw K g) [] (WE (fun cls d _ H => E cls d H)) (tCons (zVar 0) (tCons (tC (.int 2)) tNil))) (tC (.int 0))) tNil))))
  (R_law_names_3 K g E))
def R_law_names (K : PySem.W.Frag) (g : Ads) (E : XK) : TS :=
  (tSeq (tAsg (tC (.str "abcdefghijklmnopqrstuvwxyz")) (gName 2))
  (R_law_names_2 K g E))
def rw_law_names (K : PySem.W.Frag) (g : Ads) : Sp := fun vs H Q E => vs.length = 2 ∧ R_law_names K g E { nx := fun _ H' => Q .non H', rt := Q } (start ["deck", "many", "letters", "stem", "first", "is_ahead", "turn", "found", "k", "at", "two"] vs) H
theorem raw_law_names {P : Program} [SupP P] {w : World} {K : PySem.W.Frag} {mg : Str → Option Value} {base : Heap} {g : Ads} (T : Txt K mg g) : FnG false P w K mg base 3 g.f_law_names g.d_law_names ["deck", "many"] (rw_law_names K g) := by
  refine okZ T.f_law_names sc_law_names (fun vs H Q E h => h.1) (fun cdv A outer s H vs Q E hr hgu h => ⟨R_law_names K g E, ?_, h.2⟩)
  exact (pss_cons (ps_set (i := 2) sc_law_names.nd rfl (Or.inl rfl) pe_str)
  (pss_cons (ps_par3 (i := 3) (j := 4) (l := 5) (by rfl) sc_law_names.nd rfl rfl rfl (by decide) (by decide) (by decide) rfl rfl rfl (pa_cons pe_str (pa_cons (pe_callZ (ok_law_draw T) (hr.mono (by decide)) (fun z => nomatch z) rfl T.g_law_draw T.k_law_draw T.e_law_draw .nil (fun σ => passAt (takes_of rfl rfl rfl rfl) σ) (pa_cons (zv 0) (pa_cons pe_int pa_nil))) (pa_cons (pe_cmpR (op_zEq hr.units) (pe_callZ (ok_law_draw T) (hr.mono (by decide)) (fun z => nomatch z) rfl T.g_law_draw T.k_law_draw T.e_law_draw .nil (fun σ => passAt (takes_of rfl rfl rfl rfl) σ) (pa_cons (zv 0) (pa_cons pe_int pa_nil))) pe_int (nomark _)) pa_nil))) (by rfl))
  (pss_cons (psz_for PassesOwn.leaving rfl (pi_range1 rfl T.b_range (pa_cons (pe_callZ (ok_law_draw T) (hr.mono (by decide)) (fun z => nomatch z) rfl T.g_law_draw T.k_law_draw T.e_law_draw .nil (fun σ => passAt (takes_of rfl rfl rfl rfl) σ) (pa_cons (zv 0) (pa_cons pe_int pa_nil))) pa_nil)) (pg_name (i := 6) sc_law_names.nd rfl (Or.inl rfl))
  (pss_one (ps_set (i := 3) sc_law_names.nd rfl (Or.inl rfl) (pe_op op_zAdd (zv 3) (pe_callZ (ok_law_of T) (hr.mono (by decide)) (fun z => nomatch z) rfl T.g_law_of T.k_law_of T.e_law_of .nil (fun σ => passAt (takes_of rfl rfl rfl rfl) σ) (pa_cons (zv 0) (pa_cons (pe_lst (pa_cons pe_str (pa_cons pe_str (pa_cons pe_str (pa_cons pe_str pa_nil))))) pa_nil)))))))
  (pss_cons (ps_set (i := 7) sc_law_names.nd rfl (Or.inl rfl) (pe_lst pa_nil))
  (pss_cons (psz_for PassesOwn.leaving rfl (pi_range1 rfl T.b_range (pa_cons (zv 1) pa_nil)) (pg_name (i := 8) sc_law_names.nd rfl (Or.inl rfl))
  (pss_cons (ps_set (i := 9) sc_law_names.nd rfl (Or.inl rfl) (pe_op op_zMod (pe_op op_zAdd (zv 4) (pe_op op_zMul pe_int (zv 8))) pe_int))
  (pss_cons (ps_set (i := 10) sc_law_names.nd rfl (Or.inl rfl) (pe_op op_zAdd (pe_ix ix_z (zv 2) (pe_op op_zFdiv (zv 9) pe_int) (fun _ _ => rfl)) (pe_ix ix_z (zv 2) (pe_op op_zMod (zv 9) pe_int) (fun _ _ => rfl))))
  (pss_one (ps_expr (pe_bm PySem.F.plainAttrs_list PySem.F.slot_list_append PySem.F.type_list_append mt_append (zv 7) (pa_cons (pe_ifExp (ptz_truth (zv 5) (by intro _; rfl)) (pe_op op_zAdd (zv 10) (zv 3)) (pe_op op_zAdd (zv 3) (zv 10))) pa_nil)))))))
  (pss_one (ps_ret (zv 7))))))))
/-! ### texts of letters -/
abbrev abc : Str := "abcdefghijklmnopqrstuvwxyz"
theorem abc_at : ∀ i : Nat, i < 26 → abc.cps.toList[i]? = some (97 + i) := by decide +kernel
theorem abc_len : abc.length = 26 := by decide +kernel
theorem abc_ix {i : Int} (h0 : 0 ≤ i) (h1 : i < 26) : atI abc.cps.toList i = some (97 + i.toNat) := by
  obtain ⟨k, rfl⟩ : ∃ k : Nat, i = k := ⟨i.toNat, by omega⟩
  exact atI_nat (abc_at k (by omega))
/-- signs below 128 -/
def Asc (z : Str) : Prop := ∀ c ∈ z.cps.toList, c < 128
theorem Asc.app {x y : Str} (a : Asc x) (b : Asc y) : Asc (x ++ y) := fun c hc => by
  have e : (x ++ y).cps.toList = x.cps.toList ++ y.cps.toList := by
    show (x.cps ++ y.cps).toList = _
    simp
  rw [e] at hc
  exact (List.mem_append.mp hc).elim (a c) (b c)
theorem Asc.cut {x : Str} (a : Asc x) (lo hi : Option Int) : Asc (cutS x lo hi) := fun c hc => by
  have hc' : c ∈ (x.cps.toList.drop (HT.sIx x.length 0 lo)).take (HT.sIx x.length x.length hi - HT.sIx x.length 0 lo) := by simpa [cutS] using hc
  exact a c (List.mem_of_mem_drop (List.mem_of_mem_take hc'))
theorem asc_one {c : Nat} (h : c < 128) : Asc ⟨#[c]⟩ := fun d hd => by
  have e : d = c := by simpa using hd
  omega
theorem len_app (x y : Str) : (x ++ y).length = x.length + y.length := by
  show (x.cps ++ y.cps).size = x.cps.size + y.cps.size
  simp
theorem len_one (c : Nat) : (⟨#[c]⟩ : Str).length = 1 := rfl
/-- a word of the names that are drawn: two letters ahead of a stem, or behind it -/
def twoOf (first : Int) (k : Nat) : Str := ⟨#[97 + ((first + 7 * (k : Int)) % 676 / 26).toNat]⟩ ++ ⟨#[97 + ((first + 7 * (k : Int)) % 676 % 26).toNat]⟩
def nmOf (ahead : Bool) (stem : Str) (first : Int) (k : Nat) : Str := if ahead = true then twoOf first k ++ stem else stem ++ twoOf first k
def Stem (z : Str) : Prop := z.length ≤ 6 ∧ ∀ c ∈ z.cps.toList, c = 97 ∨ c = 122 ∨ c = 113 ∨ c = 109
def sp_law_names (K : PySem.W.Frag) (g : Ads) : Sp := fun vs H Q E => ∃ (p wa : Addr) (n : Int), vs = [.ref p, .int n] ∧ DeckAt H p wa ∧ 0 ≤ n ∧ n ≤ 1000 ∧
  ∀ (ah : Bool) (stem : Str) (first : Int) (D : Addr) (H' : Hp), Stem stem → 0 ≤ first → first < 676 → DeckAt H' p wa → But p H H' → H D = none →
    H' D = some (.lst ((List.range n.toNat).map fun k => V.str (nmOf ah stem first k))) → Q (.ref D) H'
theorem four_of {x a b c d : V} {j : Nat} (h : [a, b, c, d][j]? = some x) : x = a ∨ x = b ∨ x = c ∨ x = d := by
  match j, h with
  | 0, h => exact .inl (Option.some.inj h).symm
  | 1, h => exact .inr (.inl (Option.some.inj h).symm)
  | 2, h => exact .inr (.inr (.inl (Option.some.inj h).symm))
  | 3, h => exact .inr (.inr (.inr (Option.some.inj h).symm))
  | j + 4, h => simp at h
theorem pf_law_names {K : PySem.W.Frag} {g : Ads} (vs : List V) (H : Hp) (Q : VK) (E : XK) (h : sp_law_names K g vs H Q E) : rw_law_names K g vs H Q E := by
  obtain ⟨p, wa, n, rfl, hd, n0, n1, q⟩ := h
  refine ⟨rfl, p, wa, _, rfl, hd, by decide, by decide, fun first H1 r0 r1 d1 b1 => ⟨p, wa, _, rfl, d1, by decide, by decide, fun ra H2 r2 r3 d2 b2 => .inl ⟨rfl, _, _, _, rfl, ?_⟩⟩⟩
  refine ⟨p, wa, _, rfl, d2, by decide, by decide, fun r4 H3 r5 r6 d3 b3 => ⟨r4, rfl, by omega, by omega, for_z (walk_range (lo := 0) (n := r4.toNat)) (fun i σ H4 => ∃ (stem : Str) (v : Option V),
    σ = [some (.ref p), some (.int n), some (.str abc), some (.str stem), some (.int first), some (.bl (decide (V.int ra = V.int 0))), v, none, none, none, none] ∧ stem.length ≤ i ∧ (∀ c ∈ stem.cps.toList, c = 97 ∨ c = 122 ∨ c = 113 ∨ c = 109) ∧ DeckAt H4 p wa ∧ But p H H4)
    ⟨"", none, rfl, Nat.le_refl _, (fun c hc => absurd hc (by simp [show ("" : Str).cps = #[] from rfl])), d3, (b1.trans b2).trans b3⟩ (fun _ _ _ _ _ => trivial) ?_ ?_⟩⟩
  · rintro i x σ H4 H5 hi ⟨stem, v, rfl, f0, f1, d4, b4⟩ ⟨rfl, rfl⟩
    refine ⟨by decide, fun l hl => ⟨p, wa, l, _, rfl, d4.same (Same.put hl), .inl (SqL.of upd_same), d4.ne hl, by simp, by decide, fun j x H6 hx d6 b6 => ?_⟩⟩
    have b7 : But p H H6 := (b4.trans (But.same (Same.put hl))).trans b6
    have hi6 : i < 6 := by omega
    have key : ∀ c : Nat, (c = 97 ∨ c = 122 ∨ c = 113 ∨ c = 109) → x = .str ⟨#[c]⟩ → zAdd (.str stem) x H6 fun z H7 => ∃ (stem' : Str) (v' : Option V),
        [some (V.ref p), some (.int n), some (.str abc), some z, some (.int first), some (.bl (decide (V.int ra = V.int 0))), some (.int (0 + (i : Int))), none, none, none, none] =
          [some (V.ref p), some (.int n), some (.str abc), some (.str stem'), some (.int first), some (.bl (decide (V.int ra = V.int 0))), v', none, none, none, none] ∧
          stem'.length ≤ i + 1 ∧ (∀ c ∈ stem'.cps.toList, c = 97 ∨ c = 122 ∨ c = 113 ∨ c = 109) ∧ DeckAt H7 p wa ∧ But p H H7 := by
      rintro c hc rfl
      refine ⟨?_, _, _, rfl, ?_, ?_, d6, b7⟩
      · rw [len_one]
        exact Nat.le_trans (show stem.length + 1 ≤ 7 by omega) (by decide)
      · rw [len_app, len_one]
        omega
      · intro d hd
        have e : (stem ++ (⟨#[c]⟩ : Str)).cps.toList = stem.cps.toList ++ [c] := by
          show (stem.cps ++ #[c]).toList = _
          simp
        rw [e] at hd
        rcases List.mem_append.mp hd with z | z
        · exact f1 d z
        · have e2 : d = c := by simpa using z
          rw [e2]
          exact hc
    rcases four_of hx with e | e | e | e
    · exact key 97 (by simp) e
    · exact key 122 (by simp) e
    · exact key 113 (by simp) e
    · exact key 109 (by simp) e
  · rintro σ H4 ⟨stem, v, rfl, f0, f1, d4, b4⟩
    have hst : Stem stem := ⟨by omega, f1⟩
    refine ⟨by decide, fun D hD => ?_⟩
    have hDH : H D = none := by
      cases e : H D with
      | none => rfl
      | some o =>
        by_cases z : D = p
        · exact absurd z (d4.ne hD)
        · have := b4 D o e z
          rw [hD] at this
          cases this
    have hDp : D ≠ p := d4.ne hD
    refine ⟨n, rfl, by omega, by omega, for_z (walk_range (lo := 0) (n := n.toNat)) (fun i σ H5 => ∃ (v6 v8 v9 v10 : Option V),
      σ = [some (.ref p), some (.int n), some (.str abc), some (.str stem), some (.int first), some (.bl (decide (V.int ra = V.int 0))), v6, some (.ref D), v8, v9, v10] ∧
        H5 D = some (.lst ((List.range i).map fun k => V.str (nmOf (decide (V.int ra = V.int 0)) stem first k))) ∧ DeckAt H5 p wa ∧ But p H H5)
      ⟨v, none, none, none, rfl, upd_same, d4.same (Same.put hD), b4.trans (But.same (Same.put hD))⟩ (fun _ _ _ _ _ => trivial) ?_ ?_⟩
    · rintro i x σ H5 H6 hi ⟨v6, v8, v9, v10, rfl, g1, g2, g3⟩ ⟨rfl, rfl⟩
      have q0 := Int.emod_nonneg (first + 7 * (0 + (i : Int))) (show (676 : Int) ≠ 0 by decide)
      have q1 := Int.emod_lt_of_pos (first + 7 * (0 + (i : Int))) (show (0 : Int) < 676 by decide)
      refine ⟨.inl (by decide), by decide, ⟨by decide, by decide⟩, by decide, _, abc_ix (by omega) (by omega), by decide, by decide, _, abc_ix (by omega) (by omega), (show 2 ≤ sizeLine by decide), ?_⟩
      have hin : (List.range i).length < sizeLine := by
        rw [List.length_range]
        exact Nat.lt_of_lt_of_le (show i < 1000 by omega) (by decide)
      have hwD : wa ≠ D := by
        obtain ⟨c, m, t, ws, a1, a2, a3, a4⟩ := d4
        exact ne_of_none a2 hD
      have hfin : ∀ z : Str, z = nmOf (decide (V.int ra = V.int 0)) stem first i →
          (upd H6 D (.lst (((List.range i).map fun k => V.str (nmOf (decide (V.int ra = V.int 0)) stem first k)) ++ [.str z]))) D =
            some (.lst ((List.range (i + 1)).map fun k => V.str (nmOf (decide (V.int ra = V.int 0)) stem first k))) ∧
          DeckAt (upd H6 D (.lst (((List.range i).map fun k => V.str (nmOf (decide (V.int ra = V.int 0)) stem first k)) ++ [.str z]))) p wa ∧
          But p H (upd H6 D (.lst (((List.range i).map fun k => V.str (nmOf (decide (V.int ra = V.int 0)) stem first k)) ++ [.str z]))) := by
        rintro z rfl
        refine ⟨?_, ?_, ?_⟩
        · rw [upd_same, List.range_succ, List.map_append]
          rfl
        · obtain ⟨c, m, t, ws, a1, a2, a3, a4⟩ := g2
          exact ⟨c, m, t, ws, by rw [upd_ne hDp.symm]; exact a1, by rw [upd_ne hwD]; exact a2, a3, a4⟩
        · intro b o e nb
          rw [upd_ne (ne_of_none e hDH)]
          exact g3 b o e nb
      have hln : ((List.range i).map fun k => V.str (nmOf (decide (V.int ra = V.int 0)) stem first k)).length < sizeLine := by
        rw [List.length_map]
        exact hin
      have e0 : (0 : Int) + (i : Int) = (i : Int) := Int.zero_add _
      have l2 : ∀ x y : Nat, ((⟨#[x]⟩ : Str) ++ ⟨#[y]⟩).length = 2 := fun x y => rfl
      have l6 : stem.length ≤ 6 := hst.1
      refine ⟨.inl ⟨rfl, _, SqL.of g1⟩, ?_⟩
      refine zite (fun ha => ?_) (fun ha => ?_)
      · have hz : ((⟨#[97 + ((first + 7 * (0 + (i : Int))) % 676 / 26).toNat]⟩ : Str) ++ (⟨#[97 + ((first + 7 * (0 + (i : Int))) % 676 % 26).toNat]⟩ : Str)) ++ stem = nmOf (decide (V.int ra = V.int 0)) stem first i := by
          rw [e0]
          simp only [nmOf, ha, if_true, twoOf]
        refine ⟨?_, D, _, _, rfl, rfl, g1, hln, v6, _, _, _, rfl, hfin _ hz⟩
        rw [l2]
        exact Nat.le_trans (show 2 + stem.length ≤ 8 by omega) (by decide)
      · have hz : stem ++ ((⟨#[97 + ((first + 7 * (0 + (i : Int))) % 676 / 26).toNat]⟩ : Str) ++ (⟨#[97 + ((first + 7 * (0 + (i : Int))) % 676 % 26).toNat]⟩ : Str)) = nmOf (decide (V.int ra = V.int 0)) stem first i := by
          rw [e0]
          simp only [nmOf, ha, twoOf]
          rfl
        refine ⟨?_, D, _, _, rfl, rfl, g1, hln, v6, _, _, _, rfl, hfin _ hz⟩
        rw [l2]
        exact Nat.le_trans (show stem.length + 2 ≤ 8 by omega) (by decide)
    · rintro σ H5 ⟨v6, v8, v9, v10, rfl, g1, g2, g3⟩
      exact q _ stem first D H5 hst r0 r1 g2 g3 hDH g1
end Z
namespace Z
open PySem PySem.Spec PyProof.Rows L2
theorem ok_law_names {P : Program} [SupP P] {w : World} {K : PySem.W.Frag} {mg : Str → Option Value} {base : Heap} {g : Ads} (T : Txt K mg g) : FnG false P w K mg base 3 g.f_law_names g.d_law_names ["deck", "many"] (sp_law_names K g) := (raw_law_names T).imp pf_law_names
/-! ### what comes of checks -/
inductive EK where
  | nm | vl | mn
def EK.c (g : Ads) : EK → Addr
  | .nm => g.c_BadName
  | .vl => g.c_BadValue
  | .mn => g.c_TooMany
def EK.f : EK → Str
  | .nm => "name"
  | .vl => "value"
  | .mn => "limit"
def EK.n : EK → Str
  | .nm => "BadName"
  | .vl => "BadValue"
  | .mn => "TooMany"
inductive Out where
  | ok : Out
  | err (k : EK) (v : V) (d : PyData) : Out
def Out.and : Out → Out → Out
  | .ok, o => o
  | e, _ => e
/-- checks, in their order: of a name (true) or of an operand -/
def chk : List (Bool × V × PyData) → Out
  | [] => .ok
  | c :: r => if c.1 = true then (if isNameV c.2.1 = true then chk r else .err .nm c.2.1 c.2.2) else (if isOperV c.2.1 = true then chk r else .err .vl c.2.1 c.2.2)
def chkOps (cs : List (V × PyData)) : Out := (chk (cs.map fun c => (false, c))).and (if cs.length ≤ 3 then .ok else .err .mn (.int 3) (.int 3))
theorem chk_app : ∀ a b : List (Bool × V × PyData), chk (a ++ b) = (chk a).and (chk b)
  | [], b => rfl
  | c :: r, b => by
    have ih := chk_app r b
    rw [List.cons_append]
    have e : ∀ l, chk (c :: l) = if c.1 = true then (if isNameV c.2.1 = true then chk l else .err .nm c.2.1 c.2.2) else (if isOperV c.2.1 = true then chk l else .err .vl c.2.1 c.2.2) := fun l => rfl
    rw [e, e]
    split
    · split
      · exact ih
      · rfl
    · split
      · exact ih
      · rfl
def Errs (g : Ads) (o : Out) (H : Hp) (E : XK) : Prop := ∀ k v d, o = .err k v d → ∀ H' dd, Same H H' → H dd = none → H' dd = some (.xd [(k.f, v)]) → E (.ref (k.c g)) (some dd) H'
theorem Same.tup {K : PySem.W.Frag} {H H' : Hp} {a : Addr} {xs : List V} (s : Same H H') (h : SqT K H a xs) : SqT K H' a xs := by
  rcases h with (h | ⟨o, h⟩) | h
  · exact .inl (.inl (s _ _ h))
  · exact .inl (.inr ⟨o, s _ _ h⟩)
  · exact .inr h
end Z
namespace Z
open PySem PySem.Spec PyProof.Rows L2
/-! ### instances that are being made -/
def hid (S : List Addr) (H : Hp) : Hp := fun b => if b ∈ S then none else H b
theorem hid_of {S : List Addr} {H : Hp} {b : Addr} {o : HO} (e : hid S H b = some o) : b ∉ S ∧ H b = some o := by
  unfold hid at e
  by_cases h : b ∈ S
  · rw [if_pos h] at e
    cases e
  · rw [if_neg h] at e
    exact ⟨h, e⟩
theorem hid_at {S : List Addr} {H : Hp} {b : Addr} {o : HO} (h : b ∉ S) (e : H b = some o) : hid S H b = some o := by
  unfold hid
  rw [if_neg h]
  exact e
theorem hid_same {S : List Addr} {H H' : Hp} (k : ∀ b o, H b = some o → b ∉ S → H' b = some o) : Same (hid S H) (hid S H') := fun b o e => hid_at (hid_of e).1 (k _ _ (hid_of e).2 (hid_of e).1)
theorem hid_sub {S : List Addr} {H : Hp} : Same (hid S H) H := fun b o e => (hid_of e).2
theorem hid_but {p : Addr} {H H' : Hp} (b : But p H H') : Same (hid [p] H) (hid [p] H') := hid_same fun c o e n => b c o e fun z => n (by rw [z]; simp)
theorem but_free {o d : Addr} {u : HO} {H H' : Hp} (b : But o H H') (e : H' o = some u) (hd : H' d = none) : H d = none := by
  cases z : H d with
  | none => rfl
  | some w =>
    have nd : d ≠ o := fun y => by
      rw [y, e] at hd
      cases hd
    rw [b _ _ z nd] at hd
    cases hd
def ErrsB (g : Ads) (a : Addr) (o : Out) (H : Hp) (E : XK) : Prop := ∀ k v d, o = .err k v d → ∀ H' dd, But a H H' → H dd = none → H' dd = some (.xd [(k.f, v)]) → E (.ref (k.c g)) (some dd) H'
/-- whether a thing equals the empty tuple -/
def EqE (K : PySem.W.Frag) (H : Hp) (v : V) (b : Bool) : Prop := (∃ d, Dp K H v d ∧ SeqAt.shaped d = true ∧ PyData.eqv d (.tuple []) = b) ∨ ∃ (a : Addr) (kvs : List (Key × V)), v = .ref a ∧ H a = some (.dK kvs) ∧ b = false
mutual
theorem Dp_same {K : PySem.W.Frag} {H H' : Hp} (s : Same H H') : ∀ (d : PyData) (v : V), Dp K H v d → Dp K H' v d
  | .none, _, h => by cases h; exact .non
  | .bool b, _, h => by cases h; exact .bl _
  | .int i, _, h => by cases h; exact .int _
  | .str x, _, h => by cases h; exact .str _
  | .list ds, _, h => by
    cases h with
    | lst a b => exact .lst (s.seq a) (Dp_sames s ds _ b)
  | .tuple ds, _, h => by
    cases h with
    | tup a b => exact .tup (Z.Same.tup s a) (Dp_sames s ds _ b)
  | .dict _, _, h => by cases h
theorem Dp_sames {K : PySem.W.Frag} {H H' : Hp} (s : Same H H') : ∀ (ds : List PyData) (vs : List V), DpAll K H vs ds → DpAll K H' vs ds
  | [], _, h => by cases h; exact .nil
  | d :: ds, _, h => by
    cases h with
    | cons a b => exact .cons (Dp_same s d _ a) (Dp_sames s ds _ b)
end
theorem EqE.same {K : PySem.W.Frag} {H H' : Hp} {v : V} {b : Bool} (h : EqE K H v b) (s : Same H H') : EqE K H' v b := by
  rcases h with ⟨d, h1, h2, h3⟩ | ⟨a, kvs, h1, h2, h3⟩
  · exact .inl ⟨d, Dp_same s _ _ h1, h2, h3⟩
  · exact .inr ⟨a, kvs, h1, s _ _ h2, h3⟩
/-- v == () -/
theorem eqE_step {K : PySem.W.Frag} {H : Hp} {v : V} {b : Bool} {p : Addr} {Q : VK} (h : EqE K H v b) (e : H p = some (.tup [])) (q : Q (.bl b) H) : zEqI K v (.ref p) H Q := by
  rcases h with ⟨d, h1, h2, h3⟩ | ⟨a, kvs, rfl, h2, rfl⟩
  · refine .inr (.inr (.inr ⟨d, .tuple [], h1, .tup (SqT.of e) .nil, h2, rfl, ?_⟩))
    rw [h3]
    exact q
  · exact .inr (.inl ⟨a, p, kvs, [], rfl, rfl, h2, SqT.of e, q⟩)
def sp_Let_init (K : PySem.W.Frag) (g : Ads) : Sp := fun vs H Q E => ∃ (o dx : Addr) (x1 x2 : V) (d1 d2 : PyData), vs = [.ref o, x1, x2] ∧ H o = some (.ins g.c_Let dx []) ∧ Knd K (hid [o] H) x1 ∧ Knd K (hid [o] H) x2 ∧
  (chk [(true, x1, d1), (false, x2, d2)] = .ok → ∀ H', But o H H' → H' o = some (.ins g.c_Let dx [("into", x1), ("value", x2)]) → Q .non H') ∧ ErrsB g o (chk [(true, x1, d1), (false, x2, d2)]) H E
theorem sc_Let_init : FnScope ["self", "into", "value"] ["self", "into", "value"] (defScope s_Let_init) := ⟨rfl, rfl, rfl, by decide +kernel, rfl, by decide +kernel, by decide +kernel⟩
def R_Let_init_2 (K : PySem.W.Frag) (g : Ads) (E : XK) : TS :=
  (sFld K (zVar 0) (zCall (sp_check_operand K g) [] (WE (fun cls d _ H => E cls d H)) (tCons (zVar 2) tNil)) "value")
def R_Let_init (K : PySem.W.Frag) (g : Ads) (E : XK) : TS :=
  (tSeq (sFld K (zVar 0) (zCall (sp_check_name K g) [] (WE (fun cls d _ H => E cls d H)) (tCons (zVar 1) tNil)) "into")
  (R_Let_init_2 K g E))
def rw_Let_init (K : PySem.W.Frag) (g : Ads) : Sp := fun vs H Q E => vs.length = 3 ∧ R_Let_init K g E { nx := fun _ H' => Q .non H', rt := Q } (start ["self", "into", "value"] vs) H
theorem raw_Let_init {P : Program} [SupP P] {w : World} {K : PySem.W.Frag} {mg : Str → Option Value} {base : Heap} {g : Ads} (T : Txt K mg g) : FnG false P w K mg base 4 g.f_Let_init g.d_Let_init ["self", "into", "value"] (rw_Let_init K g) := by
  refine okZ T.f_Let_init sc_Let_init (fun vs H Q E h => h.1) (fun cdv A outer s H vs Q E hr hgu h => ⟨R_Let_init K g E, ?_, h.2⟩)
  exact (pss_cons (ps_fld (zv 0) (pe_callZ (ok_check_name T) (hr.mono (by decide)) (fun z => nomatch z) rfl T.g_check_name T.k_check_name T.e_check_name .nil (fun σ => passAt (takes_of rfl rfl rfl rfl) σ) (pa_cons (zv 1) pa_nil)) rfl)
  (pss_one (ps_fld (zv 0) (pe_callZ (ok_check_operand T) (hr.mono (by decide)) (fun z => nomatch z) rfl T.g_check_operand T.k_check_operand T.e_check_operand .nil (fun σ => passAt (takes_of rfl rfl rfl rfl) σ) (pa_cons (zv 2) pa_nil)) rfl)))
theorem pf_Let_init {K : PySem.W.Frag} {mg : Str → Option Value} {g : Ads} (T : Txt K mg g) (vs : List V) (H : Hp) (Q : VK) (E : XK) (h : sp_Let_init K g vs H Q E) : rw_Let_init K g vs H Q E := by
  obtain ⟨o, dx, x1, x2, d1, d2, rfl, ho, k1, k2, q1, q2⟩ := h
  refine ⟨rfl, ?_⟩
  have b0 : But o H H := fun _ _ e _ => e
  refine ⟨x1, rfl, (k1.same (hid_but b0)).same hid_sub, fun n1 Ha1 sa1 => ⟨o, _, dx, _, rfl, sa1 _ _ ho, T.cl_Let, T.na_Let_into, (by simp), ?_⟩, fun n1 Ha1 dd sa1 hd ex => q2 .nm _ d1 (by simp [chk, Out.and, n1]) Ha1 dd (b0.trans (But.same sa1)) (but_free b0 ho hd) ex⟩
  have b1 : But o H (upd Ha1 o (.ins g.c_Let dx [("into", x1)])) := (b0.trans (But.same sa1)).trans But.put
  have e1 : (upd Ha1 o (.ins g.c_Let dx [("into", x1)])) o = some (.ins g.c_Let dx [("into", x1)]) := upd_same
  show R_Let_init_2 K g E { nx := fun _ H' => Q .non H', rt := Q } [some (.ref o), some x1, some x2] (upd Ha1 o (.ins g.c_Let dx [("into", x1)]))
  generalize (upd Ha1 o (.ins g.c_Let dx [("into", x1)])) = H1 at b1 e1 ⊢
  refine ⟨x2, rfl, (k2.same (hid_but b1)).same hid_sub, fun n2 Ha2 sa2 => ⟨o, _, dx, _, rfl, sa2 _ _ e1, T.cl_Let, T.na_Let_value, (by simp), ?_⟩, fun n2 Ha2 dd sa2 hd ex => q2 .vl _ d2 (by simp [chk, Out.and, n1, n2]) Ha2 dd (b1.trans (But.same sa2)) (but_free b1 e1 hd) ex⟩
  exact q1 (by simp [chk, Out.and, n1, n2]) _ ((b1.trans (But.same sa2)).trans But.put) upd_same
theorem ok_Let_init {P : Program} [SupP P] {w : World} {K : PySem.W.Frag} {mg : Str → Option Value} {base : Heap} {g : Ads} (T : Txt K mg g) : FnG false P w K mg base 4 g.f_Let_init g.d_Let_init ["self", "into", "value"] (sp_Let_init K g) := (raw_Let_init T).imp (pf_Let_init T)
def sp_Has_init (K : PySem.W.Frag) (g : Ads) : Sp := fun vs H Q E => ∃ (o dx : Addr) (x1 : V) (d1 : PyData), vs = [.ref o, x1] ∧ H o = some (.ins g.c_Has dx []) ∧ Knd K (hid [o] H) x1 ∧
  (chk [(false, x1, d1)] = .ok → ∀ H', But o H H' → H' o = some (.ins g.c_Has dx [("value", x1)]) → Q .non H') ∧ ErrsB g o (chk [(false, x1, d1)]) H E
theorem sc_Has_init : FnScope ["self", "value"] ["self", "value"] (defScope s_Has_init) := ⟨rfl, rfl, rfl, by decide +kernel, rfl, by decide +kernel, by decide +kernel⟩
def R_Has_init (K : PySem.W.Frag) (g : Ads) (E : XK) : TS :=
  (sFld K (zVar 0) (zCall (sp_check_operand K g) [] (WE (fun cls d _ H => E cls d H)) (tCons (zVar 1) tNil)) "value")
def rw_Has_init (K : PySem.W.Frag) (g : Ads) : Sp := fun vs H Q E => vs.length = 2 ∧ R_Has_init K g E { nx := fun _ H' => Q .non H', rt := Q } (start ["self", "value"] vs) H
theorem raw_Has_init {P : Program} [SupP P] {w : World} {K : PySem.W.Frag} {mg : Str → Option Value} {base : Heap} {g : Ads} (T : Txt K mg g) : FnG false P w K mg base 4 g.f_Has_init g.d_Has_init ["self", "value"] (rw_Has_init K g) := by
  refine okZ T.f_Has_init sc_Has_init (fun vs H Q E h => h.1) (fun cdv A outer s H vs Q E hr hgu h => ⟨R_Has_init K g E, ?_, h.2⟩)
  exact (pss_one (ps_fld (zv 0) (pe_callZ (ok_check_operand T) (hr.mono (by decide)) (fun z => nomatch z) rfl T.g_check_operand T.k_check_operand T.e_check_operand .nil (fun σ => passAt (takes_of rfl rfl rfl rfl) σ) (pa_cons (zv 1) pa_nil)) rfl))
theorem pf_Has_init {K : PySem.W.Frag} {mg : Str → Option Value} {g : Ads} (T : Txt K mg g) (vs : List V) (H : Hp) (Q : VK) (E : XK) (h : sp_Has_init K g vs H Q E) : rw_Has_init K g vs H Q E := by
  obtain ⟨o, dx, x1, d1, rfl, ho, k1, q1, q2⟩ := h
  refine ⟨rfl, ?_⟩
  have b0 : But o H H := fun _ _ e _ => e
  refine ⟨x1, rfl, (k1.same (hid_but b0)).same hid_sub, fun n1 Ha1 sa1 => ⟨o, _, dx, _, rfl, sa1 _ _ ho, T.cl_Has, T.na_Has_value, (by simp), ?_⟩, fun n1 Ha1 dd sa1 hd ex => q2 .vl _ d1 (by simp [chk, Out.and, n1]) Ha1 dd (b0.trans (But.same sa1)) (but_free b0 ho hd) ex⟩
  exact q1 (by simp [chk, Out.and, n1]) _ ((b0.trans (But.same sa1)).trans But.put) upd_same
theorem ok_Has_init {P : Program} [SupP P] {w : World} {K : PySem.W.Frag} {mg : Str → Option Value} {base : Heap} {g : Ads} (T : Txt K mg g) : FnG false P w K mg base 4 g.f_Has_init g.d_Has_init ["self", "value"] (sp_Has_init K g) := (raw_Has_init T).imp (pf_Has_init T)
end Z
namespace Z
open PySem PySem.Spec PyProof.Rows L2
def sp_BadTest_init (K : PySem.W.Frag) (g : Ads) : Sp := sp_x1 g.c_BadTest "test"
def sp_BadStep_init (K : PySem.W.Frag) (g : Ads) : Sp := sp_x1 g.c_BadStep "index"
theorem sc_BadTest_init : FnScope ["self", "test"] ["self", "test"] (defScope s_BadTest_init) := ⟨rfl, rfl, rfl, by decide +kernel, rfl, by decide +kernel, by decide +kernel⟩
def R_BadTest_init (K : PySem.W.Frag) (g : Ads) (E : XK) : TS :=
  (tOstB K "test" (zVar 0) (zVar 1))
def rw_BadTest_init (K : PySem.W.Frag) (g : Ads) : Sp := fun vs H Q E => vs.length = 2 ∧ R_BadTest_init K g E { nx := fun _ H' => Q .non H', rt := Q } (start ["self", "test"] vs) H
theorem raw_BadTest_init {P : Program} [SupP P] {w : World} {K : PySem.W.Frag} {mg : Str → Option Value} {base : Heap} {g : Ads} (T : Txt K mg g) : FnG false P w K mg base 1 g.f_BadTest_init g.d_BadTest_init ["self", "test"] (rw_BadTest_init K g) := by
  refine okZ T.f_BadTest_init sc_BadTest_init (fun vs H Q E h => h.1) (fun cdv A outer s H vs Q E hr hgu h => ⟨R_BadTest_init K g E, ?_, h.2⟩)
  exact (pss_one (ps_ostB (zv 0) (zv 1)))
theorem sc_BadStep_init : FnScope ["self", "index"] ["self", "index"] (defScope s_BadStep_init) := ⟨rfl, rfl, rfl, by decide +kernel, rfl, by decide +kernel, by decide +kernel⟩
def R_BadStep_init (K : PySem.W.Frag) (g : Ads) (E : XK) : TS :=
  (tOstB K "index" (zVar 0) (zVar 1))
def rw_BadStep_init (K : PySem.W.Frag) (g : Ads) : Sp := fun vs H Q E => vs.length = 2 ∧ R_BadStep_init K g E { nx := fun _ H' => Q .non H', rt := Q } (start ["self", "index"] vs) H
theorem raw_BadStep_init {P : Program} [SupP P] {w : World} {K : PySem.W.Frag} {mg : Str → Option Value} {base : Heap} {g : Ads} (T : Txt K mg g) : FnG false P w K mg base 1 g.f_BadStep_init g.d_BadStep_init ["self", "index"] (rw_BadStep_init K g) := by
  refine okZ T.f_BadStep_init sc_BadStep_init (fun vs H Q E h => h.1) (fun cdv A outer s H vs Q E hr hgu h => ⟨R_BadStep_init K g E, ?_, h.2⟩)
  exact (pss_one (ps_ostB (zv 0) (zv 1)))
section
variable {P : Program} [SupP P] {w : World} {K : PySem.W.Frag} {mg : Str → Option Value} {base : Heap} {g : Ads}
theorem ok_BadTest_init (T : Txt K mg g) : FnG false P w K mg base 1 g.f_BadTest_init g.d_BadTest_init ["self", "test"] (sp_BadTest_init K g) :=
  (raw_BadTest_init T).imp fun vs H Q E ⟨a, v, e, ha, k⟩ => by
    subst e
    exact ⟨rfl, a, g.c_BadTest, rfl, T.o_BadTest, T.a_BadTest_test, .inl ⟨ha, k⟩⟩
theorem ok_BadStep_init (T : Txt K mg g) : FnG false P w K mg base 1 g.f_BadStep_init g.d_BadStep_init ["self", "index"] (sp_BadStep_init K g) :=
  (raw_BadStep_init T).imp fun vs H Q E ⟨a, v, e, ha, k⟩ => by
    subst e
    exact ⟨rfl, a, g.c_BadStep, rfl, T.o_BadStep, T.a_BadStep_index, .inl ⟨ha, k⟩⟩
end
/-! ### lists and tuples; what is no row -/
def Sq (K : PySem.W.Frag) (H : Hp) (a : Addr) (xs : List V) : Prop := SqT K H a xs ∨ SqL K H a xs
theorem Sq.same {K : PySem.W.Frag} {H H' : Hp} {a : Addr} {xs : List V} (h : Sq K H a xs) (s : Same H H') : Sq K H' a xs := h.imp (fun h => Z.Same.tup s h) fun h => s.seq h
theorem kit_tl {K : PySem.W.Frag} {t : String} (h : t = "NoneType" ∨ t = "bool" ∨ t = "int" ∨ t = "str" ∨ t = "dict") : PySem.W.kitAny K (.type t) [.type "tuple", .type "list"] = some false := by
  have go : ∀ t, (t = "NoneType" ∨ t = "bool" ∨ t = "int" ∨ t = "str" ∨ t = "dict") → (("tuple" : String) == t || (("tuple" : String) == "int" && t == "bool")) = false ∧ (("list" : String) == t || (("list" : String) == "int" && t == "bool")) = false := by
    rintro t (rfl | rfl | rfl | rfl | rfl) <;> decide
  obtain ⟨g1, g2⟩ := go t h
  have ht : t = "NoneType" ∨ t = "bool" ∨ t = "int" ∨ t = "str" ∨ t = "list" ∨ t = "tuple" ∨ t = "dict" := by
    rcases h with h | h | h | h | h <;> simp [h]
  exact kitAny_cons (b := false) (kit_ty (by rw [kit_tab t "tuple" ht (by decide +kernel), g1])) (fun _ => kitAny_cons (b := false) (kit_ty (by rw [kit_tab t "list" ht (by decide +kernel), g2])) (fun _ => rfl) (fun z => nomatch z)) (fun z => nomatch z)
theorem kit_tlT {K : PySem.W.Frag} : PySem.W.kitAny K (.type "tuple") [.type "tuple", .type "list"] = some true :=
  kitAny_cons (b := true) (kit_ty (by rw [kit_tab "tuple" "tuple" (by simp) (by decide +kernel)]; decide)) (fun z => nomatch z) (fun _ => rfl)
theorem kit_tlL {K : PySem.W.Frag} : PySem.W.kitAny K (.type "list") [.type "tuple", .type "list"] = some true :=
  kitAny_cons (b := false) (kit_ty (by rw [kit_tab "list" "tuple" (by simp) (by decide +kernel)]; decide)) (fun _ => kitAny_cons (b := true) (kit_ty (by rw [kit_tab "list" "list" (by simp) (by decide +kernel)]; decide)) (fun z => nomatch z) (fun _ => rfl)) (fun _ => rfl)
theorem tyx_sq {K : PySem.W.Frag} {H : Hp} {a : Addr} {xs : List V} (h : Sq K H a xs) : (TyX K H (.ref a) (.type "tuple")) ∨ TyX K H (.ref a) (.type "list") := by
  rcases h with h | h
  · exact .inl (TyR.ty (t := "tuple") (.inr (.inl ⟨rfl, xs, h⟩))).1
  · exact .inr (TyR.ty (t := "list") (.inl ⟨rfl, xs, h⟩)).1
/-- a thing of the type t, now and later -/
def TyU (K : PySem.W.Frag) (H : Hp) (v : V) (t : Value) : Prop := ∀ H', Same H H' → TyX K H' v t
theorem TyU.same {K : PySem.W.Frag} {H H' : Hp} {v : V} {t : Value} (h : TyU K H v t) (s : Same H H') : TyU K H' v t := fun H2 s2 => h H2 (s.trans s2)
/-- a thing, and whether it is no step -/
def Thg (K : PySem.W.Frag) (g : Ads) (H : Hp) (v : V) (odd : Bool) : Prop := ∃ t, TyU K H v t ∧ PySem.W.kitOne K t (.ref g.c_Step) = some (!odd)
theorem Thg.same {K : PySem.W.Frag} {g : Ads} {H H' : Hp} {v : V} {b : Bool} (h : Thg K g H v b) (s : Same H H') : Thg K g H' v b := h.imp fun _ h => ⟨h.1.same s, h.2⟩
/-- the place of the first that is no step -/
def firstT (fl : List Bool) : Option Nat := fl.findIdx? fun b => b
theorem firstT_none {bs : List Bool} (h : ∀ j, j < bs.length → bs[j]? = some false) : firstT bs = none := List.findIdx?_eq_none_iff.mpr fun b hb => by
  obtain ⟨j, hj, rfl⟩ := List.getElem_of_mem hb
  have := h j hj
  rw [List.getElem?_eq_getElem hj] at this
  exact Option.some.inj this
theorem firstT_at {bs : List Bool} {i : Nat} (hi : bs[i]? = some true) (h : ∀ j, j < i → bs[j]? = some false) : firstT bs = some i := by
  have li := (List.getElem?_eq_some_iff.mp hi).1
  refine List.findIdx?_eq_some_iff_getElem.mpr ⟨li, by rw [(List.getElem?_eq_some_iff.mp hi).2], fun j hj => ?_⟩
  have := h j hj
  rw [(List.getElem?_eq_some_iff.mp this).2]
  simp
theorem paired_get {α β : Type} {R : α → β → Prop} {xs : List α} {ys : List β} (h : Paired R xs ys) {i : Nat} {x : α} (hx : xs[i]? = some x) : ∃ y, ys[i]? = some y ∧ R x y := by
  induction h generalizing i with
  | nil => simp at hx
  | cons p t ih =>
    cases i with
    | zero =>
      simp at hx
      subst hx
      exact ⟨_, rfl, p⟩
    | succ j => exact ih (by simpa using hx)
theorem paired_len {α β : Type} {R : α → β → Prop} {xs : List α} {ys : List β} (h : Paired R xs ys) : xs.length = ys.length := by
  induction h with
  | nil => rfl
  | cons p t ih => rw [List.length_cons, List.length_cons, ih]
theorem paired_imp {α β : Type} {R S : α → β → Prop} {xs : List α} {ys : List β} (h : Paired R xs ys) (k : ∀ x y, R x y → S x y) : Paired S xs ys := by
  induction h with
  | nil => exact .nil
  | cons p t ih => exact .cons (k _ _ p) ih
theorem paired_app {α β : Type} {R : α → β → Prop} {xs xs' : List α} {ys ys' : List β} (h : Paired R xs ys) (h' : Paired R xs' ys') : Paired R (xs ++ xs') (ys ++ ys') := by
  induction h with
  | nil => exact h'
  | cons p t ih => exact .cons p ih
/-- the other row: its items, or none -/
def RowAt (K : PySem.W.Frag) (H : Hp) (x : V) : Option (List V) → Prop
  | none => ∃ t, TyU K H x t ∧ PySem.W.kitAny K t [.type "tuple", .type "list"] = some false
  | some os => ∃ a, x = .ref a ∧ Sq K H a os ∧ os.length ≤ 1000
theorem RowAt.same {K : PySem.W.Frag} {H H' : Hp} {x : V} {ro : Option (List V)} (h : RowAt K H x ro) (s : Same H H') : RowAt K H' x ro := by
  cases ro with
  | none => exact h.imp fun _ h => ⟨h.1.same s, h.2⟩
  | some os => exact h.imp fun _ h => ⟨h.1, h.2.1.same s, h.2.2⟩
/-- what comes of the rows: the number that BadStep has, or none -/
def rowO (fl : List Bool) (ro : Option (List V)) : Option Int := if ro.isNone then some (-1) else (firstT fl).map fun j => (j : Int)
def BadS (g : Ads) (H : Hp) (E : XK) (j : Int) : Prop := ∀ H' dd, Same H H' → H dd = none → H' dd = some (.xd [("index", .int j)]) → E (.ref g.c_BadStep) (some dd) H'
def blkF (p q : Addr) : List (Str × V) := [("body", .ref p), ("otherwise", .ref q)]
def sp_Block_init (K : PySem.W.Frag) (g : Ads) : Sp := fun vs H Q E => ∃ (o C dx : Addr) (x2 : V) (p : Addr) (bs : List V) (ro : Option (List V)) (fl : List Bool), vs = [.ref o, x2, .ref p] ∧ H o = some (.ins C dx []) ∧ (C = g.c_When ∨ C = g.c_Attempt) ∧
  SqT K (hid [o] H) p bs ∧ bs.length ≤ 1000 ∧ RowAt K (hid [o] H) x2 ro ∧ (∀ os, ro = some os → Paired (Thg K g H) (bs ++ os) fl) ∧ (∀ j, rowO fl ro = some j → BadS g H E j) ∧
  (rowO fl ro = none → ∀ os, ro = some os → ∀ H' q, But o H H' → H' o = some (.ins C dx (blkF p q)) → SqT K (hid [o] H') q os → Q .non H')
theorem sc_Block_init : FnScope ["self", "otherwise", "body", "index", "thing"] ["self", "otherwise", "body"] (defScope s_Block_init) := ⟨rfl, rfl, rfl, by decide +kernel, rfl, by decide +kernel, by decide +kernel⟩
def R_Block_init_2 (K : PySem.W.Frag) (g : Ads) (E : XK) : TS :=
  (zRaise (fun cls d _ H => E cls d H) g.c_BadStep (sp_BadStep_init K g) (tCons (zNeg (tC (.int 1))) tNil))
def R_Block_init_5 (K : PySem.W.Frag) (g : Ads) (E : XK) : TS :=
  (zRaise (fun cls d _ H => E cls d H) g.c_BadStep (sp_BadStep_init K g) (tCons (zVar 3) tNil))
def R_Block_init_4 (K : PySem.W.Frag) (g : Ads) (E : XK) : TS :=
  (tIfS (tNot (zTru K (tCB (rIsi K) (tCons (zVar 4) (tCons (tC (.ref g.c_Step)) tNil)))))
  (R_Block_init_5 K g E)
  tNext)
def R_Block_init_7 (K : PySem.W.Frag) (g : Ads) (E : XK) : TS :=
  (sFld K (zVar 0) (tCB (zTupOf K) (tCons (zVar 1) tNil)) "otherwise")
def R_Block_init_6 (K : PySem.W.Frag) (g : Ads) (E : XK) : TS :=
  (tSeq (sFld K (zVar 0) (zVar 2) "body")
  (R_Block_init_7 K g E))
def R_Block_init_3 (K : PySem.W.Frag) (g : Ads) (E : XK) : TS :=
  (tSeq (zFor (zEnum K (tCons (tLst (StX.tStar K (zVar 2) (StX.tStar K (zVar 1) tNil))) tNil)) (gTup K 2 (gCons (gName 3) (gCons (gName 4) gNil)))
  (R_Block_init_4 K g E))
  (R_Block_init_6 K g E))
def R_Block_init (K : PySem.W.Frag) (g : Ads) (E : XK) : TS :=
  (tSeq (tIfS (tNot (zTru K (tCB (rIsiT K) (tCons (zVar 1) (tCons (tTup (tCons (tC (.ty "tuple")) (tCons (tC (.ty "list")) tNil))) tNil)))))
  (R_Block_init_2 K g E)
  tNext)
  (R_Block_init_3 K g E))
def rw_Block_init (K : PySem.W.Frag) (g : Ads) : Sp := fun vs H Q E => vs.length = 3 ∧ R_Block_init K g E { nx := fun _ H' => Q .non H', rt := Q } (start ["self", "otherwise", "body", "index", "thing"] vs) H
theorem raw_Block_init {P : Program} [SupP P] {w : World} {K : PySem.W.Frag} {mg : Str → Option Value} {base : Heap} {g : Ads} (T : Txt K mg g) : FnS false P w K mg base 3 g.f_Block_init g.d_Block_init ["self", "otherwise", "body"] 1 1 (rw_Block_init K g) := by
  refine okS T.f_Block_init sc_Block_init rfl (fun cdv A outer s H vs Q E hr hgu h => ⟨R_Block_init K g E, ?_, h.2⟩)
  exact (pss_cons (ps_if (pt_not (ptz_truth (pe_callB call_isiT (by rfl) T.b_isinstance (by decide +kernel) (pa_cons (zv 1) (pa_cons (pe_tup (pa_cons (pe_bltn (by rfl) T.b_tuple (by decide +kernel) rfl) (pa_cons (pe_bltn (by rfl) T.b_list (by decide +kernel) rfl) pa_nil))) pa_nil))) (by intro _; rfl)))
  (pss_one (ps_raise rfl (takes_of rfl rfl rfl rfl) (pmk_ZB T.o_BadStep T.i_BadStep T.t_BadStep (ok_BadStep_init T) (hr.mono (by decide)) (fun z => nomatch z) T.e_BadStep_init rfl T.g_BadStep (by exact (pa_cons (pez_neg pe_int) pa_nil)))))
  pss_nil)
  (pss_cons (psz_for PassesOwn.leaving rfl (pi_zEnum (by rfl) T.b_enumerate (pa_cons (pe_lst (StX.pa_star (zv 2) (StX.pa_star (zv 1) pa_nil))) pa_nil)) (pg_tup rfl (pgs_cons (pg_name (i := 3) sc_Block_init.nd rfl (Or.inl rfl)) (pgs_cons (pg_name (i := 4) sc_Block_init.nd rfl (Or.inl rfl)) pgs_nil)))
  (pss_one (ps_if (pt_not (ptz_truth (pe_callB call_isi (by rfl) T.b_isinstance (by decide +kernel) (pa_cons (zv 4) (pa_cons (pe_glob rfl T.g_Step rfl) pa_nil))) (by intro _; rfl)))
  (pss_one (ps_raise rfl (takes_of rfl rfl rfl rfl) (pmk_ZB T.o_BadStep T.i_BadStep T.t_BadStep (ok_BadStep_init T) (hr.mono (by decide)) (fun z => nomatch z) T.e_BadStep_init rfl T.g_BadStep (by exact (pa_cons (zv 3) pa_nil)))))
  pss_nil)))
  (pss_cons (ps_fld (zv 0) (zv 2) rfl)
  (pss_one (ps_fld (zv 0) (pe_callTy call_tupZ (by rfl) T.b_tuple (by decide +kernel) (pa_cons (zv 1) pa_nil)) rfl)))))
theorem blk_cls {K : PySem.W.Frag} {mg : Str → Option Value} {g : Ads} (T : Txt K mg g) {C : Addr} (h : C = g.c_When ∨ C = g.c_Attempt) : Cls K C ∧ NoAttr K C "body" ∧ NoAttr K C "otherwise" := by
  rcases h with rfl | rfl
  · exact ⟨T.cl_When, T.na_When_body, T.na_When_otherwise⟩
  · exact ⟨T.cl_Attempt, T.na_Attempt_body, T.na_Attempt_otherwise⟩
theorem pf_Block_init {K : PySem.W.Frag} {mg : Str → Option Value} {g : Ads} (T : Txt K mg g) (vs : List V) (H : Hp) (Q : VK) (E : XK) (h : sp_Block_init K g vs H Q E) : rw_Block_init K g vs H Q E := by
  obtain ⟨o, C, dx, x2, p, bs, ro, fl, rfl, ho, hC, hp, lb, hro, hfl, q1, q2⟩ := h
  obtain ⟨c1, c2, c3⟩ := blk_cls T hC
  refine ⟨rfl, (by decide : 2 ≤ sizeLine), fun tp htp => ?_⟩
  have s1 := Same.put (o := .tup [.ty "tuple", .ty "list"]) htp
  have etp := upd_same (H := H) (a := tp) (o := .tup [.ty "tuple", .ty "list"])
  generalize upd H tp (.tup [.ty "tuple", .ty "list"]) = H1 at s1 etp
  have hro1 := hro.same (hid_sub.trans s1)
  cases ro with
  | none =>
    obtain ⟨t, ty, kt⟩ := hro1
    refine ⟨x2, tp, _, t, _, false, rfl, etp, .cons (.ty "tuple") (.cons (.ty "list") .nil), ty H1 (Same.refl _), kt, ?_⟩
    exact raise_at fun d hd => q1 (-1) rfl _ d (s1.trans (Same.put hd)) (s1.free hd) upd_same
  | some os =>
    obtain ⟨a, rfl, ha, lo⟩ := hro1
    obtain ⟨a', ea, ha0, _⟩ := hro
    cases ea
    have hf := hfl os rfl
    have hp1 : SqT K H1 p bs := Z.Same.tup (hid_sub.trans s1) hp
    have fin : R_Block_init_3 K g E { nx := fun _ H' => Q .non H', rt := Q } [some (.ref o), some (.ref a), some (.ref p), none, none] H1 := by
      refine ⟨p, bs, rfl, .inl hp1, a, os, rfl, ha, ?_⟩
      show (bs ++ (os ++ [])).length ≤ sizeLine ∧ _
      rw [List.append_nil]
      refine ⟨?_, fun l hl => ?_⟩
      · rw [List.length_append]
        exact Nat.le_trans (show bs.length + os.length ≤ 2000 by omega) (by decide)
      have s2 := Same.put (o := .lst (bs ++ os)) hl
      have el := upd_same (H := H1) (a := l) (o := .lst (bs ++ os))
      generalize upd H1 l (.lst (bs ++ os)) = H2 at s2 el
      have s02 := s1.trans s2
      refine ⟨l, bs ++ os, rfl, .inl ⟨SqL.of el, for_z walk_enum (fun i σ H' => Same H2 H' ∧ (∀ j, j < i → fl[j]? = some false) ∧ ∃ v1 v2, σ = [some (.ref o), some (.ref a), some (.ref p), v1, v2]) ⟨Same.refl _, fun j hj => absurd hj (Nat.not_lt_zero _), _, _, rfl⟩ (fun i σ H' _ h => h.1.seq (SqL.of el)) ?_ ?_⟩⟩
      · rintro i x σ H3 H4 hi ⟨s3, hb, v1, v2, rfl⟩ ⟨T1, x1, y, rfl, hT, rfl, f1, f2⟩
        cases f1
        obtain ⟨b, hbi, t, ty, kt⟩ := paired_get hf f2
        have s4 := s3.trans (Same.put (o := .tup [V.int (i : Nat), y]) hT)
        refine ⟨T1, _, rfl, SqT.of upd_same, rfl, _, _, rfl, _, _, rfl, rfl, y, .ref g.c_Step, t, _, !b, rfl, .own _, ty _ (s02.trans s4), kt, ?_⟩
        cases b with
        | true =>
          exact raise_at fun d hd => q1 i (by simp [rowO, firstT_at hbi hb]) _ d ((s02.trans s4).trans (Same.put hd)) ((s02.trans s4).free hd) upd_same
        | false =>
          refine ⟨s4, fun j hj => ?_, _, _, rfl⟩
          by_cases e : j = i
          · rw [e]
            exact hbi
          · exact hb j (by omega)
      · rintro σ H3 ⟨s3, hb, v1, v2, rfl⟩
        have s5 := s02.trans s3
        have none_ : rowO fl (some os) = none := by
          have : firstT fl = none := firstT_none fun j hj => hb j (by rw [paired_len hf]; exact hj)
          simp [rowO, this]
        refine ⟨o, C, dx, [], rfl, s5 _ _ ho, c1, c2, (by simp), ?_⟩
        have b5 : But o H (upd H3 o (.ins C dx [("body", .ref p)])) := (But.same s5).trans But.put
        have e5 := upd_same (H := H3) (a := o) (o := .ins C dx [("body", .ref p)])
        show R_Block_init_7 K g E { nx := fun _ H' => Q .non H', rt := Q } [some (.ref o), some (.ref a), some (.ref p), v1, v2] (upd H3 o (.ins C dx [("body", .ref p)]))
        generalize upd H3 o (.ins C dx [("body", .ref p)]) = H5 at b5 e5 ⊢
        have ha5 : Sq K (hid [o] H5) a os := ha0.same (hid_but b5)
        rcases ha5 with h5 | h5
        · refine ⟨os, .inr ⟨Z.Same.tup hid_sub h5, o, C, dx, [("body", .ref p)], rfl, e5, c1, c3, (by simp), ?_⟩⟩
          exact q2 none_ os rfl _ a (b5.trans But.put) upd_same (Z.Same.tup (hid_but But.put) h5)
        · refine ⟨os, .inl ⟨hid_sub.seq h5, fun l2 hl2 => ?_⟩⟩
          have n2 : l2 ≠ o := (ne_of_none e5 hl2).symm
          refine ⟨o, C, dx, [("body", .ref p)], rfl, by rw [upd_ne n2.symm]; exact e5, c1, c3, (by simp), ?_⟩
          exact q2 none_ os rfl _ l2 ((b5.trans (But.same (Same.put hl2))).trans But.put) upd_same (SqT.of (hid_at (by simpa using n2) (by rw [upd_ne n2]; exact upd_same)))
    rcases tyx_sq ha with ty | ty
    · exact ⟨_, tp, _, .type "tuple", _, true, rfl, etp, .cons (.ty "tuple") (.cons (.ty "list") .nil), ty, kit_tlT, fin⟩
    · exact ⟨_, tp, _, .type "list", _, true, rfl, etp, .cons (.ty "tuple") (.cons (.ty "list") .nil), ty, kit_tlL, fin⟩
theorem ok_Block_init {P : Program} [SupP P] {w : World} {K : PySem.W.Frag} {mg : Str → Option Value} {base : Heap} {g : Ads} (T : Txt K mg g) : FnS false P w K mg base 3 g.f_Block_init g.d_Block_init ["self", "otherwise", "body"] 1 1 (sp_Block_init K g) := (raw_Block_init T).imp (pf_Block_init T)
end Z
namespace Z
open PySem PySem.Spec PyProof.Rows L2
/-- a test, or none -/
def TstB (K : PySem.W.Frag) (g : Ads) (H : Hp) (v : V) (b : Bool) : Prop := ∃ t, TyU K H v t ∧ PySem.W.kitAny K t [.ref g.c_Has, .ref g.c_Typed, .ref g.c_Holds] = some b
theorem TstB.same {K : PySem.W.Frag} {g : Ads} {H H' : Hp} {v : V} {b : Bool} (h : TstB K g H v b) (s : Same H H') : TstB K g H' v b := h.imp fun _ h => ⟨h.1.same s, h.2⟩
def whnF (p q : Addr) (x : V) : List (Str × V) := [("body", .ref p), ("otherwise", .ref q), ("test", x)]
def BadT (g : Ads) (H : Hp) (E : XK) (x : V) : Prop := ∀ H' dd, Same H H' → H dd = none → H' dd = some (.xd [("test", x)]) → E (.ref g.c_BadTest) (some dd) H'
theorem BadS.same {g : Ads} {H H1 : Hp} {E : XK} {j : Int} (h : BadS g H E j) (s : Same H H1) : BadS g H1 E j := fun H' dd s' hd e => h H' dd (s.trans s') (s.free hd) e
theorem BadT.same {g : Ads} {H H1 : Hp} {E : XK} {x : V} (h : BadT g H E x) (s : Same H H1) : BadT g H1 E x := fun H' dd s' hd e => h H' dd (s.trans s') (s.free hd) e
def sp_When_init (K : PySem.W.Frag) (g : Ads) : Sp := fun vs H Q E => ∃ (o dx : Addr) (x1 x2 : V) (p : Addr) (bs : List V) (ro : Option (List V)) (fl : List Bool) (isT : Bool), vs = [.ref o, x1, x2, .ref p] ∧ H o = some (.ins g.c_When dx []) ∧
  TstB K g H x1 isT ∧ SqT K (hid [o] H) p bs ∧ bs.length ≤ 1000 ∧ RowAt K (hid [o] H) x2 ro ∧ (∀ os, ro = some os → Paired (Thg K g H) (bs ++ os) fl) ∧ (isT = false → BadT g H E x1) ∧ (isT = true → ∀ j, rowO fl ro = some j → BadS g H E j) ∧
  (isT = true → rowO fl ro = none → ∀ os, ro = some os → ∀ H' pb q, But o H H' → H' o = some (.ins g.c_When dx (whnF pb q x1)) → SqT K (hid [o] H') pb bs → SqT K (hid [o] H') q os → Q .non H')
theorem sc_When_init : ScopeS ["self", "test", "otherwise", "body"] ["self", "test", "otherwise", "body"] (defScope s_When_init) := ⟨rfl, rfl, rfl, by decide +kernel, rfl, by decide +kernel, by decide +kernel, by decide +kernel, rfl, rfl⟩
def R_When_init_2 (K : PySem.W.Frag) (g : Ads) (E : XK) : TS :=
  (zRaise (fun cls d _ H => E cls d H) g.c_BadTest (sp_BadTest_init K g) (tCons (zVar 1) tNil))
def R_When_init_3 (K : PySem.W.Frag) (g : Ads) (E : XK) : TS :=
  (tSeq (tSup g.c_When 1 (sp_Block_init K g) (fun zs => zs) (WE (fun cls d _ H => E cls d H)) K (zVar 3) (tCons (zVar 2) tNil))
  (sFld K (zVar 0) (zVar 1) "test"))
def R_When_init (K : PySem.W.Frag) (g : Ads) (E : XK) : TS :=
  (tSeq (tIfS (tNot (zTru K (tCB (rIsiT K) (tCons (zVar 1) (tCons (tTup (tCons (tC (.ref g.c_Has)) (tCons (tC (.ref g.c_Typed)) (tCons (tC (.ref g.c_Holds)) tNil)))) tNil)))))
  (R_When_init_2 K g E)
  tNext)
  (R_When_init_3 K g E))
def rw_When_init (K : PySem.W.Frag) (g : Ads) : Sp := fun vs H Q E => vs.length = 4 ∧ R_When_init K g E { nx := fun _ H' => Q .non H', rt := Q } (start ["self", "test", "otherwise", "body"] vs) H
theorem raw_When_init {P : Program} [SupP P] {w : World} {K : PySem.W.Frag} {mg : Str → Option Value} {base : Heap} {g : Ads} (T : Txt K mg g) : FnS false P w K mg base 4 g.f_When_init g.d_When_init ["self", "test", "otherwise", "body"] 2 1 (rw_When_init K g) := by
  refine okSup T.f_When_init SupP.file SupP.top sc_When_init rfl rfl T.b_super rfl (fun cda cc A outer s H vs Q E SC hr hgu h => ⟨R_When_init K g E, ?_, h.2⟩)
  exact (pas_cons (ps_if (pt_not (ptz_truth (pe_callB call_isiT (by rfl) T.b_isinstance (by decide +kernel) (pa_cons (zv 1) (pa_cons (pe_tup (pa_cons (pe_glob rfl T.g_Has rfl) (pa_cons (pe_glob rfl T.g_Typed rfl) (pa_cons (pe_glob rfl T.g_Holds rfl) pa_nil)))) pa_nil))) (by intro _; rfl)))
  (pss_one (ps_raise rfl (takes_of rfl rfl rfl rfl) (pmk_ZB T.o_BadTest T.i_BadTest T.t_BadTest (ok_BadTest_init T) (hr.mono (by decide)) (fun z => nomatch z) T.e_BadTest_init rfl T.g_BadTest (by exact (pa_cons (zv 1) pa_nil)))))
  pss_nil)
  (pas_sup (fun pins s σ H D I q => at_super (ks := ["otherwise"]) SC T.sup_When_init (ok_Block_init T) (hr.mono (by decide)) (fun z => nomatch z) T.sb_Block_init (fun σ => passAt (takes_of rfl rfl rfl rfl) σ) (zv 3) (pk_cons (zv 2) pk_nil) rfl rfl rfl rfl rfl pins s σ H D I q)
  (pas_plain (pss_one (ps_fld (zv 0) (zv 1) rfl)))))
theorem pf_When_init {K : PySem.W.Frag} {mg : Str → Option Value} {g : Ads} (T : Txt K mg g) (vs : List V) (H : Hp) (Q : VK) (E : XK) (h : sp_When_init K g vs H Q E) : rw_When_init K g vs H Q E := by
  obtain ⟨o, dx, x1, x2, p, bs, ro, fl, isT, rfl, ho, ⟨t, ty, kt⟩, hp, lb, hro, hfl, q0, q1, q2⟩ := h
  refine ⟨rfl, (by decide : 3 ≤ sizeLine), fun tp htp => ?_⟩
  have s1 := Same.put (o := .tup [.ref g.c_Has, .ref g.c_Typed, .ref g.c_Holds]) htp
  have etp := upd_same (H := H) (a := tp) (o := .tup [.ref g.c_Has, .ref g.c_Typed, .ref g.c_Holds])
  generalize upd H tp (.tup [.ref g.c_Has, .ref g.c_Typed, .ref g.c_Holds]) = H1 at s1 etp
  refine ⟨x1, tp, _, t, _, isT, rfl, etp, .cons (.own _) (.cons (.own _) (.cons (.own _) .nil)), ty H1 s1, kt, ?_⟩
  cases isT with
  | false => exact raise_at fun d hd => q0 rfl _ d (s1.trans (Same.put hd)) (s1.free hd) upd_same
  | true =>
    have e1 := s1 _ _ ho
    have sh : Same (hid [o] H) (hid [o] H1) := hid_but (But.same s1)
    refine ⟨o, dx, [], rfl, e1, rfl, p, bs, rfl, .inl (Z.Same.tup (hid_sub.trans s1) hp), Nat.le_trans lb (by decide), fun p9 hp9 => ?_⟩
    have s2 := s1.trans (Same.put (o := .tup bs) hp9)
    have n9 : p9 ≠ o := (ne_of_none e1 hp9).symm
    have sh2 : Same (hid [o] H) (hid [o] (upd H1 p9 (.tup bs))) := hid_but (But.same s2)
    refine ⟨o, g.c_When, dx, x2, p9, bs, ro, fl, rfl, by rw [upd_ne n9.symm]; exact e1, .inl rfl, SqT.of (hid_at (by simpa using n9) upd_same), lb, hro.same sh2, fun os e => paired_imp (hfl os e) fun _ _ z => z.same s2, fun j e => (q1 rfl j e).same s2, fun e os eo H3 q b3 e3 hq => ?_⟩
    refine ⟨o, g.c_When, dx, blkF p9 q, rfl, e3, T.cl_When, T.na_When_test, (by simp [blkF]), ?_⟩
    have b4 := ((But.same s2).trans b3).trans (But.put (H := H3) (o := .ins g.c_When dx (whnF p9 q x1)))
    exact q2 rfl e os eo _ p9 q b4 upd_same (SqT.of (hid_at (by simpa using n9) (by rw [upd_ne n9]; exact b3 _ _ upd_same n9))) (Z.Same.tup (hid_but But.put) hq)
theorem ok_When_init {P : Program} [SupP P] {w : World} {K : PySem.W.Frag} {mg : Str → Option Value} {base : Heap} {g : Ads} (T : Txt K mg g) : FnS false P w K mg base 4 g.f_When_init g.d_When_init ["self", "test", "otherwise", "body"] 2 1 (sp_When_init K g) := (raw_When_init T).imp (pf_When_init T)
/-! ### what is made -/
def WhenAt (K : PySem.W.Frag) (g : Ads) (H : Hp) (o : Addr) (x : V) (bs os : List V) : Prop := ∃ dx p q, H o = some (.ins g.c_When dx (whnF p q x)) ∧ SqT K H p bs ∧ SqT K H q os
def AttAt (K : PySem.W.Frag) (g : Ads) (H : Hp) (o : Addr) (bs os : List V) : Prop := ∃ dx p q, H o = some (.ins g.c_Attempt dx (blkF p q)) ∧ SqT K H p bs ∧ SqT K H q os
theorem WhenAt.same {K : PySem.W.Frag} {g : Ads} {H H' : Hp} {o : Addr} {x : V} {bs os : List V} (h : WhenAt K g H o x bs os) (s : Same H H') : WhenAt K g H' o x bs os := by
  obtain ⟨dx, p, q, h1, h2, h3⟩ := h
  exact ⟨dx, p, q, s _ _ h1, Z.Same.tup s h2, Z.Same.tup s h3⟩
theorem AttAt.same {K : PySem.W.Frag} {g : Ads} {H H' : Hp} {o : Addr} {bs os : List V} (h : AttAt K g H o bs os) (s : Same H H') : AttAt K g H' o bs os := by
  obtain ⟨dx, p, q, h1, h2, h3⟩ := h
  exact ⟨dx, p, q, s _ _ h1, Z.Same.tup s h2, Z.Same.tup s h3⟩
theorem mk_same {H : Hp} {o dx C : Addr} (ho : H o = none) (hd : H dx = none) (ne : dx ≠ o) : Same H (upd (upd H dx (.own o)) o (.ins C dx [])) ∧ (upd H dx (.own o)) o = none := by
  have h1 : (upd H dx (.own o)) o = none := by
    rw [upd_ne ne.symm]
    exact ho
  exact ⟨(Same.put hd).trans (Same.put h1), h1⟩
theorem mk_hid {H H1 : Hp} {o : Addr} (ho : H o = none) (s : Same H H1) : Same H (hid [o] H1) := fun b u e => hid_at (by simpa using ne_of_none e ho) (s _ _ e)
theorem mk_out {H H1 H2 : Hp} {o : Addr} (ho : H o = none) (s : Same H H1) (b : But o H1 H2) : Same H H2 := fun c u e => b _ _ (s _ _ e) (ne_of_none e ho)
/-- what the constructors ask: the rows and what comes of them -/
structure Rows2 (K : PySem.W.Frag) (g : Ads) (H : Hp) (E : XK) (x2 : V) (bs : List V) (ro : Option (List V)) (fl : List Bool) : Prop where
  lb : bs.length ≤ 1000
  row : RowAt K H x2 ro
  th : ∀ os, ro = some os → Paired (Thg K g H) (bs ++ os) fl
def sp_When_new (K : PySem.W.Frag) (g : Ads) (H : Hp) (x1 x2 : V) (bs : List V) (Q : VK) (E : XK) : Prop := ∃ (ro : Option (List V)) (fl : List Bool) (isT : Bool),
  Rows2 K g H E x2 bs ro fl ∧ TstB K g H x1 isT ∧ (isT = false → BadT g H E x1) ∧ (isT = true → ∀ j, rowO fl ro = some j → BadS g H E j) ∧
  (isT = true → rowO fl ro = none → ∀ os, ro = some os → ∀ o H', Same H H' → H o = none → WhenAt K g H' o x1 bs os → Q (.ref o) H')
theorem when_new {K : PySem.W.Frag} {g : Ads} {H : Hp} {Q : VK} {E : XK} {x1 x2 : V} {bs : List V} (h : sp_When_new K g H x1 x2 bs Q E) : NewS g.c_When 1 (sp_When_init K g) (fun zs => zs) E (x1 :: bs) [x2] H Q := by
  obtain ⟨ro, fl, isT, ⟨lb, hro, hth⟩, ht, q0, q1, q2⟩ := h
  refine ⟨[x1], bs, rfl, rfl, Nat.le_trans lb (by decide), fun o dx p ho hd ne hp => ?_⟩
  obtain ⟨s1, _⟩ := mk_same (C := g.c_When) ho hd ne
  have s2 := s1.trans (Same.put (o := .tup bs) hp)
  have np : p ≠ o := (ne_of_none upd_same hp).symm
  refine ⟨o, dx, x1, x2, p, bs, ro, fl, isT, rfl, by rw [upd_ne np.symm, upd_same], ht.same s2, SqT.of (hid_at (by simpa using np) upd_same), lb, hro.same (mk_hid ho s2), fun os e => paired_imp (hth os e) fun _ _ z => z.same s2, fun e => (q0 e).same s2, fun e j ej => (q1 e j ej).same s2, fun e en os eo H' pb q b e' h1 h2 => ⟨rfl, ?_⟩⟩
  exact q2 e en os eo o H' (mk_out ho s2 b) ho ⟨dx, pb, q, e', Z.Same.tup hid_sub h1, Z.Same.tup hid_sub h2⟩
def sp_Att_new (K : PySem.W.Frag) (g : Ads) (H : Hp) (x2 : V) (bs : List V) (Q : VK) (E : XK) : Prop := ∃ (ro : Option (List V)) (fl : List Bool),
  Rows2 K g H E x2 bs ro fl ∧ (∀ j, rowO fl ro = some j → BadS g H E j) ∧ (rowO fl ro = none → ∀ os, ro = some os → ∀ o H', Same H H' → H o = none → AttAt K g H' o bs os → Q (.ref o) H')
theorem att_new {K : PySem.W.Frag} {g : Ads} {H : Hp} {Q : VK} {E : XK} {x2 : V} {bs : List V} (h : sp_Att_new K g H x2 bs Q E) : NewS g.c_Attempt 0 (sp_Block_init K g) (fun zs => zs) E bs [x2] H Q := by
  obtain ⟨ro, fl, ⟨lb, hro, hth⟩, q1, q2⟩ := h
  refine ⟨[], bs, rfl, rfl, Nat.le_trans lb (by decide), fun o dx p ho hd ne hp => ?_⟩
  obtain ⟨s1, _⟩ := mk_same (C := g.c_Attempt) ho hd ne
  have s2 := s1.trans (Same.put (o := .tup bs) hp)
  have np : p ≠ o := (ne_of_none upd_same hp).symm
  have ep : SqT K (hid [o] (upd (upd (upd H dx (.own o)) o (.ins g.c_Attempt dx [])) p (.tup bs))) p bs := SqT.of (hid_at (by simpa using np) upd_same)
  refine ⟨o, g.c_Attempt, dx, x2, p, bs, ro, fl, rfl, by rw [upd_ne np.symm, upd_same], .inr rfl, ep, lb, hro.same (mk_hid ho s2), fun os e => paired_imp (hth os e) fun _ _ z => z.same s2, fun j ej => (q1 j ej).same s2, fun en os eo H' q b e' h2 => ⟨rfl, ?_⟩⟩
  exact q2 en os eo o H' (mk_out ho s2 b) ho ⟨dx, p, q, e', SqT.of (b _ _ upd_same np), Z.Same.tup hid_sub h2⟩
def sp_When_made (K : PySem.W.Frag) (g : Ads) : Sp := fun vs H Q E => ∃ (x1 x2 : V) (b : Addr) (bs : List V), vs = [.ref g.c_When, x1, .ref b, x2] ∧ Sq K H b bs ∧ sp_When_new K g H x1 x2 bs Q E
def sp_Attempt_made (K : PySem.W.Frag) (g : Ads) : Sp := fun vs H Q E => ∃ (x2 : V) (b : Addr) (bs : List V), vs = [.ref g.c_Attempt, .ref b, x2] ∧ Sq K H b bs ∧ sp_Att_new K g H x2 bs Q E
theorem sc_When_made : FnScope ["cls", "test", "body", "otherwise"] ["cls", "test", "body", "otherwise"] (defScope s_When_made) := ⟨rfl, rfl, rfl, by decide +kernel, rfl, by decide +kernel, by decide +kernel⟩
def R_When_made (K : PySem.W.Frag) (g : Ads) (E : XK) : TS :=
  (tRet (zNewSK 0 g.c_When 1 1 (sp_When_init K g) (fun zs => zs) (WE (fun cls d _ H => E cls d H)) (tCons (zVar 1) (StX.tStar K (zVar 2) tNil)) (tCons (zVar 3) tNil)))
def rw_When_made (K : PySem.W.Frag) (g : Ads) : Sp := fun vs H Q E => vs.length = 4 ∧ R_When_made K g E { nx := fun _ H' => Q .non H', rt := Q } (start ["cls", "test", "body", "otherwise"] vs) H
theorem raw_When_made {P : Program} [SupP P] {w : World} {K : PySem.W.Frag} {mg : Str → Option Value} {base : Heap} {g : Ads} (T : Txt K mg g) : FnG false P w K mg base 6 g.f_When_made g.d_When_made ["cls", "test", "body", "otherwise"] (rw_When_made K g) := by
  refine okA T.f_When_made sc_When_made (fun vs H Q E h => h.1) (fun cdv A outer s H vs Q E hr hgu h => ⟨R_When_made K g E, ?_, h.2⟩)
  exact (pss_one (ps_ret (pe_zNewSK (i := 0) (ks := ["otherwise"]) (n := 1) T.m_When (ok_When_init T) (hr.mono (by decide)) (fun z => nomatch z) T.sb_When_init rfl (Or.inl rfl) (fun σ => passAt (takes_of rfl rfl rfl rfl) σ) (pa_cons (zv 1) (StX.pa_star (zv 2) pa_nil)) (pk_cons (zv 3) pk_nil))))
theorem sc_Attempt_made : FnScope ["cls", "body", "otherwise"] ["cls", "body", "otherwise"] (defScope s_Attempt_made) := ⟨rfl, rfl, rfl, by decide +kernel, rfl, by decide +kernel, by decide +kernel⟩
def R_Attempt_made (K : PySem.W.Frag) (g : Ads) (E : XK) : TS :=
  (tRet (zNewLK K 0 g.c_Attempt 1 (sp_Block_init K g) (fun zs => zs) (WE (fun cls d _ H => E cls d H)) (zVar 1) (tCons (zVar 2) tNil)))
def rw_Attempt_made (K : PySem.W.Frag) (g : Ads) : Sp := fun vs H Q E => vs.length = 3 ∧ R_Attempt_made K g E { nx := fun _ H' => Q .non H', rt := Q } (start ["cls", "body", "otherwise"] vs) H
theorem raw_Attempt_made {P : Program} [SupP P] {w : World} {K : PySem.W.Frag} {mg : Str → Option Value} {base : Heap} {g : Ads} (T : Txt K mg g) : FnG false P w K mg base 5 g.f_Attempt_made g.d_Attempt_made ["cls", "body", "otherwise"] (rw_Attempt_made K g) := by
  refine okA T.f_Attempt_made sc_Attempt_made (fun vs H Q E h => h.1) (fun cdv A outer s H vs Q E hr hgu h => ⟨R_Attempt_made K g E, ?_, h.2⟩)
  exact (pss_one (ps_ret (pe_zNewLK (i := 0) (ks := ["otherwise"]) T.m_Attempt (ok_Block_init T) (hr.mono (by decide)) (fun z => nomatch z) T.sb_Block_init rfl (Or.inl rfl) (fun σ => passAt (takes_of rfl rfl rfl rfl) σ) (zv 1) (pk_cons (zv 2) pk_nil))))
theorem ok_When_made {P : Program} [SupP P] {w : World} {K : PySem.W.Frag} {mg : Str → Option Value} {base : Heap} {g : Ads} (T : Txt K mg g) : FnG false P w K mg base 6 g.f_When_made g.d_When_made ["cls", "test", "body", "otherwise"] (sp_When_made K g) :=
  (raw_When_made T).imp fun vs H Q E ⟨x1, x2, b, bs, e, hb, h⟩ => by
    subst e
    refine ⟨rfl, rfl, b, bs, rfl, hb, rfl, ?_⟩
    show NewS g.c_When 1 (sp_When_init K g) (fun zs => zs) E (x1 :: (bs ++ [])) [x2] H Q
    rw [List.append_nil]
    exact when_new h
theorem ok_Attempt_made {P : Program} [SupP P] {w : World} {K : PySem.W.Frag} {mg : Str → Option Value} {base : Heap} {g : Ads} (T : Txt K mg g) : FnG false P w K mg base 5 g.f_Attempt_made g.d_Attempt_made ["cls", "body", "otherwise"] (sp_Attempt_made K g) :=
  (raw_Attempt_made T).imp fun vs H Q E ⟨x2, b, bs, e, hb, h⟩ => by
    subst e
    exact ⟨rfl, rfl, rfl, b, bs, rfl, hb, att_new h⟩
end Z
namespace Z
open PySem PySem.Spec PyProof.Rows L2
def sp_Twice_init (K : PySem.W.Frag) (g : Ads) : Sp := sp_x1 g.c_Twice "name"
theorem sc_Twice_init : FnScope ["self", "name"] ["self", "name"] (defScope s_Twice_init) := ⟨rfl, rfl, rfl, by decide +kernel, rfl, by decide +kernel, by decide +kernel⟩
def R_Twice_init (K : PySem.W.Frag) (g : Ads) (E : XK) : TS :=
  (tOstB K "name" (zVar 0) (zVar 1))
def rw_Twice_init (K : PySem.W.Frag) (g : Ads) : Sp := fun vs H Q E => vs.length = 2 ∧ R_Twice_init K g E { nx := fun _ H' => Q .non H', rt := Q } (start ["self", "name"] vs) H
theorem raw_Twice_init {P : Program} [SupP P] {w : World} {K : PySem.W.Frag} {mg : Str → Option Value} {base : Heap} {g : Ads} (T : Txt K mg g) : FnG false P w K mg base 1 g.f_Twice_init g.d_Twice_init ["self", "name"] (rw_Twice_init K g) := by
  refine okZ T.f_Twice_init sc_Twice_init (fun vs H Q E h => h.1) (fun cdv A outer s H vs Q E hr hgu h => ⟨R_Twice_init K g E, ?_, h.2⟩)
  exact (pss_one (ps_ostB (zv 0) (zv 1)))
theorem ok_Twice_init {P : Program} [SupP P] {w : World} {K : PySem.W.Frag} {mg : Str → Option Value} {base : Heap} {g : Ads} (T : Txt K mg g) : FnG false P w K mg base 1 g.f_Twice_init g.d_Twice_init ["self", "name"] (sp_Twice_init K g) :=
  (raw_Twice_init T).imp fun vs H Q E ⟨a, v, e, ha, k⟩ => by
    subst e
    exact ⟨rfl, a, g.c_Twice, rfl, T.o_Twice, T.a_Twice_name, .inl ⟨ha, k⟩⟩
theorem same_new {H H' : Hp} {D : Addr} {u : HO} (hD : H D = none) (s : Same H H') : Same H (upd H' D u) := fun b o e => by
  rw [upd_ne (ne_of_none e hD)]
  exact s _ _ e
/-! ### names that stand twice -/
def isDup (ns : List Str) (i : Nat) : Bool := decide (ns.getD i "" ∈ ns.take i)
def dupUp (ns : List Str) (i : Nat) : List Str := ((List.range i).filter (isDup ns)).map fun k => ns.getD k ""
def dupOf (ns : List Str) : Option Str := (dupUp ns ns.length).head?
theorem dupUp_succ (ns : List Str) (i : Nat) : dupUp ns (i + 1) = dupUp ns i ++ (if isDup ns i = true then [ns.getD i ""] else []) := by
  unfold dupUp
  rw [List.range_succ, List.filter_append, List.map_append]
  congr 1
  by_cases h : isDup ns i = true
  · rw [if_pos h]
    simp [h]
  · rw [if_neg h]
    simp [h]
theorem dupUp_pre (ns : List Str) (i : Nat) : ∀ k, ∃ r, dupUp ns (i + k) = dupUp ns i ++ r
  | 0 => ⟨[], by simp⟩
  | k + 1 => by
    obtain ⟨r, e⟩ := dupUp_pre ns i k
    rw [show i + (k + 1) = i + k + 1 from rfl, dupUp_succ, e]
    exact ⟨_, List.append_assoc ..⟩
theorem dupOf_at {ns : List Str} {i : Nat} (hi : i < ns.length) (h0 : dupUp ns i = []) (h1 : isDup ns i = true) : dupOf ns = some (ns.getD i "") := by
  obtain ⟨r, e⟩ := dupUp_pre ns (i + 1) (ns.length - (i + 1))
  rw [show i + 1 + (ns.length - (i + 1)) = ns.length by omega, dupUp_succ, h0, if_pos h1] at e
  unfold dupOf
  rw [e]
  rfl
theorem inV_strs (z : Str) (ns : List Str) : inV (.str z) (ns.map V.str) = decide (z ∈ ns) := by
  induction ns with
  | nil => rfl
  | cons a r ih =>
    have e : inV (.str z) ((a :: r).map V.str) = (eqV (.str a) (.str z) || inV (.str z) (r.map V.str)) := rfl
    rw [e, ih]
    have e2 : eqV (.str a) (.str z) = decide (a = z) := by
      show (a == z) = _
      by_cases h : a = z
      · simp [h]
      · simp [h]
    rw [e2]
    by_cases h1 : a = z
    · simp [h1]
    · have : ¬ z = a := fun h => h1 h.symm
      simp [h1, this]
theorem all_flat (ns : List Str) : (ns.map V.str).all flatV = true := by
  rw [List.all_eq_true]
  intro v hv
  obtain ⟨z, _, rfl⟩ := List.mem_map.mp hv
  rfl
theorem cut_take (xs : List V) (i : Nat) : cutV xs none (some (i : Int)) = xs.take i := by
  unfold cutV
  rw [HT.sIx_nat, HT.sIx_none, List.drop_zero, Nat.sub_zero]
  by_cases h : i ≤ xs.length
  · rw [Nat.min_eq_left h]
  · rw [Nat.min_eq_right (by omega), List.take_of_length_le (Nat.le_refl _), List.take_of_length_le (by omega)]
theorem get_strs {ns : List Str} {i : Nat} {x : V} (h : (ns.map V.str)[i]? = some x) : x = .str (ns.getD i "") ∧ i < ns.length ∧ ns.getD i "" ∈ ns := by
  rw [List.getElem?_map] at h
  cases e : ns[i]? with
  | none =>
    rw [e] at h
    cases h
  | some z =>
    rw [e] at h
    cases h
    have e2 : ns.getD i "" = z := by simp [List.getD_eq_getElem?_getD, e]
    rw [e2]
    exact ⟨rfl, (List.getElem?_eq_some_iff.mp e).1, List.mem_of_getElem? e⟩
def sp_check_unlike (K : PySem.W.Frag) (g : Ads) : Sp := fun vs H Q E => ∃ (l : Addr) (ns : List Str), vs = [.ref l] ∧ SqL K H l (ns.map V.str) ∧ (dupOf ns = none → ∀ H', Same H H' → Q .non H') ∧
  ∀ z, dupOf ns = some z → ∀ H' d, Same H H' → H d = none → H' d = some (.xd [("name", .str z)]) → E (.ref g.c_Twice) (some d) H'
theorem sc_check_unlike : FnScope ["names", "index", "name"] ["names"] (defScope s_check_unlike) := ⟨rfl, rfl, rfl, by decide +kernel, rfl, by decide +kernel, by decide +kernel⟩
def R_check_unlike_3 (K : PySem.W.Frag) (g : Ads) (E : XK) : TS :=
  (zRaise (fun cls d _ H => E cls d H) g.c_Twice (sp_Twice_init K g) (tCons (zVar 2) tNil))
def R_check_unlike_2 (K : PySem.W.Frag) (g : Ads) (E : XK) : TS :=
  (tIfS (zTest (tOp (zIn K) (zVar 2) (tSl (rSlL K) (zVar 0) tNoPart (tPart (zVar 1)))))
  (R_check_unlike_3 K g E)
  tNext)
def R_check_unlike (K : PySem.W.Frag) (g : Ads) (E : XK) : TS :=
  (zFor (zEnum K (tCons (zVar 0) tNil)) (gTup K 2 (gCons (gName 1) (gCons (gName 2) gNil)))
  (R_check_unlike_2 K g E))
def rw_check_unlike (K : PySem.W.Frag) (g : Ads) : Sp := fun vs H Q E => vs.length = 1 ∧ R_check_unlike K g E { nx := fun _ H' => Q .non H', rt := Q } (start ["names", "index", "name"] vs) H
theorem raw_check_unlike {P : Program} [SupP P] {w : World} {K : PySem.W.Frag} {mg : Str → Option Value} {base : Heap} {g : Ads} (T : Txt K mg g) : FnG false P w K mg base 3 g.f_check_unlike g.d_check_unlike ["names"] (rw_check_unlike K g) := by
  refine okZ T.f_check_unlike sc_check_unlike (fun vs H Q E h => h.1) (fun cdv A outer s H vs Q E hr hgu h => ⟨R_check_unlike K g E, ?_, h.2⟩)
  exact (pss_one (psz_for PassesOwn.leaving rfl (pi_zEnum (by rfl) T.b_enumerate (pa_cons (zv 0) pa_nil)) (pg_tup rfl (pgs_cons (pg_name (i := 1) sc_check_unlike.nd rfl (Or.inl rfl)) (pgs_cons (pg_name (i := 2) sc_check_unlike.nd rfl (Or.inl rfl)) pgs_nil)))
  (pss_one (ps_if (ptz_cmp op_zIn (zv 2) (pe_slice sl_list (zv 0) po_none (po_some (zv 1))) (by rfl))
  (pss_one (ps_raise rfl (takes_of rfl rfl rfl rfl) (pmk_ZB T.o_Twice T.i_Twice T.t_Twice (ok_Twice_init T) (hr.mono (by decide)) (fun z => nomatch z) T.e_Twice_init rfl T.g_Twice (by exact (pa_cons (zv 2) pa_nil)))))
  pss_nil))))
theorem pf_check_unlike {K : PySem.W.Frag} {g : Ads} (vs : List V) (H : Hp) (Q : VK) (E : XK) (h : sp_check_unlike K g vs H Q E) : rw_check_unlike K g vs H Q E := by
  obtain ⟨l, ns, rfl, hl, q1, q2⟩ := h
  refine ⟨rfl, l, _, rfl, .inl ⟨hl, for_z (walk_enum (xs := ns.map V.str)) (fun i σ H' => Same H H' ∧ dupUp ns i = [] ∧ ∃ v1 v2, σ = [some (.ref l), v1, v2]) ⟨Same.refl H, rfl, _, _, rfl⟩ (fun i σ H' _ hh => hh.1.seq hl) ?_ ?_⟩⟩
  · rintro i x σ H1 H2 hi ⟨s1, hb, v1, v2, rfl⟩ ⟨T1, x1, x2, rfl, hT, rfl, f1, f2⟩
    cases f1
    obtain ⟨rfl, li, hm⟩ := get_strs f2
    have s2 := s1.trans (Same.put (o := .tup [V.int (i : Nat), .str (ns.getD i "")]) hT)
    refine ⟨T1, _, rfl, SqT.of upd_same, rfl, _, _, rfl, _, _, rfl, rfl, (i : Int), rfl, l, _, rfl, s2.seq hl, fun p hp => ?_⟩
    have s3 := s2.trans (Same.put (o := .lst (cutV (ns.map V.str) none (some ((i : Nat) : Int)))) hp)
    have ec : cutV (ns.map V.str) none (some ((i : Nat) : Int)) = (ns.take i).map V.str := by rw [cut_take, List.map_take]
    refine .inr ⟨p, _, rfl, .inl (SqL.of upd_same), rfl, by rw [ec]; exact all_flat _, ?_⟩
    show if inV (.str (ns.getD i "")) (cutV (ns.map V.str) none (some ((i : Nat) : Int))) = true then _ else _
    rw [ec] at s3
    rw [ec, inV_strs]
    refine zite (fun hd => ?_) (fun hd => ?_)
    · exact raise_at fun d hd2 => q2 (ns.getD i "") (dupOf_at li hb hd) _ d (s3.trans (Same.put hd2)) (s3.free hd2) upd_same
    · refine ⟨s3, ?_, _, _, rfl⟩
      · rw [dupUp_succ, hb, if_neg (by rw [show isDup ns i = false from hd]; decide)]
        rfl
  · rintro σ H1 ⟨s1, hb, v1, v2, rfl⟩
    rw [List.length_map] at hb
    exact q1 (by unfold dupOf; rw [hb]; rfl) H1 s1
theorem ok_check_unlike {P : Program} [SupP P] {w : World} {K : PySem.W.Frag} {mg : Str → Option Value} {base : Heap} {g : Ads} (T : Txt K mg g) : FnG false P w K mg base 3 g.f_check_unlike g.d_check_unlike ["names"] (sp_check_unlike K g) := (raw_check_unlike T).imp pf_check_unlike
/-- a plain step: refuse, let -/
def PlS (g : Ads) (H : Hp) (v : V) : Prop := ∃ a dx, v = .ref a ∧ (H a = some (.ins g.c_Refuse dx []) ∨ ∃ x y, H a = some (.ins g.c_Let dx [("into", x), ("value", y)]))
theorem PlS.same {g : Ads} {H H' : Hp} {v : V} (h : PlS g H v) (s : Same H H') : PlS g H' v := by
  obtain ⟨a, dx, e, h | ⟨x, y, h⟩⟩ := h
  · exact ⟨a, dx, e, .inl (s _ _ h)⟩
  · exact ⟨a, dx, e, .inr ⟨x, y, s _ _ h⟩⟩
def sp_Step_inner (K : PySem.W.Frag) (g : Ads) : Sp := fun vs H Q E => ∃ x, vs = [x] ∧ ∀ l H', Same H H' → H l = none → H' l = some (.lst [x]) → Q (.ref l) H'
theorem sc_Step_inner : FnScope ["self"] ["self"] (defScope s_Step_inner) := ⟨rfl, rfl, rfl, by decide +kernel, rfl, by decide +kernel, by decide +kernel⟩
def R_Step_inner (K : PySem.W.Frag) (g : Ads) (E : XK) : TS :=
  (tRet (tLst (tCons (zVar 0) tNil)))
def rw_Step_inner (K : PySem.W.Frag) (g : Ads) : Sp := fun vs H Q E => vs.length = 1 ∧ R_Step_inner K g E { nx := fun _ H' => Q .non H', rt := Q } (start ["self"] vs) H
theorem raw_Step_inner {P : Program} [SupP P] {w : World} {K : PySem.W.Frag} {mg : Str → Option Value} {base : Heap} {g : Ads} (T : Txt K mg g) : FnG false P w K mg base 1 g.f_Step_inner g.d_Step_inner ["self"] (rw_Step_inner K g) := by
  refine okZ T.f_Step_inner sc_Step_inner (fun vs H Q E h => h.1) (fun cdv A outer s H vs Q E hr hgu h => ⟨R_Step_inner K g E, ?_, h.2⟩)
  exact (pss_one (ps_ret (pe_lst (pa_cons (zv 0) pa_nil))))
theorem ok_Step_inner {P : Program} [SupP P] {w : World} {K : PySem.W.Frag} {mg : Str → Option Value} {base : Heap} {g : Ads} (T : Txt K mg g) : FnG false P w K mg base 1 g.f_Step_inner g.d_Step_inner ["self"] (sp_Step_inner K g) :=
  (raw_Step_inner T).imp fun vs H Q E ⟨x, e, q⟩ => by
    subst e
    exact ⟨rfl, show 1 ≤ sizeLine by decide, fun l hl => q l _ (Same.put hl) hl upd_same⟩

/-! ### making plain steps and tests of right parts -/
section
variable {K : PySem.W.Frag} {g : Ads} {H : Hp} {Q : VK} {E : XK}
theorem has_new {v : V} {o dx : Addr} {R : VK} (ho : H o = none) (hd : H dx = none) (ne : dx ≠ o) (kv : Knd K H v) (ov : isOperV v = true) (q : ∀ H', Same H H' → H' o = some (.ins g.c_Has dx [("value", v)]) → R .non H') :
    sp_Has_init K g [.ref o, v] (upd (upd H dx (.own o)) o (.ins g.c_Has dx [])) R E := by
  obtain ⟨s1, _⟩ := mk_same (C := g.c_Has) ho hd ne
  have e : chk [(false, v, PyData.none)] = .ok := by simp [chk, ov]
  exact ⟨o, dx, v, .none, rfl, upd_same, kv.same (mk_hid ho s1), fun _ H' b e' => q H' (mk_out ho s1 b) e', fun k x d z => by rw [e] at z; cases z⟩
theorem let_new {x v : V} {o dx : Addr} {R : VK} (ho : H o = none) (hd : H dx = none) (ne : dx ≠ o) (kx : Knd K H x) (kv : Knd K H v) (nx : isNameV x = true) (ov : isOperV v = true)
    (q : ∀ H', Same H H' → H' o = some (.ins g.c_Let dx [("into", x), ("value", v)]) → R .non H') :
    sp_Let_init K g [.ref o, x, v] (upd (upd H dx (.own o)) o (.ins g.c_Let dx [])) R E := by
  obtain ⟨s1, _⟩ := mk_same (C := g.c_Let) ho hd ne
  have e : chk [(true, x, PyData.none), (false, v, PyData.none)] = .ok := by simp [chk, nx, ov]
  exact ⟨o, dx, x, v, .none, .none, rfl, upd_same, kx.same (mk_hid ho s1), kv.same (mk_hid ho s1), fun _ H' b e' => q H' (mk_out ho s1 b) e', fun k x d z => by rw [e] at z; cases z⟩
end
/-! ### the kinds of things -/
section
variable {K : PySem.W.Frag} {mg : Str → Option Value} {g : Ads} {H : Hp}
theorem tyu_ins {C a dx : Addr} {fs : List (Str × V)} (c : CIns K C) (e : H a = some (.ins C dx fs)) : TyU K H (.ref a) (.ref C) := fun H' s => .base (.ins (s _ _ e) c.cl c.ha c.hn c.ht c.hm)
theorem tyu_lst {a : Addr} {xs : List V} (e : H a = some (.lst xs)) : TyU K H (.ref a) (.type "list") := fun H' s => (TyR.ty (t := "list") (.inl ⟨rfl, xs, SqL.of (s _ _ e)⟩)).1
theorem tyu_tup {a : Addr} {xs : List V} (e : H a = some (.tup xs)) : TyU K H (.ref a) (.type "tuple") := fun H' s => (TyR.ty (t := "tuple") (.inr (.inl ⟨rfl, xs, SqT.of (s _ _ e)⟩))).1
theorem tyu_dK {a : Addr} {kvs : List (Key × V)} (e : H a = some (.dK kvs)) : TyU K H (.ref a) (.type "dict") := fun H' s => .base (.dK (s _ _ e))
theorem tyu_non : TyU K H .non (.type "NoneType") := fun _ _ => .base .non
theorem tyu_bl {b : Bool} : TyU K H (.bl b) (.type "bool") := fun _ _ => .base (.bl _)
theorem tyu_int {i : Int} : TyU K H (.int i) (.type "int") := fun _ _ => .base (.int _)
theorem tyu_str {z : Str} : TyU K H (.str z) (.type "str") := fun _ _ => .base (.str _)
theorem tst3 {t : Value} (h1 : PySem.W.kitOne K t (.ref g.c_Has) = some false) (h2 : PySem.W.kitOne K t (.ref g.c_Typed) = some false) (h3 : PySem.W.kitOne K t (.ref g.c_Holds) = some false) : PySem.W.kitAny K t [.ref g.c_Has, .ref g.c_Typed, .ref g.c_Holds] = some false :=
  kitAny_cons (b := false) h1 (fun _ => kitAny_cons (b := false) h2 (fun _ => kitAny_cons (b := false) h3 (fun _ => kitAny_nil) (fun z => nomatch z)) (fun z => nomatch z)) (fun z => nomatch z)
theorem tst_has (T : Txt K mg g) {a dx : Addr} {fs : List (Str × V)} (e : H a = some (.ins g.c_Has dx fs)) : TstB K g H (.ref a) true := ⟨_, tyu_ins T.ci_Has e, kitAny_cons (b := true) kit_one (fun z => nomatch z) (fun _ => rfl)⟩
theorem thg_pls (T : Txt K mg g) {v : V} (h : PlS g H v) : Thg K g H v false := by
  obtain ⟨a, dx, rfl, h | ⟨x, y, h⟩⟩ := h
  · exact ⟨_, tyu_ins T.ci_Refuse h, T.su_Refuse_Step⟩
  · exact ⟨_, tyu_ins T.ci_Let h, T.su_Let_Step⟩
theorem smv_ref {a : Addr} : SmV (.ref a) := .inr (.inr (.inr (.inr ⟨a, rfl⟩)))
theorem pls_sm {v : V} (h : PlS g H v) : SmV v := by
  obtain ⟨a, dx, rfl, _⟩ := h
  exact smv_ref
end
/-! ### trees of steps -/
inductive Tr where
  | leaf (v : V)
  | blk (w : Bool) (a : Addr) (b o : List Tr)
def Tr.v : Tr → V
  | .leaf v => v
  | .blk _ a _ _ => .ref a
mutual
def Tr.inn : Tr → List V
  | .leaf v => [v]
  | .blk _ a b o => .ref a :: (inns b ++ inns o)
def inns : List Tr → List V
  | [] => []
  | t :: r => t.inn ++ inns r
end
mutual
def Tr.dep : Tr → Nat
  | .leaf _ => 0
  | .blk _ _ b o => max (dpt b) (dpt o)
def dpt : List Tr → Nat
  | [] => 0
  | t :: r => max (t.dep + 1) (dpt r)
end
mutual
def TrAt (K : PySem.W.Frag) (g : Ads) (H : Hp) : Tr → Prop
  | .leaf v => PlS g H v
  | .blk w a b o => ((w = true ∧ ∃ x, WhenAt K g H a x (b.map Tr.v) (o.map Tr.v)) ∨ (w = false ∧ AttAt K g H a (b.map Tr.v) (o.map Tr.v))) ∧ b.length ≤ 20 ∧ o.length ≤ 20 ∧ TrsAt K g H b ∧ TrsAt K g H o
def TrsAt (K : PySem.W.Frag) (g : Ads) (H : Hp) : List Tr → Prop
  | [] => True
  | t :: r => TrAt K g H t ∧ TrsAt K g H r
end
mutual
theorem TrAt.same {K : PySem.W.Frag} {g : Ads} {H H' : Hp} (s : Same H H') : ∀ (t : Tr), TrAt K g H t → TrAt K g H' t
  | .leaf v, h => by
    simp only [TrAt] at h ⊢
    exact h.same s
  | .blk w a b o, h => by
    simp only [TrAt] at h ⊢
    exact ⟨h.1.imp (fun z => ⟨z.1, z.2.imp fun _ q => q.same s⟩) (fun z => ⟨z.1, z.2.same s⟩), h.2.1, h.2.2.1, TrsAt.same s b h.2.2.2.1, TrsAt.same s o h.2.2.2.2⟩
theorem TrsAt.same {K : PySem.W.Frag} {g : Ads} {H H' : Hp} (s : Same H H') : ∀ (ts : List Tr), TrsAt K g H ts → TrsAt K g H' ts
  | [], _ => by simp only [TrsAt]
  | t :: r, h => by
    simp only [TrsAt] at h ⊢
    exact ⟨TrAt.same s t h.1, TrsAt.same s r h.2⟩
end
theorem TrsAt.mem {K : PySem.W.Frag} {g : Ads} {H : Hp} : ∀ {ts : List Tr}, TrsAt K g H ts → ∀ t ∈ ts, TrAt K g H t
  | [], _, t, m => by cases m
  | x :: r, h, t, m => by
    simp only [TrsAt] at h
    rcases List.mem_cons.mp m with rfl | m
    · exact h.1
    · exact TrsAt.mem h.2 t m
theorem TrsAt.of {K : PySem.W.Frag} {g : Ads} {H : Hp} : ∀ {ts : List Tr}, (∀ t ∈ ts, TrAt K g H t) → TrsAt K g H ts
  | [], _ => by simp only [TrsAt]
  | x :: r, h => by
    simp only [TrsAt]
    exact ⟨h x List.mem_cons_self, TrsAt.of fun t m => h t (List.mem_cons_of_mem _ m)⟩
theorem inns_app : ∀ (a b : List Tr), inns (a ++ b) = inns a ++ inns b
  | [], b => by simp [inns]
  | t :: r, b => by simp [inns, inns_app r b]
theorem dpt_app : ∀ (a b : List Tr), dpt (a ++ b) = max (dpt a) (dpt b)
  | [], b => by simp [dpt]
  | t :: r, b => by simp [dpt, dpt_app r b, Nat.max_assoc]
theorem dpt_mem : ∀ {ts : List Tr} {t : Tr}, t ∈ ts → t.dep + 1 ≤ dpt ts
  | x :: r, t, m => by
    simp only [dpt]
    rcases List.mem_cons.mp m with rfl | m
    · exact Nat.le_max_left _ _
    · exact Nat.le_trans (dpt_mem m) (Nat.le_max_right _ _)
theorem inn_mem : ∀ {ts : List Tr} {t : Tr}, t ∈ ts → t.inn.length ≤ (inns ts).length
  | x :: r, t, m => by
    simp only [inns, List.length_append]
    rcases List.mem_cons.mp m with rfl | m
    · omega
    · have := inn_mem m
      omega
/-- a tree at a place of the row -/
theorem tr_get {ts : List Tr} {i : Nat} {x : V} (h : (ts.map Tr.v)[i]? = some x) : ∃ t, ts[i]? = some t ∧ t ∈ ts ∧ x = t.v := by
  rw [List.getElem?_map] at h
  cases e : ts[i]? with
  | none => rw [e] at h; cases h
  | some t =>
    rw [e] at h
    exact ⟨t, rfl, List.mem_of_getElem? e, (Option.some.inj h).symm⟩
theorem inns_take {ts : List Tr} {i : Nat} {t : Tr} (h : ts[i]? = some t) : inns (ts.take (i + 1)) = inns (ts.take i) ++ t.inn := by
  rw [List.take_add_one, h, inns_app]
  simp [inns]
theorem dpt_take {ts : List Tr} {i : Nat} {t : Tr} (h : ts[i]? = some t) : dpt (ts.take (i + 1)) = max (dpt (ts.take i)) (t.dep + 1) := by
  rw [List.take_add_one, h, dpt_app]
  simp [dpt]
theorem inns_take_le : ∀ (ts : List Tr) (i : Nat), (inns (ts.take i)).length ≤ (inns ts).length
  | [], i => by simp [inns]
  | t :: r, 0 => by simp [inns]
  | t :: r, i + 1 => by
    simp only [List.take_succ_cons, inns, List.length_append]
    have := inns_take_le r i
    omega
/-- the fields of a block -/
theorem blk_fld {K : PySem.W.Frag} {mg : Str → Option Value} {g : Ads} {H : Hp} (T : Txt K mg g) {w : Bool} {a : Addr} {bs os : List V} (h : (w = true ∧ ∃ x, WhenAt K g H a x bs os) ∨ (w = false ∧ AttAt K g H a bs os)) :
    ∃ C dx fs p r, H a = some (.ins C dx fs) ∧ (C = g.c_When ∨ C = g.c_Attempt) ∧ Cls K C ∧ NoAttr K C "body" ∧ NoAttr K C "otherwise" ∧ fs.lookup ("inner" : Str) = none ∧ fs.lookup ("body" : Str) = some (V.ref p) ∧ fs.lookup ("otherwise" : Str) = some (V.ref r) ∧ SqT K H p bs ∧ SqT K H r os := by
  rcases h with ⟨_, x, dx, p, r, h1, h2, h3⟩ | ⟨_, dx, p, r, h1, h2, h3⟩
  · exact ⟨_, dx, _, p, r, h1, .inl rfl, T.cl_When, T.na_When_body, T.na_When_otherwise, rfl, rfl, rfl, h2, h3⟩
  · exact ⟨_, dx, _, p, r, h1, .inr rfl, T.cl_Attempt, T.na_Attempt_body, T.na_Attempt_otherwise, rfl, rfl, rfl, h2, h3⟩
/-! ### the steps inside -/
def sp_innD (K : PySem.W.Frag) (g : Ads) (n : Nat) : Sp := fun vs H Q E => ∃ w a b o, vs = [.ref a] ∧ TrAt K g H (.blk w a b o) ∧ (Tr.blk w a b o).dep ≤ n ∧ (Tr.blk w a b o).inn.length ≤ 100000 ∧ ∀ l H', Same H H' → H l = none → H' l = some (.lst (Tr.blk w a b o).inn) → Q (.ref l) H'
/-- .inner() of a tree, whichever its class -/
theorem inner_any {K : PySem.W.Frag} {mg : Str → Option Value} {g : Ads} (T : Txt K mg g) {SPR : Sp} {E : St → XK} {σ : St} {H : Hp} {Q : VK} {i : Nat} {t : Tr} (hi : σ[i]? = some (some t.v)) (ht : TrAt K g H t) (hS : ∀ w a b o, t = .blk w a b o → SPR [.ref a] H Q (E σ))
    (q : ∀ v, t = .leaf v → ∀ l H', Same H H' → H l = none → H' l = some (.lst t.inn) → Q (.ref l) H') :
    (zMeth g.c_Refuse "inner" (sp_Step_inner K g) [] E (zVar i) tNil) σ H Q ∨ (zMeth g.c_Let "inner" (sp_Step_inner K g) [] E (zVar i) tNil) σ H Q ∨ (zMeth g.c_When "inner" SPR [] E (zVar i) tNil) σ H Q ∨ (zMeth g.c_Attempt "inner" SPR [] E (zVar i) tNil) σ H Q := by
  have z : ∀ (C : Addr) (sp : Sp), (zMeth C "inner" sp [] E (zVar i) tNil) σ H Q = ∃ a dx fs, t.v = .ref a ∧ H a = some (.ins C dx fs) ∧ fs.lookup ("inner" : Str) = none ∧ sp (t.v :: ([] ++ [])) H Q (E σ) := fun C sp => by
    show (match σ[i]? with | some (some v) => _ | _ => _) = _
    rw [hi]
    rfl
  rw [z, z, z, z]
  cases t with
  | leaf v =>
    simp only [TrAt] at ht
    obtain ⟨a, dx, rfl, h | ⟨x, y, h⟩⟩ := ht
    · exact .inl ⟨a, dx, _, rfl, h, rfl, _, rfl, fun l H' s n e => q _ rfl l H' s n (by simpa [Tr.inn, Tr.v] using e)⟩
    · exact .inr (.inl ⟨a, dx, _, rfl, h, rfl, _, rfl, fun l H' s n e => q _ rfl l H' s n (by simpa [Tr.inn, Tr.v] using e)⟩)
  | blk w a b o =>
    simp only [TrAt] at ht
    obtain ⟨C, dx, fs, p, r, h1, hC, c1, c2, c3, f0, f1, f2, hb, ho⟩ := blk_fld T ht.1
    rcases hC with rfl | rfl
    · exact .inr (.inr (.inl ⟨a, dx, fs, rfl, h1, f0, hS w a b o rfl⟩))
    · exact .inr (.inr (.inr ⟨a, dx, fs, rfl, h1, f0, hS w a b o rfl⟩))
theorem sc_Block_inner : FnScope ["self", "found", "step"] ["self"] (defScope s_Block_inner) := ⟨rfl, rfl, rfl, by decide +kernel, rfl, by decide +kernel, by decide +kernel⟩
def R_Block_inner_3 (K : PySem.W.Frag) (g : Ads) (SPR : Sp) (E : XK) : TS :=
  (tDrop (tBM K "list" rExtend (zVar 1) (tCons (fun σ H Q => (zMeth g.c_Refuse "inner" (sp_Step_inner K g) [] (WE (fun cls d _ H => E cls d H)) (zVar 2) tNil) σ H Q ∨ (fun σ H Q => (zMeth g.c_Let "inner" (sp_Step_inner K g) [] (WE (fun cls d _ H => E cls d H)) (zVar 2) tNil) σ H Q ∨ (fun σ H Q => (zMeth g.c_When "inner" SPR [] (WE (fun cls d _ H => E cls d H)) (zVar 2) tNil) σ H Q ∨ (zMeth g.c_Attempt "inner" SPR [] (WE (fun cls d _ H => E cls d H)) (zVar 2) tNil) σ H Q) σ H Q) σ H Q) tNil)))
def R_Block_inner_2 (K : PySem.W.Frag) (g : Ads) (SPR : Sp) (E : XK) : TS :=
  (tSeq (zFor (iList K (tLst (StX.tStar K (tFld K (zVar 0) "body") (StX.tStar K (tFld K (zVar 0) "otherwise") tNil)))) (gName 2)
  (R_Block_inner_3 K g SPR E))
  (tRet (zVar 1)))
def R_Block_inner (K : PySem.W.Frag) (g : Ads) (SPR : Sp) (E : XK) : TS :=
  (tSeq (tAsg (tLst (tCons (zVar 0) tNil)) (gName 1))
  (R_Block_inner_2 K g SPR E))
def rw_Block_inner (K : PySem.W.Frag) (g : Ads) (SPR : Sp) : Sp := fun vs H Q E => vs.length = 1 ∧ R_Block_inner K g SPR E { nx := fun _ H' => Q .non H', rt := Q } (start ["self", "found", "step"] vs) H
theorem raw_Block_inner {P : Program} [SupP P] {w : World} {K : PySem.W.Frag} {mg : Str → Option Value} {base : Heap} {g : Ads} (T : Txt K mg g) {k : Nat} (hk9 : 2 ≤ k) {SPR : Sp} (F : FnG false P w K mg base k g.f_Block_inner g.d_Block_inner ["self"] SPR) : FnG false P w K mg base (k + 1) g.f_Block_inner g.d_Block_inner ["self"] (rw_Block_inner K g SPR) := by
  refine okZ T.f_Block_inner sc_Block_inner (fun vs H Q E h => h.1) (fun cdv A outer s H vs Q E hr hgu h => ⟨R_Block_inner K g SPR E, ?_, h.2⟩)
  exact (pss_cons (ps_set (i := 1) sc_Block_inner.nd rfl (Or.inl rfl) (pe_lst (pa_cons (zv 0) pa_nil)))
  (pss_cons (psz_for PassesOwn.leaving rfl (pi_list (pe_lst (StX.pa_star (pe_fld (zv 0) rfl) (StX.pa_star (pe_fld (zv 0) rfl) pa_nil)))) (pg_name (i := 2) sc_Block_inner.nd rfl (Or.inl rfl))
  (pss_one (ps_expr (pe_bm PySem.F.plainAttrs_list PySem.F.slot_list_extend PySem.F.type_list_extend mt_extend (zv 1) (pa_cons (PE.or (pe_methZ0 (zv 2) T.cl_Refuse ⟨T.ih_Refuse_inner, T.i_Step_inner, T.f_Step_inner.kp⟩ (ok_Step_inner T) (hr.mono (by omega)) (fun z => nomatch z) T.e_Step_inner .nil (fun σ => passAt (takes_of rfl rfl rfl rfl) σ)) (PE.or (pe_methZ0 (zv 2) T.cl_Let ⟨T.ih_Let_inner, T.i_Step_inner, T.f_Step_inner.kp⟩ (ok_Step_inner T) (hr.mono (by omega)) (fun z => nomatch z) T.e_Step_inner .nil (fun σ => passAt (takes_of rfl rfl rfl rfl) σ)) (PE.or (pe_methZ0 (zv 2) T.cl_When ⟨T.ih_When_inner, T.i_Block_inner, T.f_Block_inner.kp⟩ F hr (fun z => nomatch z) T.e_Block_inner .nil (fun σ => passAt (takes_of rfl rfl rfl rfl) σ)) (pe_methZ0 (zv 2) T.cl_Attempt ⟨T.ih_Attempt_inner, T.i_Block_inner, T.f_Block_inner.kp⟩ F hr (fun z => nomatch z) T.e_Block_inner .nil (fun σ => passAt (takes_of rfl rfl rfl rfl) σ))))) pa_nil)))))
  (pss_one (ps_ret (zv 1)))))
theorem pf_Block_inner {K : PySem.W.Frag} {mg : Str → Option Value} {g : Ads} (T : Txt K mg g) {SPR : Sp} {n : Nat} (hS : ∀ m, n = m + 1 → SPR = sp_innD K g m) (vs : List V) (H : Hp) (Q : VK) (E : XK) (h : sp_innD K g n vs H Q E) : rw_Block_inner K g SPR vs H Q E := by
  obtain ⟨w, a, b, o, rfl, ht, hd, hl, q⟩ := h
  simp only [TrAt] at ht
  obtain ⟨hk, lb, lo, hb, ho⟩ := ht
  refine ⟨rfl, show 1 ≤ sizeLine by decide, fun F hF => ?_⟩
  have s1 := Same.put (o := .lst [.ref a]) hF
  have e1 := upd_same (H := H) (a := F) (o := .lst [.ref a])
  generalize upd H F (.lst [.ref a]) = H1 at s1 e1
  show R_Block_inner_2 K g SPR E { nx := fun _ H' => Q .non H', rt := Q } [some (.ref a), some (.ref F), none] H1
  obtain ⟨C, dx, fs, p, r, h1, hC, c1, c2, c3, f0, f1, f2, hbs, hos⟩ := blk_fld T hk
  have h1 := s1 _ _ h1
  have hbs := Z.Same.tup s1 hbs
  have hos := Z.Same.tup s1 hos
  refine ⟨a, C, dx, fs, .ref p, rfl, h1, c1, c2, f1, p, _, rfl, .inl hbs, a, C, dx, fs, .ref r, rfl, h1, c1, c3, f2, r, _, rfl, .inl hos, ?_⟩
  show (b.map Tr.v ++ (o.map Tr.v ++ [])).length ≤ sizeLine ∧ _
  rw [List.append_nil, ← List.map_append]
  refine ⟨?_, fun L hL => ?_⟩
  · rw [List.length_map, List.length_append]
    exact Nat.le_trans (show b.length + o.length ≤ 40 by omega) (by decide)
  have s2 := Same.put (o := .lst ((b ++ o).map Tr.v)) hL
  have eL := upd_same (H := H1) (a := L) (o := .lst ((b ++ o).map Tr.v))
  have nL : F ≠ L := ne_of_none e1 hL
  have hin : (Tr.blk w a b o).inn = .ref a :: inns (b ++ o) := by simp [Tr.inn, inns_app]
  have hdp : dpt (b ++ o) ≤ n := by
    rw [dpt_app]
    simpa [Tr.dep] using hd
  have hlen : (inns (b ++ o)).length ≤ 100000 := by
    rw [hin, List.length_cons] at hl
    omega
  refine ⟨L, rfl, ⟨_, SqL.of eL⟩, for_z (walk_list (xs := (b ++ o).map Tr.v)) (fun i σ H' => Same H H' ∧ H' L = some (.lst ((b ++ o).map Tr.v)) ∧ H' F = some (.lst (.ref a :: inns ((b ++ o).take i))) ∧ ∃ v, σ = [some (.ref a), some (.ref F), v]) ⟨s1.trans s2, eL, by rw [upd_ne nL, e1]; simp [inns], _, rfl⟩ (fun i σ H' _ h => SqL.of h.2.1) ?_ ?_⟩
  · rintro i x σ H3 H4 hi ⟨s3, g1, g2, v, rfl⟩ ⟨rfl, hx⟩
    obtain ⟨t, hti, htm, rfl⟩ := tr_get hx
    have ht4 : TrAt K g H4 t := TrAt.same s3 t ((List.mem_append.mp htm).elim (hb.mem t) (ho.mem t))
    have fin : ∀ l H5, Same H4 H5 → H4 l = none → H5 l = some (.lst t.inn) → ∃ l' b' xs zs, V.ref F = .ref l' ∧ [V.ref l] = [.ref b'] ∧ H5 l' = some (.lst xs) ∧ H5 b' = some (.lst zs) ∧ xs.length + zs.length ≤ sizeLine ∧
        (Same H (upd H5 l' (.lst (xs ++ zs))) ∧ (upd H5 l' (.lst (xs ++ zs))) L = some (.lst ((b ++ o).map Tr.v)) ∧ (upd H5 l' (.lst (xs ++ zs))) F = some (.lst (.ref a :: inns ((b ++ o).take (i + 1)))) ∧ ∃ v, [some (V.ref a), some (.ref F), some t.v] = [some (.ref a), some (.ref F), v]) := by
      intro l H5 s5 hl5 e5
      refine ⟨F, l, _, _, rfl, rfl, s5 _ _ g2, e5, ?_, same_new hF (s3.trans s5), ?_, ?_, _, rfl⟩
      · have z1 := inns_take_le (b ++ o) i
        have z2 := inn_mem htm
        rw [List.length_cons]
        exact Nat.le_trans (show (inns ((b ++ o).take i)).length + 1 + t.inn.length ≤ 200001 by omega) (by decide)
      · rw [upd_ne nL.symm]
        exact s5 _ _ g1
      · rw [upd_same, inns_take hti]
        rfl
    refine ⟨.inl ⟨rfl, _, SqL.of g2⟩, inner_any T (t := t) rfl ht4 (fun w' a' b' o' e => ?_) fun v' e l H5 s5 hl5 e5 => fin l H5 s5 hl5 e5⟩
    have hdt := dpt_mem htm
    obtain ⟨m, rfl⟩ : ∃ m, n = m + 1 := ⟨n - 1, by omega⟩
    rw [hS m rfl]
    subst e
    have z2 := inn_mem htm
    exact ⟨w', a', b', o', rfl, ht4, by omega, by omega, fun l H5 s5 hl5 e5 => fin l H5 s5 hl5 e5⟩
  · rintro σ H3 ⟨s3, g1, g2, v, rfl⟩
    refine q F H3 s3 hF ?_
    rw [g2, List.length_map, List.take_length, hin]
theorem fn_false {gd : Bool} {P : Program} [SupP P] {w : World} {K : PySem.W.Frag} {mg : Str → Option Value} {base : Heap} {k : Nat} {f : Addr} {fd : FuncData} {ps : List Str} : FnG gd P w K mg base k f fd ps (fun _ _ _ _ => False) :=
  ⟨fun _ _ _ _ h => h.elim, fun _ _ _ _ _ _ _ _ _ _ _ _ _ _ h => h.elim⟩
theorem ok_innD {P : Program} [SupP P] {w : World} {K : PySem.W.Frag} {mg : Str → Option Value} {base : Heap} {g : Ads} (T : Txt K mg g) : ∀ n : Nat, FnG false P w K mg base (n + 3) g.f_Block_inner g.d_Block_inner ["self"] (sp_innD K g n)
  | 0 => (raw_Block_inner T (k := 2) (by omega) fn_false).imp (pf_Block_inner T fun m e => by omega)
  | n + 1 => (raw_Block_inner T (k := n + 3) (by omega) (ok_innD T n)).imp (pf_Block_inner T fun m e => by
    have : n = m := by omega
    rw [this])
def sp_Block_inner (K : PySem.W.Frag) (g : Ads) : Sp := sp_innD K g 7
theorem ok_Block_inner {P : Program} [SupP P] {w : World} {K : PySem.W.Frag} {mg : Str → Option Value} {base : Heap} {g : Ads} (T : Txt K mg g) : FnG false P w K mg base 10 g.f_Block_inner g.d_Block_inner ["self"] (sp_Block_inner K g) := ok_innD T 7
end Z
namespace Z
open PySem PySem.Spec PyProof.Rows L2
/-! ### how many, how deep -/
def sp_many_of (K : PySem.W.Frag) (g : Ads) : Sp := fun vs H Q E => ∃ (p : Addr) (ts : List Tr), vs = [.ref p] ∧ SqT K H p (ts.map Tr.v) ∧ TrsAt K g H ts ∧ dpt ts ≤ 8 ∧ ts.length ≤ 1000 ∧ (inns ts).length ≤ 100000 ∧ ∀ H', Same H H' → Q (.int ((inns ts).length : Nat)) H'
theorem sc_many_of : FnScope ["steps", "step"] ["steps"] (defScope s_many_of) := ⟨rfl, rfl, rfl, by decide +kernel, rfl, by decide +kernel, by decide +kernel⟩
def R_many_of (K : PySem.W.Frag) (g : Ads) (E : XK) : TS :=
  (tRet (tCB (rSum K) (tCons (zLc (iTup K (zVar 0)) (gName 1) tYes (tCB (zLen K) (tCons (fun σ H Q => (zMeth g.c_Refuse "inner" (sp_Step_inner K g) [] (fun _ => E0) (zVar 1) tNil) σ H Q ∨ (fun σ H Q => (zMeth g.c_Let "inner" (sp_Step_inner K g) [] (fun _ => E0) (zVar 1) tNil) σ H Q ∨ (fun σ H Q => (zMeth g.c_When "inner" (sp_Block_inner K g) [] (fun _ => E0) (zVar 1) tNil) σ H Q ∨ (zMeth g.c_Attempt "inner" (sp_Block_inner K g) [] (fun _ => E0) (zVar 1) tNil) σ H Q) σ H Q) σ H Q) tNil)) [1]) tNil)))
def rw_many_of (K : PySem.W.Frag) (g : Ads) : Sp := fun vs H Q E => vs.length = 1 ∧ R_many_of K g E { nx := fun _ H' => Q .non H', rt := Q } (start ["steps", "step"] vs) H
theorem raw_many_of {P : Program} [SupP P] {w : World} {K : PySem.W.Frag} {mg : Str → Option Value} {base : Heap} {g : Ads} (T : Txt K mg g) : FnG false P w K mg base 11 g.f_many_of g.d_many_of ["steps"] (rw_many_of K g) := by
  refine okZ T.f_many_of sc_many_of (fun vs H Q E h => h.1) (fun cdv A outer s H vs Q E hr hgu h => ⟨R_many_of K g E, ?_, h.2⟩)
  exact (pss_one (ps_ret (pe_callB (cr_sum rfl) (by rfl) T.b_sum (by decide +kernel) (pa_cons (pez_lc (own := [("step", 1)]) rfl sc_many_of.nd (pi_tup (zv 0)) (blkOk_by (own := [("step", 1)]) (N := ["steps", "step"]) (sc := defScope s_many_of) (by decide +kernel)) (fun _ _ _ _ _ => pg_name (i := 1) sc_many_of.nd rfl (Or.inl rfl)) (fun _ _ _ _ _ => pts_nil) (fun _ _ _ _ _ => (pe_callB call_lenZ (by rfl) T.b_len (by decide +kernel) (pa_cons (PE.or (pe_methZ0 (zv 1) T.cl_Refuse ⟨T.ih_Refuse_inner, T.i_Step_inner, T.f_Step_inner.kp⟩ (ok_Step_inner T) (hr.mono (by decide)) (fun z => nomatch z) T.e_Step_inner .nil passE0) (PE.or (pe_methZ0 (zv 1) T.cl_Let ⟨T.ih_Let_inner, T.i_Step_inner, T.f_Step_inner.kp⟩ (ok_Step_inner T) (hr.mono (by decide)) (fun z => nomatch z) T.e_Step_inner .nil passE0) (PE.or (pe_methZ0 (zv 1) T.cl_When ⟨T.ih_When_inner, T.i_Block_inner, T.f_Block_inner.kp⟩ (ok_Block_inner T) (hr.mono (by decide)) (fun z => nomatch z) T.e_Block_inner .nil passE0) (pe_methZ0 (zv 1) T.cl_Attempt ⟨T.ih_Attempt_inner, T.i_Block_inner, T.f_Block_inner.kp⟩ (ok_Block_inner T) (hr.mono (by decide)) (fun z => nomatch z) T.e_Block_inner .nil passE0)))) pa_nil)))) pa_nil))))
theorem sum_cnt : ∀ (ts : List Tr), (ts.map fun t => ((t.inn.length : Nat) : Int)).sum = ((inns ts).length : Nat)
  | [] => by simp [inns]
  | t :: r => by
    simp only [List.map_cons, List.sum_cons, sum_cnt r, inns, List.length_append]
    omega
theorem pf_many_of {K : PySem.W.Frag} {mg : Str → Option Value} {g : Ads} (T : Txt K mg g) (vs : List V) (H : Hp) (Q : VK) (E : XK) (h : sp_many_of K g vs H Q E) : rw_many_of K g vs H Q E := by
  obtain ⟨p, ts, rfl, hp, ht, hd, hl, hn, q⟩ := h
  refine ⟨rfl, p, rfl, ⟨_, hp⟩, lc_z (walk_tup (xs := ts.map Tr.v)) (fun D i H' => Same H H' ∧ H' D = some (.lst (((ts.take i).map fun t => ((t.inn.length : Nat) : Int)).map V.int))) (fun D hD => ⟨Same.put hD, upd_same⟩) (fun D i H' _ _ h => Z.Same.tup h.1 hp) ?_ ?_⟩
  · rintro D i x H2 H3 hD hi ⟨s2, e2⟩ ⟨rfl, hx⟩
    obtain ⟨t, hti, htm, rfl⟩ := tr_get hx
    have ht3 := TrAt.same s2 t (ht.mem t htm)
    have fin : ∀ l H4, Same H3 H4 → H4 l = some (.lst t.inn) → ∃ ys, (SqL K H4 l ys ∨ SqT K H4 l ys) ∧ ∃ acc, H4 D = some (.lst acc) ∧ acc.length < sizeLine ∧ Same H (upd H4 D (.lst (acc ++ [.int (ys.length : Nat)]))) ∧ (upd H4 D (.lst (acc ++ [.int (ys.length : Nat)]))) D = some (.lst (((ts.take (i + 1)).map fun t => ((t.inn.length : Nat) : Int)).map V.int)) := by
      intro l H4 s4 e4
      refine ⟨_, .inl (SqL.of e4), _, s4 _ _ e2, ?_, same_new hD (s2.trans s4), ?_⟩
      · rw [List.length_map, List.length_map, List.length_take]
        exact Nat.lt_of_le_of_lt (show min i ts.length ≤ 1000 by omega) (by decide)
      · rw [upd_same, List.take_add_one, hti]
        simp
    refine ⟨rfl, inner_any T (t := t) rfl ht3 (fun w a b o e => ?_) fun v e l H4 s4 n4 e4 => fin l H4 s4 e4⟩
    have h1 := dpt_mem htm
    have h2 := inn_mem htm
    subst e
    exact ⟨w, a, b, o, rfl, ht3, by omega, by omega, fun l H4 s4 n4 e4 => fin l H4 s4 e4⟩
  · rintro D H2 hD ⟨s2, e2⟩
    refine ⟨D, _, rfl, SqL.of e2, ?_⟩
    rw [List.length_map, List.take_length, sum_cnt]
    exact q H2 s2
theorem ok_many_of {P : Program} [SupP P] {w : World} {K : PySem.W.Frag} {mg : Str → Option Value} {base : Heap} {g : Ads} (T : Txt K mg g) : FnG false P w K mg base 11 g.f_many_of g.d_many_of ["steps"] (sp_many_of K g) := (raw_many_of T).imp (pf_many_of T)
def sp_depthD (K : PySem.W.Frag) (g : Ads) (n : Nat) : Sp := fun vs H Q E => ∃ (p : Addr) (ts : List Tr), vs = [.ref p] ∧ Sq K H p (ts.map Tr.v) ∧ TrsAt K g H ts ∧ dpt ts ≤ n ∧ ∀ H', Same H H' → Q (.int ((dpt ts : Nat) - 1)) H'
theorem sc_depth_of : FnScope ["steps", "deepest", "step", "inside"] ["steps"] (defScope s_depth_of) := ⟨rfl, rfl, rfl, by decide +kernel, rfl, by decide +kernel, by decide +kernel⟩
def R_depth_of_4 (K : PySem.W.Frag) (g : Ads) (SPR : Sp) (E : XK) : TS :=
  (tAsg (tCB rMx2 (tCons (zVar 1) (tCons (tOp zAdd (zVar 3) (tC (.int 1))) tNil))) (gName 1))
def R_depth_of_3 (K : PySem.W.Frag) (g : Ads) (SPR : Sp) (E : XK) : TS :=
  (tSeq (tAsg (tIf (zTru K (tCB (rIsi K) (tCons (zVar 2) (tCons (tC (.ref g.c_Block)) tNil)))) (zCall SPR [] (WE (fun cls d _ H => E cls d H)) (tCons (tLst (StX.tStar K (tFld K (zVar 2) "body") (StX.tStar K (tFld K (zVar 2) "otherwise") tNil))) tNil)) (zNeg (tC (.int 1)))) (gName 3))
  (R_depth_of_4 K g SPR E))
def R_depth_of_2 (K : PySem.W.Frag) (g : Ads) (SPR : Sp) (E : XK) : TS :=
  (tSeq (zFor (iSeq K (zVar 0)) (gName 2)
  (R_depth_of_3 K g SPR E))
  (tRet (zVar 1)))
def R_depth_of (K : PySem.W.Frag) (g : Ads) (SPR : Sp) (E : XK) : TS :=
  (tSeq (tAsg (zNeg (tC (.int 1))) (gName 1))
  (R_depth_of_2 K g SPR E))
def rw_depth_of (K : PySem.W.Frag) (g : Ads) (SPR : Sp) : Sp := fun vs H Q E => vs.length = 1 ∧ R_depth_of K g SPR E { nx := fun _ H' => Q .non H', rt := Q } (start ["steps", "deepest", "step", "inside"] vs) H
theorem raw_depth_of {P : Program} [SupP P] {w : World} {K : PySem.W.Frag} {mg : Str → Option Value} {base : Heap} {g : Ads} (T : Txt K mg g) {k : Nat} {SPR : Sp} (F : FnG false P w K mg base k g.f_depth_of g.d_depth_of ["steps"] SPR) : FnG false P w K mg base (k + 1) g.f_depth_of g.d_depth_of ["steps"] (rw_depth_of K g SPR) := by
  refine okZ T.f_depth_of sc_depth_of (fun vs H Q E h => h.1) (fun cdv A outer s H vs Q E hr hgu h => ⟨R_depth_of K g SPR E, ?_, h.2⟩)
  exact (pss_cons (ps_set (i := 1) sc_depth_of.nd rfl (Or.inl rfl) (pez_neg pe_int))
  (pss_cons (psz_for PassesOwn.leaving rfl (pi_seq (zv 0)) (pg_name (i := 2) sc_depth_of.nd rfl (Or.inl rfl))
  (pss_cons (ps_set (i := 3) sc_depth_of.nd rfl (Or.inl rfl) (pe_ifExp (ptz_truth (pe_callB call_isi (by rfl) T.b_isinstance (by decide +kernel) (pa_cons (zv 2) (pa_cons (pe_glob rfl T.g_Block rfl) pa_nil))) (by intro _; rfl)) (pe_callZ F hr (fun z => nomatch z) rfl T.g_depth_of T.k_depth_of T.e_depth_of .nil (fun σ => passAt (takes_of rfl rfl rfl rfl) σ) (pa_cons (pe_lst (StX.pa_star (pe_fld (zv 2) rfl) (StX.pa_star (pe_fld (zv 2) rfl) pa_nil))) pa_nil)) (pez_neg pe_int)))
  (pss_one (ps_set (i := 1) sc_depth_of.nd rfl (Or.inl rfl) (pe_callB (call_mx2 rfl) (by rfl) T.b_max (by decide +kernel) (pa_cons (zv 1) (pa_cons (pe_op op_zAdd (zv 3) pe_int) pa_nil)))))))
  (pss_one (ps_ret (zv 1)))))
theorem pf_depth_of {K : PySem.W.Frag} {mg : Str → Option Value} {g : Ads} (T : Txt K mg g) {SPR : Sp} {n : Nat} (hS : ∀ m, n = m + 1 → SPR = sp_depthD K g m) (vs : List V) (H : Hp) (Q : VK) (E : XK) (h : sp_depthD K g n vs H Q E) : rw_depth_of K g SPR vs H Q E := by
  obtain ⟨p, ts, rfl, hp, ht, hd, q⟩ := h
  refine ⟨rfl, ?_⟩
  have loop : ∀ (J : It) (G : Hp → Prop), Walk J (ts.map Tr.v).length G (YAt (ts.map Tr.v)) → (∀ H', Same H H' → G H') →
      forGo J (gName 2) (R_depth_of_3 K g SPR E) { nx := tRet (zVar 1) { nx := fun _ H' => Q .non H', rt := Q }, rt := Q } [some (.ref p), some (.int (-1)), none, none] H := by
    intro J G wk hG
    refine for_z wk (fun i σ H' => Same H H' ∧ ∃ v2 v3, σ = [some (.ref p), some (.int ((dpt (ts.take i) : Nat) - 1)), v2, v3]) ⟨Same.refl _, none, none, by simp [dpt]⟩ (fun i σ H' _ h => hG _ h.1) ?_ ?_
    · rintro i x σ H2 H3 hi ⟨s2, v2, v3, rfl⟩ ⟨rfl, hx⟩
      obtain ⟨t, hti, htm, rfl⟩ := tr_get hx
      have ht3 := TrAt.same s2 t (ht.mem t htm)
      -- the maximum
      have fin : ∀ H4, Same H3 H4 → ∀ w : Int, w = (t.dep : Nat) - 1 + 1 - 1 → R_depth_of_4 K g SPR E { nx := fun σ H' => Same H H' ∧ ∃ v2 v3, σ = [some (.ref p), some (.int ((dpt (ts.take (i + 1)) : Nat) - 1)), v2, v3], rt := Q } [some (.ref p), some (.int ((dpt (ts.take i) : Nat) - 1)), some t.v, some (.int (w))] H4 := by
        rintro H4 s4 w rfl
        refine ⟨s2.trans s4, some t.v, some (.int ((t.dep : Nat) - 1 + 1 - 1)), ?_⟩
        have e : (if ((t.dep : Nat) : Int) - 1 + 1 - 1 + 1 > ((dpt (ts.take i) : Nat) : Int) - 1 then ((t.dep : Nat) : Int) - 1 + 1 - 1 + 1 else ((dpt (ts.take i) : Nat) : Int) - 1) = ((dpt (ts.take (i + 1)) : Nat) : Int) - 1 := by
          rw [dpt_take hti]
          split <;> omega
        show [some (V.ref p), some (.int _), some t.v, _] = _
        rw [e]
      cases t with
      | leaf v =>
        simp only [TrAt] at ht3
        have hb : ∃ C, TyU K H3 v (.ref C) ∧ PySem.W.kitOne K (.ref C) (.ref g.c_Block) = some false := by
          obtain ⟨a, dx, rfl, h | ⟨x, y, h⟩⟩ := ht3
          · exact ⟨_, tyu_ins T.ci_Refuse h, T.nk_Refuse_Block⟩
          · exact ⟨_, tyu_ins T.ci_Let h, T.nk_Let_Block⟩
        obtain ⟨C, ty, kt⟩ := hb
        exact ⟨v, .ref g.c_Block, .ref C, _, false, rfl, .own _, ty _ (Same.refl _), kt, fin H3 (Same.refl _) (-1) (by simp [Tr.dep])⟩
      | blk w a b o =>
        simp only [TrAt] at ht3
        obtain ⟨hk, lb, lo, hb, ho⟩ := ht3
        obtain ⟨C, dx, fs, pp, r, h1, hC, c1, c2, c3, f0, f1, f2, hbs, hos⟩ := blk_fld T hk
        have ty : TyU K H3 (.ref a) (.ref C) ∧ PySem.W.kitOne K (.ref C) (.ref g.c_Block) = some true := by
          rcases hC with rfl | rfl
          · exact ⟨tyu_ins T.ci_When h1, T.su_When_Block⟩
          · exact ⟨tyu_ins T.ci_Attempt h1, T.su_Attempt_Block⟩
        have hdt := dpt_mem htm
        obtain ⟨m, rfl⟩ : ∃ m, n = m + 1 := ⟨n - 1, by omega⟩
        refine ⟨.ref a, .ref g.c_Block, .ref C, _, true, rfl, .own _, ty.1 _ (Same.refl _), ty.2, ?_⟩
        refine ⟨a, C, dx, fs, .ref pp, rfl, h1, c1, c2, f1, pp, _, rfl, .inl hbs, a, C, dx, fs, .ref r, rfl, h1, c1, c3, f2, r, _, rfl, .inl hos, ?_⟩
        show (b.map Tr.v ++ (o.map Tr.v ++ [])).length ≤ sizeLine ∧ _
        rw [List.append_nil, ← List.map_append]
        refine ⟨?_, fun L hL => ?_⟩
        · rw [List.length_map, List.length_append]
          exact Nat.le_trans (show b.length + o.length ≤ 40 by omega) (by decide)
        have s3 := Same.put (o := .lst ((b ++ o).map Tr.v)) hL
        rw [hS m rfl]
        have e : (Tr.blk w a b o).dep = dpt (b ++ o) := by simp [Tr.dep, dpt_app]
        refine ⟨L, b ++ o, rfl, .inr (SqL.of upd_same), TrsAt.same s3 _ (TrsAt.of fun t m => (List.mem_append.mp m).elim (hb.mem t) (ho.mem t)), by omega, fun H4 s4 => ?_⟩
        exact fin H4 (s3.trans s4) _ (by rw [e]; omega)
    · rintro σ H2 ⟨s2, v2, v3, rfl⟩
      rw [List.length_map, List.take_length]
      exact q H2 s2
  rcases hp with hp | hp
  · exact ⟨p, rfl, .inr ⟨⟨_, hp⟩, loop _ _ walk_tup fun H' s => Z.Same.tup s hp⟩⟩
  · exact ⟨p, rfl, .inl ⟨⟨_, hp⟩, loop _ _ walk_list fun H' s => s.seq hp⟩⟩
theorem ok_depthD {P : Program} [SupP P] {w : World} {K : PySem.W.Frag} {mg : Str → Option Value} {base : Heap} {g : Ads} (T : Txt K mg g) : ∀ n : Nat, FnG false P w K mg base (n + 1) g.f_depth_of g.d_depth_of ["steps"] (sp_depthD K g n)
  | 0 => (raw_depth_of T (k := 0) fn_false).imp (pf_depth_of T fun m e => by omega)
  | n + 1 => (raw_depth_of T (ok_depthD T n)).imp (pf_depth_of T fun m e => by
    have : n = m := by omega
    rw [this])
def sp_depth_of (K : PySem.W.Frag) (g : Ads) : Sp := sp_depthD K g 8
theorem ok_depth_of {P : Program} [SupP P] {w : World} {K : PySem.W.Frag} {mg : Str → Option Value} {base : Heap} {g : Ads} (T : Txt K mg g) : FnG false P w K mg base 9 g.f_depth_of g.d_depth_of ["steps"] (sp_depth_of K g) := ok_depthD T 8
end Z
namespace Z
open PySem PySem.Spec PyProof.Rows L2
/-! ### what comes of a handler's parts -/
inductive HO5 where
  | bn (v : V) | bs (j : Nat) | tw (z : Str) | tm (n : Int) | ok
def strOf : V → Str
  | .str z => z
  | _ => ""
def notName (ps : List V) : Option V := ps.find? fun v => !isNameV v
def hndO (nm : V) (fl : List Bool) (ps : List V) (ts : List Tr) : HO5 :=
  if isNameV nm = true then (match firstT fl with
    | some j => .bs j
    | none => (match notName ps with
      | some v => .bn v
      | none => (match dupOf (ps.map strOf) with
        | some z => .tw z
        | none => if 16 < (inns ts).length then .tm 16 else if 5 < dpt ts then .tm 4 else if 3 < ps.length then .tm 3 else .ok))) else .bn nm
def xOf (g : Ads) : HO5 → Option (Addr × Str × V)
  | .bn v => some (g.c_BadName, "name", v)
  | .bs j => some (g.c_BadStep, "index", .int (j : Nat))
  | .tw z => some (g.c_Twice, "name", .str z)
  | .tm n => some (g.c_TooMany, "limit", .int n)
  | .ok => none
def ErrsH (g : Ads) (o : Addr) (H : Hp) (E : XK) (r : HO5) : Prop := ∀ C f v, xOf g r = some (C, f, v) → ∀ H' dd, But o H H' → H dd = none → H' dd = some (.xd [(f, v)]) → E (.ref C) (some dd) H'
def hndF (nm : V) (tp sp st : Addr) : List (Str × V) := [("name", nm), ("params", .ref tp), ("body", .ref sp), ("steps", .ref st)]
/-- the rows of a handler: steps or things, params -/
structure HRows (K : PySem.W.Frag) (g : Ads) (H : Hp) (vs : List V) (fl : List Bool) (ps : List V) (ts : List Tr) : Prop where
  lv : vs.length ≤ 1000
  th : Paired (Thg K g H) vs fl
  lp : ps.length ≤ 1000
  kp : ∀ v ∈ ps, Knd K H v
  tr : firstT fl = none → vs = ts.map Tr.v ∧ TrsAt K g H ts ∧ dpt ts ≤ 8 ∧ (inns ts).length ≤ 100000
theorem HRows.same {K : PySem.W.Frag} {g : Ads} {H H' : Hp} {vs : List V} {fl : List Bool} {ps : List V} {ts : List Tr} (h : HRows K g H vs fl ps ts) (s : Same H H') : HRows K g H' vs fl ps ts :=
  ⟨h.lv, paired_imp h.th fun _ _ z => z.same s, h.lp, fun v hv => (h.kp v hv).same s, fun e => ⟨(h.tr e).1, TrsAt.same s _ (h.tr e).2.1, (h.tr e).2.2⟩⟩
def sp_Handler_init (K : PySem.W.Frag) (g : Ads) : Sp := fun as H Q E => ∃ (o dx : Addr) (nm : V) (tp sp : Addr) (vs : List V) (fl : List Bool) (ps : List V) (ts : List Tr), as = [.ref o, nm, .ref tp, .ref sp] ∧ H o = some (.ins g.c_Handler dx []) ∧
  Knd K (hid [o] H) nm ∧ SqT K (hid [o] H) sp vs ∧ Sq K (hid [o] H) tp ps ∧ HRows K g (hid [o] H) vs fl ps ts ∧ ErrsH g o H E (hndO nm fl ps ts) ∧
  (hndO nm fl ps ts = .ok → ∀ H' tp' st, But o H H' → H' o = some (.ins g.c_Handler dx (hndF nm tp' sp st)) → SqT K (hid [o] H') tp' ps → H' st = some (.tup (inns ts)) → Q .non H')
theorem notName_none {ps : List V} (h : ∀ v ∈ ps, isNameV v = true) : notName ps = none := List.find?_eq_none.mpr fun v hv => by rw [h v hv]; simp
theorem notName_at {ps : List V} {i : Nat} {x : V} (hx : ps[i]? = some x) (hn : isNameV x = false) (h : ∀ j v, j < i → ps[j]? = some v → isNameV v = true) : notName ps = some x := by
  unfold notName
  have hi := (List.getElem?_eq_some_iff.mp hx).1
  rw [List.find?_eq_some_iff_getElem]
  refine ⟨by rw [hn]; rfl, i, hi, (List.getElem?_eq_some_iff.mp hx).2, fun j hj => ?_⟩
  rw [h j _ hj (List.getElem?_eq_getElem (by omega))]
  rfl
theorem strs_of {ps : List V} (h : ∀ v ∈ ps, isNameV v = true) : ps = (ps.map strOf).map V.str := by
  rw [List.map_map]
  refine (List.map_id ps).symm.trans (List.map_congr_left fun v hv => ?_)
  have := h v hv
  cases v with
  | str z => rfl
  | _ => exact absurd this (by simp [isNameV])
theorem sc_Handler_init : FnScope ["self", "name", "params", "steps", "index", "step", "param", "found"] ["self", "name", "params", "steps"] (defScope s_Handler_init) := ⟨rfl, rfl, rfl, by decide +kernel, rfl, by decide +kernel, by decide +kernel⟩
def R_Handler_init_4 (K : PySem.W.Frag) (g : Ads) (E : XK) : TS :=
  (zRaise (fun cls d _ H => E cls d H) g.c_BadStep (sp_BadStep_init K g) (tCons (zVar 4) tNil))
def R_Handler_init_3 (K : PySem.W.Frag) (g : Ads) (E : XK) : TS :=
  (tIfS (tNot (zTru K (tCB (rIsi K) (tCons (zVar 5) (tCons (tC (.ref g.c_Step)) tNil)))))
  (R_Handler_init_4 K g E)
  tNext)
def R_Handler_init_6 (K : PySem.W.Frag) (g : Ads) (E : XK) : TS :=
  (tDrop (zCall (sp_check_name K g) [] (WE (fun cls d _ H => E cls d H)) (tCons (zVar 6) tNil)))
def R_Handler_init_9 (K : PySem.W.Frag) (g : Ads) (E : XK) : TS :=
  (zRaise (fun cls d _ H => E cls d H) g.c_TooMany (sp_TooMany_init K g) (tCons (ClX.tCVal K (tC (.ref g.c_Handler)) "MOST") tNil))
def R_Handler_init_11 (K : PySem.W.Frag) (g : Ads) (E : XK) : TS :=
  (zRaise (fun cls d _ H => E cls d H) g.c_TooMany (sp_TooMany_init K g) (tCons (ClX.tCVal K (tC (.ref g.c_Handler)) "DEEPEST") tNil))
def R_Handler_init_13 (K : PySem.W.Frag) (g : Ads) (E : XK) : TS :=
  (zRaise (fun cls d _ H => E cls d H) g.c_TooMany (sp_TooMany_init K g) (tCons (tC (.int 3)) tNil))
def R_Handler_init_18 (K : PySem.W.Frag) (g : Ads) (E : XK) : TS :=
  (tDrop (tBM K "list" rExtend (zVar 7) (tCons (fun σ H Q => (zMeth g.c_Refuse "inner" (sp_Step_inner K g) [] (WE (fun cls d _ H => E cls d H)) (zVar 5) tNil) σ H Q ∨ (fun σ H Q => (zMeth g.c_Let "inner" (sp_Step_inner K g) [] (WE (fun cls d _ H => E cls d H)) (zVar 5) tNil) σ H Q ∨ (fun σ H Q => (zMeth g.c_When "inner" (sp_Block_inner K g) [] (WE (fun cls d _ H => E cls d H)) (zVar 5) tNil) σ H Q ∨ (zMeth g.c_Attempt "inner" (sp_Block_inner K g) [] (WE (fun cls d _ H => E cls d H)) (zVar 5) tNil) σ H Q) σ H Q) σ H Q) tNil)))
def R_Handler_init_19 (K : PySem.W.Frag) (g : Ads) (E : XK) : TS :=
  (sFld K (zVar 0) (tCB (zTupOf K) (tCons (zVar 7) tNil)) "steps")
def R_Handler_init_17 (K : PySem.W.Frag) (g : Ads) (E : XK) : TS :=
  (tSeq (zFor (iTup K (zVar 3)) (gName 5)
  (R_Handler_init_18 K g E))
  (R_Handler_init_19 K g E))
def R_Handler_init_16 (K : PySem.W.Frag) (g : Ads) (E : XK) : TS :=
  (tSeq (tAsg (tLst tNil) (gName 7))
  (R_Handler_init_17 K g E))
def R_Handler_init_15 (K : PySem.W.Frag) (g : Ads) (E : XK) : TS :=
  (tSeq (sFld K (zVar 0) (zVar 3) "body")
  (R_Handler_init_16 K g E))
def R_Handler_init_14 (K : PySem.W.Frag) (g : Ads) (E : XK) : TS :=
  (tSeq (sFld K (zVar 0) (tCB (zTupOf K) (tCons (zVar 2) tNil)) "params")
  (R_Handler_init_15 K g E))
def R_Handler_init_12 (K : PySem.W.Frag) (g : Ads) (E : XK) : TS :=
  (tSeq (tIfS (zTest (tOp zGt (tCB (zLen K) (tCons (zVar 2) tNil)) (tC (.int 3))))
  (R_Handler_init_13 K g E)
  tNext)
  (R_Handler_init_14 K g E))
def R_Handler_init_10 (K : PySem.W.Frag) (g : Ads) (E : XK) : TS :=
  (tSeq (tIfS (zTest (tOp zGt (zCall (sp_depth_of K g) [] (WE (fun cls d _ H => E cls d H)) (tCons (zVar 3) tNil)) (ClX.tCVal K (tC (.ref g.c_Handler)) "DEEPEST")))
  (R_Handler_init_11 K g E)
  tNext)
  (R_Handler_init_12 K g E))
def R_Handler_init_8 (K : PySem.W.Frag) (g : Ads) (E : XK) : TS :=
  (tSeq (tIfS (zTest (tOp zGt (zCall (sp_many_of K g) [] (WE (fun cls d _ H => E cls d H)) (tCons (zVar 3) tNil)) (ClX.tCVal K (tC (.ref g.c_Handler)) "MOST")))
  (R_Handler_init_9 K g E)
  tNext)
  (R_Handler_init_10 K g E))
def R_Handler_init_7 (K : PySem.W.Frag) (g : Ads) (E : XK) : TS :=
  (tSeq (tDrop (zCall (sp_check_unlike K g) [] (WE (fun cls d _ H => E cls d H)) (tCons (tCB (rListOf K) (tCons (zVar 2) tNil)) tNil)))
  (R_Handler_init_8 K g E))
def R_Handler_init_5 (K : PySem.W.Frag) (g : Ads) (E : XK) : TS :=
  (tSeq (zFor (iSeq K (zVar 2)) (gName 6)
  (R_Handler_init_6 K g E))
  (R_Handler_init_7 K g E))
def R_Handler_init_2 (K : PySem.W.Frag) (g : Ads) (E : XK) : TS :=
  (tSeq (zFor (zEnum K (tCons (zVar 3) tNil)) (gTup K 2 (gCons (gName 4) (gCons (gName 5) gNil)))
  (R_Handler_init_3 K g E))
  (R_Handler_init_5 K g E))
def R_Handler_init (K : PySem.W.Frag) (g : Ads) (E : XK) : TS :=
  (tSeq (sFld K (zVar 0) (zCall (sp_check_name K g) [] (WE (fun cls d _ H => E cls d H)) (tCons (zVar 1) tNil)) "name")
  (R_Handler_init_2 K g E))
def rw_Handler_init (K : PySem.W.Frag) (g : Ads) : Sp := fun vs H Q E => vs.length = 4 ∧ R_Handler_init K g E { nx := fun _ H' => Q .non H', rt := Q } (start ["self", "name", "params", "steps", "index", "step", "param", "found"] vs) H
theorem raw_Handler_init {P : Program} [SupP P] {w : World} {K : PySem.W.Frag} {mg : Str → Option Value} {base : Heap} {g : Ads} (T : Txt K mg g) : FnS false P w K mg base 12 g.f_Handler_init g.d_Handler_init ["self", "name", "params", "steps"] 2 1 (rw_Handler_init K g) := by
  refine okS T.f_Handler_init sc_Handler_init rfl (fun cdv A outer s H vs Q E hr hgu h => ⟨R_Handler_init K g E, ?_, h.2⟩)
  exact (pss_cons (ps_fld (zv 0) (pe_callZ (ok_check_name T) (hr.mono (by decide)) (fun z => nomatch z) rfl T.g_check_name T.k_check_name T.e_check_name .nil (fun σ => passAt (takes_of rfl rfl rfl rfl) σ) (pa_cons (zv 1) pa_nil)) rfl)
  (pss_cons (psz_for PassesOwn.leaving rfl (pi_zEnum (by rfl) T.b_enumerate (pa_cons (zv 3) pa_nil)) (pg_tup rfl (pgs_cons (pg_name (i := 4) sc_Handler_init.nd rfl (Or.inl rfl)) (pgs_cons (pg_name (i := 5) sc_Handler_init.nd rfl (Or.inl rfl)) pgs_nil)))
  (pss_one (ps_if (pt_not (ptz_truth (pe_callB call_isi (by rfl) T.b_isinstance (by decide +kernel) (pa_cons (zv 5) (pa_cons (pe_glob rfl T.g_Step rfl) pa_nil))) (by intro _; rfl)))
  (pss_one (ps_raise rfl (takes_of rfl rfl rfl rfl) (pmk_ZB T.o_BadStep T.i_BadStep T.t_BadStep (ok_BadStep_init T) (hr.mono (by decide)) (fun z => nomatch z) T.e_BadStep_init rfl T.g_BadStep (by exact (pa_cons (zv 4) pa_nil)))))
  pss_nil)))
  (pss_cons (psz_for PassesOwn.leaving rfl (pi_seq (zv 2)) (pg_name (i := 6) sc_Handler_init.nd rfl (Or.inl rfl))
  (pss_one (ps_expr (pe_callZ (ok_check_name T) (hr.mono (by decide)) (fun z => nomatch z) rfl T.g_check_name T.k_check_name T.e_check_name .nil (fun σ => passAt (takes_of rfl rfl rfl rfl) σ) (pa_cons (zv 6) pa_nil)))))
  (pss_cons (ps_expr (pe_callZ (ok_check_unlike T) (hr.mono (by decide)) (fun z => nomatch z) rfl T.g_check_unlike T.k_check_unlike T.e_check_unlike .nil (fun σ => passAt (takes_of rfl rfl rfl rfl) σ) (pa_cons (pe_callTy call_listZ (by rfl) T.b_list (by decide +kernel) (pa_cons (zv 2) pa_nil)) pa_nil)))
  (pss_cons (ps_if (ptz_cmp op_zGt (pe_callZ (ok_many_of T) (hr.mono (by decide)) (fun z => nomatch z) rfl T.g_many_of T.k_many_of T.e_many_of .nil (fun σ => passAt (takes_of rfl rfl rfl rfl) σ) (pa_cons (zv 3) pa_nil)) (ClX.pe_cval (pe_glob rfl T.g_Handler rfl)) (nomark _))
  (pss_one (ps_raise rfl (takes_of rfl rfl rfl rfl) (pmk_ZB T.o_TooMany T.i_TooMany T.t_TooMany (ok_TooMany_init T) (hr.mono (by decide)) (fun z => nomatch z) T.e_TooMany_init rfl T.g_TooMany (by exact (pa_cons (ClX.pe_cval (pe_glob rfl T.g_Handler rfl)) pa_nil)))))
  pss_nil)
  (pss_cons (ps_if (ptz_cmp op_zGt (pe_callZ (ok_depth_of T) (hr.mono (by decide)) (fun z => nomatch z) rfl T.g_depth_of T.k_depth_of T.e_depth_of .nil (fun σ => passAt (takes_of rfl rfl rfl rfl) σ) (pa_cons (zv 3) pa_nil)) (ClX.pe_cval (pe_glob rfl T.g_Handler rfl)) (nomark _))
  (pss_one (ps_raise rfl (takes_of rfl rfl rfl rfl) (pmk_ZB T.o_TooMany T.i_TooMany T.t_TooMany (ok_TooMany_init T) (hr.mono (by decide)) (fun z => nomatch z) T.e_TooMany_init rfl T.g_TooMany (by exact (pa_cons (ClX.pe_cval (pe_glob rfl T.g_Handler rfl)) pa_nil)))))
  pss_nil)
  (pss_cons (ps_if (ptz_cmp op_zGt (pe_callB call_lenZ (by rfl) T.b_len (by decide +kernel) (pa_cons (zv 2) pa_nil)) (pe_cint rfl T.n_MOST_PARAMS) (nomark _))
  (pss_one (ps_raise rfl (takes_of rfl rfl rfl rfl) (pmk_ZB T.o_TooMany T.i_TooMany T.t_TooMany (ok_TooMany_init T) (hr.mono (by decide)) (fun z => nomatch z) T.e_TooMany_init rfl T.g_TooMany (by exact (pa_cons (pe_cint rfl T.n_MOST_PARAMS) pa_nil)))))
  pss_nil)
  (pss_cons (ps_fld (zv 0) (pe_callTy call_tupZ (by rfl) T.b_tuple (by decide +kernel) (pa_cons (zv 2) pa_nil)) rfl)
  (pss_cons (ps_fld (zv 0) (zv 3) rfl)
  (pss_cons (ps_set (i := 7) sc_Handler_init.nd rfl (Or.inl rfl) (pe_lst pa_nil))
  (pss_cons (psz_for PassesOwn.leaving rfl (pi_tup (zv 3)) (pg_name (i := 5) sc_Handler_init.nd rfl (Or.inl rfl))
  (pss_one (ps_expr (pe_bm PySem.F.plainAttrs_list PySem.F.slot_list_extend PySem.F.type_list_extend mt_extend (zv 7) (pa_cons (PE.or (pe_methZ0 (zv 5) T.cl_Refuse ⟨T.ih_Refuse_inner, T.i_Step_inner, T.f_Step_inner.kp⟩ (ok_Step_inner T) (hr.mono (by decide)) (fun z => nomatch z) T.e_Step_inner .nil (fun σ => passAt (takes_of rfl rfl rfl rfl) σ)) (PE.or (pe_methZ0 (zv 5) T.cl_Let ⟨T.ih_Let_inner, T.i_Step_inner, T.f_Step_inner.kp⟩ (ok_Step_inner T) (hr.mono (by decide)) (fun z => nomatch z) T.e_Step_inner .nil (fun σ => passAt (takes_of rfl rfl rfl rfl) σ)) (PE.or (pe_methZ0 (zv 5) T.cl_When ⟨T.ih_When_inner, T.i_Block_inner, T.f_Block_inner.kp⟩ (ok_Block_inner T) (hr.mono (by decide)) (fun z => nomatch z) T.e_Block_inner .nil (fun σ => passAt (takes_of rfl rfl rfl rfl) σ)) (pe_methZ0 (zv 5) T.cl_Attempt ⟨T.ih_Attempt_inner, T.i_Block_inner, T.f_Block_inner.kp⟩ (ok_Block_inner T) (hr.mono (by decide)) (fun z => nomatch z) T.e_Block_inner .nil (fun σ => passAt (takes_of rfl rfl rfl rfl) σ))))) pa_nil)))))
  (pss_one (ps_fld (zv 0) (pe_callTy call_tupZ (by rfl) T.b_tuple (by decide +kernel) (pa_cons (zv 7) pa_nil)) rfl)))))))))))))
theorem pf_Handler_init {K : PySem.W.Frag} {mg : Str → Option Value} {g : Ads} (T : Txt K mg g) (as : List V) (H : Hp) (Q : VK) (E : XK) (h : sp_Handler_init K g as H Q E) : rw_Handler_init K g as H Q E := by
  obtain ⟨o, dx, nm, tp, sp, vs, fl, ps, ts, rfl, ho, hnm, hsp, htp, hr, er, qk⟩ := h
  have b0 : But o H H := fun _ _ e _ => e
  have kn : ∀ {H'}, But o H H' → Knd K H' nm := fun b => (hnm.same (hid_but b)).same hid_sub
  refine ⟨rfl, nm, rfl, kn b0, fun n1 H1 s1 => ⟨o, _, dx, _, rfl, s1 _ _ ho, T.cl_Handler, T.na_Handler_name, (by simp), ?_⟩, fun n1 H1 dd s1 hd ex => er g.c_BadName "name" nm (by simp [hndO, n1, xOf]) H1 dd (But.same s1) hd ex⟩
  have b1 : But o H (upd H1 o (.ins g.c_Handler dx [("name", nm)])) := (But.same s1).trans But.put
  have e1 := upd_same (H := H1) (a := o) (o := .ins g.c_Handler dx [("name", nm)])
  show R_Handler_init_2 K g E { nx := fun _ H' => Q .non H', rt := Q } [some (.ref o), some nm, some (.ref tp), some (.ref sp), none, none, none, none] (upd H1 o (.ins g.c_Handler dx [("name", nm)]))
  generalize upd H1 o (.ins g.c_Handler dx [("name", nm)]) = H2 at b1 e1 ⊢
  have keepS : ∀ {H'}, But o H H' → SqT K H' sp vs := fun b => Z.Same.tup ((hid_but b).trans hid_sub) hsp
  have keepP : ∀ {H'}, But o H H' → Sq K H' tp ps := fun b => htp.same ((hid_but b).trans hid_sub)
  have keepR : ∀ {H'}, But o H H' → HRows K g H' vs fl ps ts := fun b => (hr.same (hid_but b)).same hid_sub
  have free : ∀ {H' d}, But o H H' → (∃ u, H' o = some u) → H' d = none → H d = none := fun b ⟨u, e⟩ n => but_free b e n
  refine ⟨sp, vs, rfl, .inr ⟨keepS b1, for_z (walk_zeT (xs := vs)) (fun i σ H' => Same H2 H' ∧ (∀ j, j < i → fl[j]? = some false) ∧ ∃ v4 v5, σ = [some (.ref o), some nm, some (.ref tp), some (.ref sp), v4, v5, none, none]) ⟨Same.refl _, fun j hj => absurd hj (Nat.not_lt_zero _), _, _, rfl⟩ (fun i σ H' _ hh => Z.Same.tup hh.1 (keepS b1)) ?_ ?_⟩⟩
  · rintro i x σ H3 H4 hi ⟨s3, hb, v4, v5, rfl⟩ ⟨T1, x1, x2, rfl, hT, rfl, f1, f2⟩
    cases f1
    have sT := Same.put (o := .tup [V.int (i : Nat), x2]) hT
    have s4 := s3.trans sT
    obtain ⟨b, hbi, t, ty, kt⟩ := paired_get (keepR b1).th f2
    refine ⟨T1, _, rfl, SqT.of upd_same, rfl, _, _, rfl, _, _, rfl, rfl, x2, .ref g.c_Step, t, _, !b, rfl, .own _, ty _ s4, kt, ?_⟩
    cases b with
    | true =>
      refine raise_at fun d hd => er g.c_BadStep "index" (.int (i : Nat)) (by simp [hndO, n1, firstT_at hbi hb, xOf]) _ d ((b1.trans (But.same s4)).trans (But.same (Same.put hd))) (free (b1.trans (But.same s4)) ⟨_, s4 _ _ e1⟩ hd) upd_same
    | false =>
      refine ⟨s4, fun j hj => ?_, _, _, rfl⟩
      by_cases e : j = i
      · rw [e]
        exact hbi
      · exact hb j (by omega)
  rintro σ H3 ⟨s3, hb, v4, v5, rfl⟩
  have b3 := b1.trans (But.same s3)
  have e3 := s3 _ _ e1
  have ft : firstT fl = none := firstT_none fun j hj => hb j (by rw [paired_len hr.th]; exact hj)
  obtain ⟨evs, htr, hdp, hcn⟩ := hr.tr ft
  -- the params
  have par : ∀ (J : It) (G : Hp → Prop), Walk J ps.length G (YAt ps) → (∀ H', Same H3 H' → G H') →
      forGo J (gName 6) (R_Handler_init_6 K g E) { nx := R_Handler_init_7 K g E { nx := fun _ H' => Q .non H', rt := Q }, rt := Q } [some (.ref o), some nm, some (.ref tp), some (.ref sp), v4, v5, none, none] H3 := by
    intro J G wk hG
    refine for_z wk (fun i σ H' => Same H3 H' ∧ (∀ j v, j < i → ps[j]? = some v → isNameV v = true) ∧ ∃ v6, σ = [some (.ref o), some nm, some (.ref tp), some (.ref sp), v4, v5, v6, none]) ⟨Same.refl _, fun j v hj => absurd hj (Nat.not_lt_zero _), _, rfl⟩ (fun i σ H' _ h => hG _ h.1) ?_ ?_
    · rintro i x σ H4 H5 hi ⟨s4, hn, v6, rfl⟩ ⟨rfl, hx⟩
      have b5 := b3.trans (But.same s4)
      have e5 := s4 _ _ e3
      refine ⟨x, rfl, (keepR b5).kp x (List.mem_of_getElem? hx), fun n2 H6 s6 => ⟨s4.trans s6, fun j v hj hv => ?_, _, rfl⟩, fun n2 H6 dd s6 hd ex => ?_⟩
      · by_cases e : j = i
        · rw [e, hx] at hv
          cases hv
          exact n2
        · exact hn j v (by omega) hv
      · exact er g.c_BadName "name" x (by simp [hndO, n1, ft, notName_at hx n2 hn, xOf]) H6 dd (b5.trans (But.same s6)) (free b5 ⟨_, e5⟩ hd) ex
    · rintro σ H4 ⟨s4, hn, v6, rfl⟩
      have b4 := b3.trans (But.same s4)
      have e4 := s4 _ _ e3
      have hall : ∀ v ∈ ps, isNameV v = true := fun v hv => by
        obtain ⟨j, hj, rfl⟩ := List.getElem_of_mem hv
        exact hn j _ hj (List.getElem?_eq_getElem hj)
      have nn : notName ps = none := notName_none hall
      have es := strs_of hall
      refine ⟨ps, (keepP b4).symm, fun l hl => ?_⟩
      have sl := Same.put (o := .lst ps) hl
      have el := upd_same (H := H4) (a := l) (o := .lst ps)
      generalize upd H4 l (.lst ps) = H5 at sl el
      have b5 := b4.trans (But.same sl)
      have e5 := sl _ _ e4
      refine ⟨l, ps.map strOf, rfl, SqL.of (by rw [← es]; exact el), fun dn H6 s6 => ?_, fun z ez H6 d s6 hd ex => er g.c_Twice "name" (.str z) (by simp [hndO, n1, ft, nn, ez, xOf]) H6 d (b5.trans (But.same s6)) (free b5 ⟨_, e5⟩ hd) ex⟩
      have b6 := b5.trans (But.same s6)
      have e6 := s6 _ _ e5
      obtain ⟨um, cm⟩ := T.cv_Handler_MOST
      obtain ⟨ud, cd⟩ := T.cv_Handler_DEEPEST
      have trK : ∀ {H'}, But o H H' → TrsAt K g H' ts := fun b => TrsAt.same ((hid_but b).trans hid_sub) _ htr
      have lts : ts.length ≤ 1000 := by
        have := hr.lv
        rw [evs, List.length_map] at this
        exact this
      show R_Handler_init_8 K g E { nx := fun _ H' => Q .non H', rt := Q } [some (.ref o), some nm, some (.ref tp), some (.ref sp), v4, v5, v6, none] H6
      have sp6 : ∀ {H'}, But o H H' → SqT K H' sp (ts.map Tr.v) := fun b => by rw [← evs]; exact keepS b
      refine ⟨sp, ts, rfl, sp6 b6, trK b6, hdp, lts, hcn, fun H7 s7 => ⟨g.c_Handler, _, _, um, rfl, T.cr_Handler, cm, zite (fun hm => ?_) (fun hm => ?_)⟩⟩
      · have h16 : 16 < (inns ts).length := by
          have := of_decide_eq_true hm
          omega
        refine ⟨g.c_Handler, _, _, um, rfl, T.cr_Handler, cm, ?_⟩
        have b7 := b6.trans (But.same s7)
        exact raise_at fun d hd => er g.c_TooMany "limit" (.int 16) (by simp [hndO, n1, ft, nn, dn, h16, xOf]) _ d (b7.trans (But.same (Same.put hd))) (free b7 ⟨_, s7 _ _ e6⟩ hd) upd_same
      have h16 : ¬ 16 < (inns ts).length := by
        have := of_decide_eq_false hm
        omega
      have b7 := b6.trans (But.same s7)
      have e7 := s7 _ _ e6
      refine ⟨sp, ts, rfl, .inl (sp6 b7), trK b7, hdp, fun H8 s8 => ⟨g.c_Handler, _, _, ud, rfl, T.cr_Handler, cd, zite (fun hm => ?_) (fun hm => ?_)⟩⟩
      · have h5 : 5 < dpt ts := by
          have := of_decide_eq_true hm
          omega
        refine ⟨g.c_Handler, _, _, ud, rfl, T.cr_Handler, cd, ?_⟩
        have b8 := b7.trans (But.same s8)
        exact raise_at fun d hd => er g.c_TooMany "limit" (.int 4) (by simp [hndO, n1, ft, nn, dn, h16, h5, xOf]) _ d (b8.trans (But.same (Same.put hd))) (free b8 ⟨_, s8 _ _ e7⟩ hd) upd_same
      have h5 : ¬ 5 < dpt ts := by
        have := of_decide_eq_false hm
        omega
      have b8 := b7.trans (But.same s8)
      have e8 := s8 _ _ e7
      refine ⟨ps, (keepP b8).symm, zite (fun hm => ?_) (fun hm => ?_)⟩
      · have h3 : 3 < ps.length := by
          have := of_decide_eq_true hm
          omega
        exact raise_at fun d hd => er g.c_TooMany "limit" (.int 3) (by simp [hndO, n1, ft, nn, dn, h16, h5, h3, xOf]) _ d (b8.trans (But.same (Same.put hd))) (free b8 ⟨_, e8⟩ hd) upd_same
      have h3 : ¬ 3 < ps.length := by
        have := of_decide_eq_false hm
        omega
      have okO : hndO nm fl ps ts = .ok := by simp [hndO, n1, ft, nn, dn, h16, h5, h3]
      -- the fields
      have fld : ∀ (tp' : Addr) (H9 : Hp), But o H H9 → H9 o = some (.ins g.c_Handler dx [("name", nm)]) → SqT K (hid [o] H9) tp' ps →
          R_Handler_init_15 K g E { nx := fun _ H' => Q .non H', rt := Q } [some (.ref o), some nm, some (.ref tp), some (.ref sp), v4, v5, v6, none] (upd H9 o (.ins g.c_Handler dx [("name", nm), ("params", .ref tp')])) := by
        intro tp' H9 b9 e9 ht9
        refine ⟨o, _, dx, _, rfl, upd_same, T.cl_Handler, T.na_Handler_body, (show 2 < 1000 by decide), ?_⟩
        have b10 : But o H9 (upd (upd H9 o (.ins g.c_Handler dx [("name", nm), ("params", .ref tp')])) o (.ins g.c_Handler dx [("name", nm), ("params", .ref tp'), ("body", .ref sp)])) := But.put.trans But.put
        have e10 := upd_same (H := upd H9 o (.ins g.c_Handler dx [("name", nm), ("params", .ref tp')])) (a := o) (o := .ins g.c_Handler dx [("name", nm), ("params", .ref tp'), ("body", .ref sp)])
        show R_Handler_init_16 K g E { nx := fun _ H' => Q .non H', rt := Q } [some (.ref o), some nm, some (.ref tp), some (.ref sp), v4, v5, v6, none] (upd (upd H9 o (.ins g.c_Handler dx [("name", nm), ("params", .ref tp')])) o (.ins g.c_Handler dx [("name", nm), ("params", .ref tp'), ("body", .ref sp)]))
        generalize upd (upd H9 o (.ins g.c_Handler dx [("name", nm), ("params", .ref tp')])) o (.ins g.c_Handler dx [("name", nm), ("params", .ref tp'), ("body", .ref sp)]) = H10 at b10 e10 ⊢
        have c10 := b9.trans b10
        refine ⟨show 0 ≤ sizeLine by decide, fun F hF => ⟨sp, rfl, ⟨_, Z.Same.tup (Same.put hF) (sp6 c10)⟩, for_z (walk_tup (xs := ts.map Tr.v)) (fun i σ H' => Same H10 H' ∧ H' F = some (.lst (inns (ts.take i))) ∧ ∃ v5, σ = [some (.ref o), some nm, some (.ref tp), some (.ref sp), v4, v5, v6, some (.ref F)])
          ⟨Same.put hF, by rw [upd_same]; simp [inns], _, rfl⟩ (fun i σ H' _ h => Z.Same.tup h.1 (sp6 c10)) ?_ ?_⟩⟩
        · rintro i x σ H11 H12 hi ⟨s11, eF, v5', rfl⟩ ⟨rfl, hx⟩
          obtain ⟨t, hti, htm, rfl⟩ := tr_get hx
          have ht12 := TrAt.same s11 t ((trK c10).mem t htm)
          have fin : ∀ l H13, Same H12 H13 → H12 l = none → H13 l = some (.lst t.inn) → ∃ l' b' xs zs, V.ref F = .ref l' ∧ [V.ref l] = [.ref b'] ∧ H13 l' = some (.lst xs) ∧ H13 b' = some (.lst zs) ∧ xs.length + zs.length ≤ sizeLine ∧
              (Same H10 (upd H13 l' (.lst (xs ++ zs))) ∧ (upd H13 l' (.lst (xs ++ zs))) F = some (.lst (inns (ts.take (i + 1)))) ∧ ∃ v5, [some (V.ref o), some nm, some (.ref tp), some (.ref sp), v4, some t.v, v6, some (.ref F)] = [some (.ref o), some nm, some (.ref tp), some (.ref sp), v4, v5, v6, some (.ref F)]) := by
            intro l H13 s13 hl13 e13
            refine ⟨F, l, _, _, rfl, rfl, s13 _ _ eF, e13, ?_, same_new hF (s11.trans s13), ?_, _, rfl⟩
            · have z1 := inns_take_le ts i
              have z2 := inn_mem htm
              exact Nat.le_trans (show (inns (ts.take i)).length + t.inn.length ≤ 200000 by omega) (by decide)
            · rw [upd_same, inns_take hti]
          refine ⟨.inl ⟨rfl, _, SqL.of eF⟩, inner_any T (t := t) rfl ht12 (fun w' a' b' o' e => ?_) fun v' e l H13 s13 hl13 e13 => fin l H13 s13 hl13 e13⟩
          have hdt := dpt_mem htm
          have z2 := inn_mem htm
          subst e
          exact ⟨w', a', b', o', rfl, ht12, by omega, by omega, fun l H13 s13 hl13 e13 => fin l H13 s13 hl13 e13⟩
        · rintro σ H11 ⟨s11, eF, v5', rfl⟩
          rw [List.length_map, List.take_length] at eF
          refine ⟨_, .inl ⟨SqL.of eF, fun q hq => ⟨o, _, dx, _, rfl, (s11.trans (Same.put hq)) _ _ e10, T.cl_Handler, T.na_Handler_steps, (by simp), ?_⟩⟩⟩
          have s12 := s11.trans (Same.put (o := .tup (inns ts)) hq)
          have nq : q ≠ o := (ne_of_none (s11 _ _ e10) hq).symm
          exact qk okO _ tp' q ((c10.trans (But.same s12)).trans But.put) upd_same (Z.Same.tup (hid_but ((b10.trans (But.same s12)).trans But.put)) ht9) (by rw [upd_ne nq, upd_same])
      show R_Handler_init_14 K g E { nx := fun _ H' => Q .non H', rt := Q } [some (.ref o), some nm, some (.ref tp), some (.ref sp), v4, v5, v6, none] H8
      have hp8 : Sq K (hid [o] H8) tp ps := htp.same (hid_but b8)
      rcases hp8 with hp8 | hp8
      · exact ⟨ps, .inr ⟨Z.Same.tup hid_sub hp8, o, _, dx, _, rfl, e8, T.cl_Handler, T.na_Handler_params, (by simp), fld tp H8 b8 e8 hp8⟩⟩
      · refine ⟨ps, .inl ⟨hid_sub.seq hp8, fun t2 ht2 => ?_⟩⟩
        have n2 : t2 ≠ o := (ne_of_none e8 ht2).symm
        have s9 := Same.put (o := .tup ps) ht2
        exact ⟨o, _, dx, _, rfl, s9 _ _ e8, T.cl_Handler, T.na_Handler_params, (by simp), fld t2 _ (b8.trans (But.same s9)) (s9 _ _ e8) (SqT.of (hid_at (by simpa using n2) upd_same))⟩
  rcases keepP b3 with hp3 | hp3
  · exact ⟨tp, rfl, .inr ⟨⟨_, hp3⟩, par _ _ walk_tup fun H' s => Z.Same.tup s hp3⟩⟩
  · exact ⟨tp, rfl, .inl ⟨⟨_, hp3⟩, par _ _ walk_list fun H' s => s.seq hp3⟩⟩
theorem ok_Handler_init {P : Program} [SupP P] {w : World} {K : PySem.W.Frag} {mg : Str → Option Value} {base : Heap} {g : Ads} (T : Txt K mg g) : FnS false P w K mg base 12 g.f_Handler_init g.d_Handler_init ["self", "name", "params", "steps"] 2 1 (sp_Handler_init K g) := (raw_Handler_init T).imp (pf_Handler_init T)
end Z
namespace Z
open PySem PySem.Spec PyProof.Rows L2
/-! ### handlers made -/
def ErrsN (g : Ads) (H : Hp) (E : XK) (r : HO5) : Prop := ∀ C f v, xOf g r = some (C, f, v) → ∀ H' dd, Same H H' → H dd = none → H' dd = some (.xd [(f, v)]) → E (.ref C) (some dd) H'
def HandAt (K : PySem.W.Frag) (g : Ads) (H : Hp) (o : Addr) (nm : V) (ps : List V) : Prop := ∃ dx tp sp st, H o = some (.ins g.c_Handler dx (hndF nm tp sp st)) ∧ SqT K H tp ps
def sp_Hand_new (K : PySem.W.Frag) (g : Ads) (H : Hp) (nm : V) (tp : Addr) (vs : List V) (Q : VK) (E : XK) : Prop := ∃ (fl : List Bool) (ps : List V) (ts : List Tr), Knd K H nm ∧ Sq K H tp ps ∧ HRows K g H vs fl ps ts ∧ ErrsN g H E (hndO nm fl ps ts) ∧
  (hndO nm fl ps ts = .ok → ∀ o H', Same H H' → H o = none → HandAt K g H' o nm ps → Q (.ref o) H')
theorem hand_new {K : PySem.W.Frag} {g : Ads} {H : Hp} {Q : VK} {E : XK} {nm : V} {tp : Addr} {vs : List V} (h : sp_Hand_new K g H nm tp vs Q E) : NewS g.c_Handler 1 (sp_Handler_init K g) (fun zs => zs) E (nm :: vs) [.ref tp] H Q := by
  obtain ⟨fl, ps, ts, kn, hp, hr, er, q⟩ := h
  refine ⟨[nm], vs, rfl, rfl, Nat.le_trans hr.lv (by decide), fun o dx p ho hd ne hpp => ?_⟩
  obtain ⟨s1, _⟩ := mk_same (C := g.c_Handler) ho hd ne
  have s2 := s1.trans (Same.put (o := .tup vs) hpp)
  have np : p ≠ o := (ne_of_none upd_same hpp).symm
  have sh := mk_hid ho s2
  refine ⟨o, dx, nm, tp, p, vs, fl, ps, ts, rfl, by rw [upd_ne np.symm, upd_same], kn.same sh, SqT.of (hid_at (by simpa using np) upd_same), hp.same sh, hr.same sh, fun C f v e H' dd b n x => er C f v e H' dd (mk_out ho s2 b) (s2.free n) x, fun e H' tp' st b e' h1 _ => ⟨rfl, ?_⟩⟩
  exact q e o H' (mk_out ho s2 b) ho ⟨dx, tp', p, st, e', Z.Same.tup hid_sub h1⟩
def sp_Handler_made (K : PySem.W.Frag) (g : Ads) : Sp := fun as H Q E => ∃ (nm : V) (l tp : Addr) (vs : List V), as = [.ref g.c_Handler, nm, .ref l, .ref tp] ∧ Sq K H l vs ∧ sp_Hand_new K g H nm tp vs Q E
theorem sc_Handler_made : FnScope ["cls", "name", "steps", "params"] ["cls", "name", "steps", "params"] (defScope s_Handler_made) := ⟨rfl, rfl, rfl, by decide +kernel, rfl, by decide +kernel, by decide +kernel⟩
def R_Handler_made (K : PySem.W.Frag) (g : Ads) (E : XK) : TS :=
  (tRet (zNewSK 0 g.c_Handler 1 1 (sp_Handler_init K g) (fun zs => zs) (WE (fun cls d _ H => E cls d H)) (tCons (zVar 1) (StX.tStar K (zVar 2) tNil)) (tCons (zVar 3) tNil)))
def rw_Handler_made (K : PySem.W.Frag) (g : Ads) : Sp := fun vs H Q E => vs.length = 4 ∧ R_Handler_made K g E { nx := fun _ H' => Q .non H', rt := Q } (start ["cls", "name", "steps", "params"] vs) H
theorem raw_Handler_made {P : Program} [SupP P] {w : World} {K : PySem.W.Frag} {mg : Str → Option Value} {base : Heap} {g : Ads} (T : Txt K mg g) : FnG false P w K mg base 14 g.f_Handler_made g.d_Handler_made ["cls", "name", "steps", "params"] (rw_Handler_made K g) := by
  refine okA T.f_Handler_made sc_Handler_made (fun vs H Q E h => h.1) (fun cdv A outer s H vs Q E hr hgu h => ⟨R_Handler_made K g E, ?_, h.2⟩)
  exact (pss_one (ps_ret (pe_zNewSK (i := 0) (ks := ["params"]) (n := 1) T.m_Handler (ok_Handler_init T) (hr.mono (by decide)) (fun z => nomatch z) T.sb_Handler_init rfl (Or.inl rfl) (fun σ => passAt (takes_of rfl rfl rfl rfl) σ) (pa_cons (zv 1) (StX.pa_star (zv 2) pa_nil)) (pk_cons (zv 3) pk_nil))))
theorem ok_Handler_made {P : Program} [SupP P] {w : World} {K : PySem.W.Frag} {mg : Str → Option Value} {base : Heap} {g : Ads} (T : Txt K mg g) : FnG false P w K mg base 14 g.f_Handler_made g.d_Handler_made ["cls", "name", "steps", "params"] (sp_Handler_made K g) :=
  (raw_Handler_made T).imp fun as H Q E ⟨nm, l, tp, vs, e, hl, h⟩ => by
    subst e
    refine ⟨rfl, rfl, l, vs, rfl, hl, rfl, ?_⟩
    show NewS g.c_Handler 1 (sp_Handler_init K g) (fun zs => zs) E (nm :: (vs ++ [])) [.ref tp] H Q
    rw [List.append_nil]
    exact hand_new h
/-! ### nests -/
theorem thg_tr {K : PySem.W.Frag} {mg : Str → Option Value} {g : Ads} {H : Hp} (T : Txt K mg g) {t : Tr} (h : TrAt K g H t) : Thg K g H t.v false := by
  cases t with
  | leaf v =>
    simp only [TrAt] at h
    exact thg_pls T h
  | blk w a b o =>
    simp only [TrAt] at h
    rcases h.1 with ⟨_, x, dx, p, r, h1, _, _⟩ | ⟨_, dx, p, r, h1, _, _⟩
    · exact ⟨_, tyu_ins T.ci_When h1, T.su_When_Step⟩
    · exact ⟨_, tyu_ins T.ci_Attempt h1, T.su_Attempt_Step⟩
theorem tr_sm {K : PySem.W.Frag} {g : Ads} {H : Hp} {t : Tr} (h : TrAt K g H t) : SmV t.v := by
  cases t with
  | leaf v =>
    simp only [TrAt] at h
    exact pls_sm h
  | blk w a b o => exact smv_ref
theorem trs_fl {K : PySem.W.Frag} {mg : Str → Option Value} {g : Ads} {H : Hp} (T : Txt K mg g) : ∀ {ts : List Tr}, TrsAt K g H ts → Paired (Thg K g H) (ts.map Tr.v) (List.replicate ts.length false)
  | [], _ => .nil
  | t :: r, h => by
    simp only [TrsAt] at h
    exact .cons (thg_tr T h.1) (trs_fl T h.2)
theorem rowO_rep {n : Nat} {os : List V} : rowO (List.replicate n false) (some os) = none := by
  have : firstT (List.replicate n false) = none := firstT_none fun j hj => by
    rw [List.length_replicate] at hj
    rw [List.getElem?_replicate, if_pos hj]
  simp [rowO, this]
section
variable {K : PySem.W.Frag} {mg : Str → Option Value} {g : Ads} {H : Hp} {Q : VK} {E : XK}
theorem rows_tr (T : Txt K mg g) {R : Addr} {b o : List Tr} (hb : TrsAt K g H b) (ho : TrsAt K g H o) (lb : b.length ≤ 20) (lo : o.length ≤ 20) (e : Sq K H R (o.map Tr.v)) :
    Rows2 K g H E (.ref R) (b.map Tr.v) (some (o.map Tr.v)) (List.replicate (b ++ o).length false) :=
  ⟨by rw [List.length_map]; omega, ⟨R, rfl, e, by rw [List.length_map]; omega⟩, fun os eo => by
    cases eo
    rw [← List.map_append]
    exact trs_fl T (TrsAt.of fun t m => (List.mem_append.mp m).elim (hb.mem t) (ho.mem t))⟩
theorem when_tr (T : Txt K mg g) {R : Addr} {b o : List Tr} {x : V} (hb : TrsAt K g H b) (ho : TrsAt K g H o) (lb : b.length ≤ 20) (lo : o.length ≤ 20) (e : Sq K H R (o.map Tr.v)) (t : TstB K g H x true)
    (q : ∀ a H', Same H H' → H a = none → WhenAt K g H' a x (b.map Tr.v) (o.map Tr.v) → Q (.ref a) H') : sp_When_new K g H x (.ref R) (b.map Tr.v) Q E :=
  ⟨_, _, true, rows_tr T hb ho lb lo e, t, (fun z => nomatch z), fun _ j ej => (by rw [rowO_rep] at ej; cases ej), fun _ _ os eo a H' s n w => (by cases eo; exact q a H' s n w)⟩
theorem att_tr (T : Txt K mg g) {R : Addr} {b o : List Tr} (hb : TrsAt K g H b) (ho : TrsAt K g H o) (lb : b.length ≤ 20) (lo : o.length ≤ 20) (e : Sq K H R (o.map Tr.v))
    (q : ∀ a H', Same H H' → H a = none → AttAt K g H' a (b.map Tr.v) (o.map Tr.v) → Q (.ref a) H') : sp_Att_new K g H (.ref R) (b.map Tr.v) Q E :=
  ⟨_, _, rows_tr T hb ho lb lo e, fun j ej => (by rw [rowO_rep] at ej; cases ej), fun _ os eo a H' s n w => (by cases eo; exact q a H' s n w)⟩
end
/-- lists that change: no part of what is made -/
def Lsts (S : List Addr) (H : Hp) : Prop := ∀ s ∈ S, ∃ ys, H s = some (.lst ys)
theorem sqT_hidS {K : PySem.W.Frag} {H : Hp} {a : Addr} {S : List Addr} {xs : List V} (h : SqT K H a xs) (e : Lsts S H) : SqT K (hid S H) a xs := by
  rcases h with (h | ⟨o, h⟩) | h
  · exact .inl (.inl (hid_at (fun m => by obtain ⟨ys, e⟩ := e _ m; rw [e] at h; cases h) h))
  · exact .inl (.inr ⟨o, hid_at (fun m => by obtain ⟨ys, e⟩ := e _ m; rw [e] at h; cases h) h⟩)
  · exact .inr h
theorem ins_hidS {H : Hp} {a C dx : Addr} {fs : List (Str × V)} {S : List Addr} (h : H a = some (.ins C dx fs)) (e : Lsts S H) : hid S H a = some (.ins C dx fs) := hid_at (fun m => by obtain ⟨ys, e⟩ := e _ m; rw [e] at h; cases h) h
theorem Lsts.same {S : List Addr} {H H' : Hp} (h : Lsts S H) (s : Same H H') : Lsts S H' := fun a m => (h a m).imp fun _ e => s _ _ e
theorem WhenAt.hidS {K : PySem.W.Frag} {g : Ads} {H : Hp} {o : Addr} {x : V} {bs os : List V} {S : List Addr} (h : WhenAt K g H o x bs os) (e : Lsts S H) : WhenAt K g (hid S H) o x bs os := by
  obtain ⟨dx, p, q, h1, h2, h3⟩ := h
  exact ⟨dx, p, q, ins_hidS h1 e, sqT_hidS h2 e, sqT_hidS h3 e⟩
theorem AttAt.hidS {K : PySem.W.Frag} {g : Ads} {H : Hp} {o : Addr} {bs os : List V} {S : List Addr} (h : AttAt K g H o bs os) (e : Lsts S H) : AttAt K g (hid S H) o bs os := by
  obtain ⟨dx, p, q, h1, h2, h3⟩ := h
  exact ⟨dx, p, q, ins_hidS h1 e, sqT_hidS h2 e, sqT_hidS h3 e⟩
/-- what a nest is -/
structure NestAt (K : PySem.W.Frag) (g : Ads) (S : List Addr) (H : Hp) (t : Tr) (n : Nat) : Prop where
  at_ : TrAt K g (hid S H) t
  dp : t.dep ≤ n
  ct : t.inn.length ≤ 1 + 2 * n
theorem nest_blk {K : PySem.W.Frag} {g : Ads} {S : List Addr} {H H' : Hp} {t : Tr} {n : Nat} {rs : List Tr} {a : Addr} {w : Bool} (h : NestAt K g S H t n) (s : Same H H') (hrs : TrsAt K g (hid S H) rs) (hl : rs = [] ∨ ∃ v, rs = [.leaf v]) (L : Lsts S H')
    (b o : List Tr) (e : (b = rs ++ [t] ∧ o = []) ∨ (b = [] ∧ o = [t] ++ rs) ∨ (b = [t] ∧ o = rs) ∨ (b = rs ∧ o = [t]))
    (k : (w = true ∧ ∃ x, WhenAt K g H' a x (b.map Tr.v) (o.map Tr.v)) ∨ (w = false ∧ AttAt K g H' a (b.map Tr.v) (o.map Tr.v))) : NestAt K g S H' (.blk w a b o) (n + 1) := by
  have sh : Same (hid S H) (hid S H') := hid_same fun c u e _ => s _ _ e
  have ht := TrAt.same sh t h.at_
  have hr := TrsAt.same sh rs hrs
  have dr : dpt rs ≤ 1 ∧ (inns rs).length ≤ 1 ∧ rs.length ≤ 1 := by
    rcases hl with rfl | ⟨v, rfl⟩
    · simp [dpt, inns]
    · simp [dpt, inns, Tr.dep, Tr.inn]
  have h1 := h.dp
  have h2 := h.ct
  have k' : (w = true ∧ ∃ x, WhenAt K g (hid S H') a x (b.map Tr.v) (o.map Tr.v)) ∨ (w = false ∧ AttAt K g (hid S H') a (b.map Tr.v) (o.map Tr.v)) := k.imp (fun z => ⟨z.1, z.2.imp fun _ q => q.hidS L⟩) fun z => ⟨z.1, z.2.hidS L⟩
  have one : TrsAt K g (hid S H') [t] := by simp only [TrsAt]; exact ⟨ht, trivial⟩
  have app : ∀ x y, TrsAt K g (hid S H') x → TrsAt K g (hid S H') y → TrsAt K g (hid S H') (x ++ y) := fun x y hx hy => TrsAt.of fun t m => (List.mem_append.mp m).elim (hx.mem t) (hy.mem t)
  have nil : TrsAt K g (hid S H') [] := by simp only [TrsAt]
  have z1 : dpt [t] = t.dep + 1 := by simp [dpt]
  have z2 : (inns [t]).length = t.inn.length := by simp [inns]
  have z3 : dpt [] = 0 := by simp [dpt]
  have z4 : inns [] = [] := by simp [inns]
  rcases e with ⟨rfl, rfl⟩ | ⟨rfl, rfl⟩ | ⟨rfl, rfl⟩ | ⟨rfl, rfl⟩
  · refine ⟨by simp only [TrAt]; exact ⟨k', by simp; omega, by simp, app _ _ hr one, nil⟩, ?_, ?_⟩
    · simp only [Tr.dep, dpt_app, z1, z3]; omega
    · simp only [Tr.inn, List.length_cons, List.length_append, inns_app, z2, z4, List.length_nil]; omega
  · refine ⟨by simp only [TrAt]; exact ⟨k', by simp, by simp; omega, nil, app _ _ one hr⟩, ?_, ?_⟩
    · simp only [Tr.dep, dpt_app, z1, z3]; omega
    · simp only [Tr.inn, List.length_cons, List.length_append, inns_app, z2, z4, List.length_nil]; omega
  · refine ⟨by simp only [TrAt]; exact ⟨k', by simp, by omega, one, hr⟩, ?_, ?_⟩
    · simp only [Tr.dep, z1]; omega
    · simp only [Tr.inn, List.length_cons, List.length_append, z2]; omega
  · refine ⟨by simp only [TrAt]; exact ⟨k', by omega, by simp, hr, one⟩, ?_, ?_⟩
    · simp only [Tr.dep, z1]; omega
    · simp only [Tr.inn, List.length_cons, List.length_append, z2]; omega
end Z
namespace Z
open PySem PySem.Spec PyProof.Rows L2
theorem NestAt.but {K : PySem.W.Frag} {g : Ads} {S : List Addr} {p : Addr} {H H' : Hp} {t : Tr} {n : Nat} (h : NestAt K g (p :: S) H t n) (b : But p H H') : NestAt K g (p :: S) H' t n :=
  ⟨TrAt.same (hid_same fun c u e m => b c u e fun z => m (by rw [z]; simp)) t h.at_, h.dp, h.ct⟩
theorem lsts_deck {S : List Addr} {p wa : Addr} {H H' : Hp} (h : Lsts S H) (d : DeckAt H' p wa) (b : But p H H') : Lsts (p :: S) H' := fun s m => by
  by_cases e : s = p
  · rw [e]
    obtain ⟨c, m, t, ws, h1, _⟩ := d
    exact ⟨_, h1⟩
  · rcases List.mem_cons.mp m with z | m
    · exact absurd z e
    · exact (h s m).imp fun _ q => b _ _ q e
def sp_law_nest (K : PySem.W.Frag) (g : Ads) : Sp := fun vs H Q E => ∃ p wa S n, vs = [.ref p, .int n] ∧ DeckAt H p wa ∧ Lsts S H ∧ 0 ≤ n ∧ n ≤ 6 ∧ ∀ t H', DeckAt H' p wa → But p H H' → NestAt K g (p :: S) H' t n.toNat → Q t.v H'
theorem sc_law_nest : FnScope ["deck", "deep", "step", "turn", "way", "rest"] ["deck", "deep"] (defScope s_law_nest) := ⟨rfl, rfl, rfl, by decide +kernel, rfl, by decide +kernel, by decide +kernel⟩
def R_law_nest_5 (K : PySem.W.Frag) (g : Ads) (E : XK) : TS :=
  (tAsg (zCMethD g.c_Attempt (sp_Attempt_made K g) [.ref g.t_Attempt_made_otherwise] (WE (fun cls d _ H => E cls d H)) (tC (.ref g.c_Attempt)) (tCons (tOp zAdd (zVar 5) (tLst (tCons (zVar 2) tNil))) tNil)) (gName 2))
def R_law_nest_7 (K : PySem.W.Frag) (g : Ads) (E : XK) : TS :=
  (tAsg (tCMethS g.c_Attempt (sp_Attempt_made K g) (WE (fun cls d _ H => E cls d H)) (tC (.ref g.c_Attempt)) (tCons (tLst tNil) (tCons (tOp zAdd (tLst (tCons (zVar 2) tNil)) (zVar 5)) tNil))) (gName 2))
def R_law_nest_9 (K : PySem.W.Frag) (g : Ads) (E : XK) : TS :=
  (tAsg (tCMethS g.c_When (sp_When_made K g) (WE (fun cls d _ H => E cls d H)) (tC (.ref g.c_When)) (tCons (zMake g.c_Has (sp_Has_init K g) [] (WE (fun cls d _ H => E cls d H)) (tCons (tC .non) tNil)) (tCons (tLst (tCons (zVar 2) tNil)) (tCons (zVar 5) tNil)))) (gName 2))
def R_law_nest_11 (K : PySem.W.Frag) (g : Ads) (E : XK) : TS :=
  (tAsg (tCMethS g.c_When (sp_When_made K g) (WE (fun cls d _ H => E cls d H)) (tC (.ref g.c_When)) (tCons (zMake g.c_Has (sp_Has_init K g) [] (WE (fun cls d _ H => E cls d H)) (tCons (tC (.str "a")) tNil)) (tCons (zVar 5) (tCons (tLst (tCons (zVar 2) tNil)) tNil)))) (gName 2))
def R_law_nest_10 (K : PySem.W.Frag) (g : Ads) (E : XK) : TS :=
  (tIfS (zTest (tOp (zEq K) (zVar 4) (tC (.int 3))))
  (R_law_nest_11 K g E)
  tNext)
def R_law_nest_8 (K : PySem.W.Frag) (g : Ads) (E : XK) : TS :=
  (tSeq (tIfS (zTest (tOp (zEq K) (zVar 4) (tC (.int 2))))
  (R_law_nest_9 K g E)
  tNext)
  (R_law_nest_10 K g E))
def R_law_nest_6 (K : PySem.W.Frag) (g : Ads) (E : XK) : TS :=
  (tSeq (tIfS (zTest (tOp (zEq K) (zVar 4) (tC (.int 1))))
  (R_law_nest_7 K g E)
  tNext)
  (R_law_nest_8 K g E))
def R_law_nest_4 (K : PySem.W.Frag) (g : Ads) (E : XK) : TS :=
  (tSeq (tIfS (zTest (tOp (zEq K) (zVar 4) (tC (.int 0))))
  (R_law_nest_5 K g E)
  tNext)
  (R_law_nest_6 K g E))
def R_law_nest_3 (K : PySem.W.Frag) (g : Ads) (E : XK) : TS :=
  (tSeq (tPar 4 5 (tCons (zCall (sp_law_draw K g) [] (WE (fun cls d _ H => E cls d H)) (tCons (zVar 0) (tCons (tC (.int 4)) tNil))) (tCons (tOp zMul (tLst (tCons (zMake0 g.c_Refuse) tNil)) (tOp zSub (tC (.int 1)) (tCB rMn2 (tCons (tC (.int 1)) (tCons (zCall (sp_law_draw K g) [] (WE (fun cls d _ H => E cls d H)) (tCons (zVar 0) (tCons (tC (.int 5)) tNil))) tNil))))) tNil)))
  (R_law_nest_4 K g E))
def R_law_nest_2 (K : PySem.W.Frag) (g : Ads) (E : XK) : TS :=
  (tSeq (zFor (iRng1 (tCons (zVar 1) tNil)) (gName 3)
  (R_law_nest_3 K g E))
  (tRet (zVar 2)))
def R_law_nest (K : PySem.W.Frag) (g : Ads) (E : XK) : TS :=
  (tSeq (tAsg (zMake0 g.c_Refuse) (gName 2))
  (R_law_nest_2 K g E))
def rw_law_nest (K : PySem.W.Frag) (g : Ads) : Sp := fun vs H Q E => vs.length = 2 ∧ R_law_nest K g E { nx := fun _ H' => Q .non H', rt := Q } (start ["deck", "deep", "step", "turn", "way", "rest"] vs) H
theorem raw_law_nest {P : Program} [SupP P] {w : World} {K : PySem.W.Frag} {mg : Str → Option Value} {base : Heap} {g : Ads} (T : Txt K mg g) : FnG false P w K mg base 7 g.f_law_nest g.d_law_nest ["deck", "deep"] (rw_law_nest K g) := by
  refine okZ T.f_law_nest sc_law_nest (fun vs H Q E h => h.1) (fun cdv A outer s H vs Q E hr hgu h => ⟨R_law_nest K g E, ?_, h.2⟩)
  exact (pss_cons (ps_set (i := 2) sc_law_nest.nd rfl (Or.inl rfl) (pe_make00 T.m0_Refuse T.ci_Refuse.hm rfl T.g_Refuse))
  (pss_cons (psz_for PassesOwn.leaving rfl (pi_range1 rfl T.b_range (pa_cons (zv 1) pa_nil)) (pg_name (i := 3) sc_law_nest.nd rfl (Or.inl rfl))
  (pss_cons (ps_par (i := 4) (j := 5) (by rfl) sc_law_nest.nd rfl rfl (by decide) rfl rfl (pa_cons (pe_callZ (ok_law_draw T) (hr.mono (by decide)) (fun z => nomatch z) rfl T.g_law_draw T.k_law_draw T.e_law_draw .nil (fun σ => passAt (takes_of rfl rfl rfl rfl) σ) (pa_cons (zv 0) (pa_cons pe_int pa_nil))) (pa_cons (pe_op op_zMul (pe_lst (pa_cons (pe_make00 T.m0_Refuse T.ci_Refuse.hm rfl T.g_Refuse) pa_nil)) (pe_op op_zSub pe_int (pe_callB (call_mn2 rfl) (by rfl) T.b_min (by decide +kernel) (pa_cons pe_int (pa_cons (pe_callZ (ok_law_draw T) (hr.mono (by decide)) (fun z => nomatch z) rfl T.g_law_draw T.k_law_draw T.e_law_draw .nil (fun σ => passAt (takes_of rfl rfl rfl rfl) σ) (pa_cons (zv 0) (pa_cons pe_int pa_nil))) pa_nil))))) pa_nil)) (by rfl))
  (pss_cons (ps_if (ptz_cmp (op_zEq hr.units) (zv 4) pe_int (nomark _))
  (pss_one (ps_set (i := 2) sc_law_nest.nd rfl (Or.inl rfl) (pe_cmethD (pe_glob rfl T.g_Attempt rfl) T.cr_Attempt T.cm_Attempt_made (ok_Attempt_made T) (hr.mono (by decide)) (fun z => nomatch z) T.e_Attempt_made (.cons rfl .nil) (fun σ => passAt (takes_of rfl rfl rfl rfl) σ) (pa_cons (pe_op op_zAdd (zv 5) (pe_lst (pa_cons (zv 2) pa_nil))) pa_nil))))
  pss_nil)
  (pss_cons (ps_if (ptz_cmp (op_zEq hr.units) (zv 4) pe_int (nomark _))
  (pss_one (ps_set (i := 2) sc_law_nest.nd rfl (Or.inl rfl) (pe_cmethS (pe_glob rfl T.g_Attempt rfl) T.cr_Attempt T.cm_Attempt_made (ok_Attempt_made T) (hr.mono (by decide)) (fun z => nomatch z) T.ef_Attempt_made (fun σ => passAt (takes_of rfl rfl rfl rfl) σ) (pa_cons (pe_lst pa_nil) (pa_cons (pe_op op_zAdd (pe_lst (pa_cons (zv 2) pa_nil)) (zv 5)) pa_nil)))))
  pss_nil)
  (pss_cons (ps_if (ptz_cmp (op_zEq hr.units) (zv 4) pe_int (nomark _))
  (pss_one (ps_set (i := 2) sc_law_nest.nd rfl (Or.inl rfl) (pe_cmethS (pe_glob rfl T.g_When rfl) T.cr_When T.cm_When_made (ok_When_made T) (hr.mono (by decide)) (fun z => nomatch z) T.ef_When_made (fun σ => passAt (takes_of rfl rfl rfl rfl) σ) (pa_cons (pe_makeZ T.m_Has (ok_Has_init T) (hr.mono (by decide)) (fun z => nomatch z) rfl T.g_Has T.e_Has_init .nil (fun σ => passAt (takes_of rfl rfl rfl rfl) σ) (pa_cons pe_non pa_nil)) (pa_cons (pe_lst (pa_cons (zv 2) pa_nil)) (pa_cons (zv 5) pa_nil))))))
  pss_nil)
  (pss_one (ps_if (ptz_cmp (op_zEq hr.units) (zv 4) pe_int (nomark _))
  (pss_one (ps_set (i := 2) sc_law_nest.nd rfl (Or.inl rfl) (pe_cmethS (pe_glob rfl T.g_When rfl) T.cr_When T.cm_When_made (ok_When_made T) (hr.mono (by decide)) (fun z => nomatch z) T.ef_When_made (fun σ => passAt (takes_of rfl rfl rfl rfl) σ) (pa_cons (pe_makeZ T.m_Has (ok_Has_init T) (hr.mono (by decide)) (fun z => nomatch z) rfl T.g_Has T.e_Has_init .nil (fun σ => passAt (takes_of rfl rfl rfl rfl) σ) (pa_cons pe_str pa_nil)) (pa_cons (zv 5) (pa_cons (pe_lst (pa_cons (zv 2) pa_nil)) pa_nil))))))
  pss_nil)))))))
  (pss_one (ps_ret (zv 2)))))
def NstI (K : PySem.W.Frag) (g : Ads) (S : List Addr) (H : Hp) (p wa : Addr) (n : Int) (i : Nat) (σ : St) (H' : Hp) : Prop := ∃ t v3 v4 v5, σ = [some (.ref p), some (.int n), some t.v, v3, v4, v5] ∧ DeckAt H' p wa ∧ But p H H' ∧ NestAt K g (p :: S) H' t i
theorem nest_way {K : PySem.W.Frag} {mg : Str → Option Value} {g : Ads} (T : Txt K mg g) {E : XK} {D' : Ends} {S : List Addr} {H H5 : Hp} {p wa R : Addr} {n r : Int} {i : Nat} {t : Tr} {rs : List Tr} (hS : Lsts S H) (hD : ∀ σ H', NstI K g S H p wa n (i + 1) σ H' → D'.nx σ H')
    (d5 : DeckAt H5 p wa) (b5 : But p H H5) (nt : NestAt K g (p :: S) H5 t i) (eR : H5 R = some (.lst (rs.map Tr.v))) (hrs : TrsAt K g (hid (p :: S) H5) rs) (hl : rs = [] ∨ ∃ v, rs = [.leaf v]) (r0 : 0 ≤ r) (r1 : r < 4) (v3 : Option V) :
    R_law_nest_4 K g E D' [some (.ref p), some (.int n), some t.v, v3, some (.int r), some (.ref R)] H5 := by
  have lr : rs.length ≤ 1 := by
    rcases hl with rfl | ⟨v, rfl⟩ <;> simp
  -- what is made
  have fin : ∀ (w : Bool) (a : Addr) (H' : Hp) (b o : List Tr), Same H5 H' → ((b = rs ++ [t] ∧ o = []) ∨ (b = [] ∧ o = [t] ++ rs) ∨ (b = [t] ∧ o = rs) ∨ (b = rs ∧ o = [t])) →
      ((w = true ∧ ∃ x, WhenAt K g H' a x (b.map Tr.v) (o.map Tr.v)) ∨ (w = false ∧ AttAt K g H' a (b.map Tr.v) (o.map Tr.v))) → D'.nx [some (.ref p), some (.int n), some (.ref a), v3, some (.int r), some (.ref R)] H' := by
    intro w a H' b o s e k
    exact hD _ _ ⟨.blk w a b o, v3, _, _, rfl, d5.same s, b5.trans (But.same s), nest_blk nt s hrs hl (lsts_deck hS (d5.same s) (b5.trans (But.same s))) b o e k⟩
  have trs : ∀ {H'}, Same H5 H' → TrsAt K g H' rs := fun s => TrsAt.same (hid_sub.trans s) rs hrs
  have one : ∀ {H'}, Same H5 H' → TrsAt K g H' [t] := fun s => by
    simp only [TrsAt]
    exact ⟨TrAt.same (hid_sub.trans s) t nt.at_, trivial⟩
  have app : ∀ {H'} x y, TrsAt K g H' x → TrsAt K g H' y → TrsAt K g H' (x ++ y) := fun x y hx hy => TrsAt.of fun t m => (List.mem_append.mp m).elim (hx.mem t) (hy.mem t)
  have nil : ∀ {H'}, TrsAt K g H' [] := by simp only [TrsAt]; exact fun {_} => trivial
  have cases4 : r = 0 ∨ r = 1 ∨ r = 2 ∨ r = 3 := by omega
  rcases cases4 with rfl | rfl | rfl | rfl
  · refine .inl ⟨rfl, zite (fun _ => ?_) (fun h => absurd h (by decide))⟩
    refine ⟨rfl, show 1 ≤ sizeLine by decide, fun L1 hL1 => ?_⟩
    have s1 := Same.put (o := .lst [t.v]) hL1
    have e1 := upd_same (H := H5) (a := L1) (o := .lst [t.v])
    refine ⟨_, _, s1 _ _ eR, e1, ?_, fun L2 hL2 => ?_⟩
    · rw [List.length_map]
      exact Nat.le_trans (show rs.length + 1 ≤ 2 by omega) (by decide)
    have s2 := s1.trans (Same.put (o := .lst (rs.map Tr.v ++ [t.v])) hL2)
    refine ⟨.ref g.t_Attempt_made_otherwise, L2, (rs ++ [t]).map Tr.v, rfl, .inr (SqL.of (by rw [List.map_append]; exact upd_same)), att_tr T (o := []) (app _ _ (trs s2) (one s2)) nil (by simp; omega) (by simp) (.inl (T.kt_Attempt_made_otherwise _)) fun a H' s3 n3 w3 => ?_⟩
    refine .inl ⟨rfl, zite (fun h => absurd h (by decide)) fun _ => .inl ⟨rfl, zite (fun h => absurd h (by decide)) fun _ => .inl ⟨rfl, zite (fun h => absurd h (by decide)) fun _ => ?_⟩⟩⟩
    exact fin false a H' _ _ (s2.trans s3) (.inl ⟨rfl, rfl⟩) (.inr ⟨rfl, w3⟩)
  · refine .inl ⟨rfl, zite (fun h => absurd h (by decide)) fun _ => .inl ⟨rfl, zite (fun _ => ?_) (fun h => absurd h (by decide))⟩⟩
    refine ⟨rfl, show 0 ≤ sizeLine by decide, fun L0 hL0 => ⟨show 1 ≤ sizeLine by decide, fun L1 hL1 => ?_⟩⟩
    have s0 := Same.put (o := .lst []) hL0
    have e0 := upd_same (H := H5) (a := L0) (o := .lst [])
    generalize upd H5 L0 (.lst []) = H6 at s0 e0 hL1
    have s1 := Same.put (o := .lst [t.v]) hL1
    have e1 := upd_same (H := H6) (a := L1) (o := .lst [t.v])
    refine ⟨_, _, e1, s1 _ _ (s0 _ _ eR), ?_, fun L2 hL2 => ?_⟩
    · rw [List.length_map]
      exact Nat.le_trans (show 1 + rs.length ≤ 2 by omega) (by decide)
    have s2 := s1.trans (Same.put (o := .lst ([t.v] ++ rs.map Tr.v)) hL2)
    have s3 := s0.trans s2
    refine ⟨.ref L2, L0, ([] : List Tr).map Tr.v, rfl, .inr (SqL.of (s2 _ _ e0)), att_tr T (o := [t] ++ rs) nil (app _ _ (one s3) (trs s3)) (by simp) (by simp; omega) (.inr (SqL.of (by rw [List.map_append]; exact upd_same))) fun a H' s4 n4 w4 => ?_⟩
    refine .inl ⟨rfl, zite (fun h => absurd h (by decide)) fun _ => .inl ⟨rfl, zite (fun h => absurd h (by decide)) fun _ => ?_⟩⟩
    exact fin false a H' _ _ (s3.trans s4) (.inr (.inl ⟨rfl, rfl⟩)) (.inr ⟨rfl, w4⟩)
  · refine .inl ⟨rfl, zite (fun h => absurd h (by decide)) fun _ => .inl ⟨rfl, zite (fun h => absurd h (by decide)) fun _ => .inl ⟨rfl, zite (fun _ => ?_) (fun h => absurd h (by decide))⟩⟩⟩
    refine ⟨rfl, fun h hdx nh nhd neh => has_new (v := .non) nh nhd neh True.intro (by decide) fun H6 s6 e6 => ⟨rfl, show 1 ≤ sizeLine by decide, fun L1 hL1 => ?_⟩⟩
    have s1 := Same.put (o := .lst [t.v]) hL1
    have s2 := s6.trans s1
    refine ⟨.ref h, .ref R, L1, [t].map Tr.v, rfl, .inr (SqL.of upd_same), when_tr T (o := rs) (one s2) (trs s2) (by simp) (by omega) (.inr (SqL.of (s2 _ _ eR))) (tst_has T (s1 _ _ e6)) fun a H' s4 n4 w4 => ?_⟩
    refine .inl ⟨rfl, zite (fun h => absurd h (by decide)) fun _ => ?_⟩
    exact fin true a H' _ _ (s2.trans s4) (.inr (.inr (.inl ⟨rfl, rfl⟩))) (.inl ⟨rfl, _, w4⟩)
  · refine .inl ⟨rfl, zite (fun h => absurd h (by decide)) fun _ => .inl ⟨rfl, zite (fun h => absurd h (by decide)) fun _ => .inl ⟨rfl, zite (fun h => absurd h (by decide)) fun _ => .inl ⟨rfl, zite (fun _ => ?_) (fun h => absurd h (by decide))⟩⟩⟩⟩
    refine ⟨rfl, fun h hdx nh nhd neh => has_new (v := .str "a") nh nhd neh (show ("a" : Str).length ≤ 1000 by decide) (by decide +kernel) fun H6 s6 e6 => ⟨rfl, show 1 ≤ sizeLine by decide, fun L1 hL1 => ?_⟩⟩
    have s1 := Same.put (o := .lst [t.v]) hL1
    have s2 := s6.trans s1
    refine ⟨.ref h, .ref L1, R, rs.map Tr.v, rfl, .inr (SqL.of (s2 _ _ eR)), when_tr T (o := [t]) (trs s2) (one s2) (by omega) (by simp) (.inr (SqL.of upd_same)) (tst_has T (s1 _ _ e6)) fun a H' s4 n4 w4 => ?_⟩
    exact fin true a H' _ _ (s2.trans s4) (.inr (.inr (.inr ⟨rfl, rfl⟩))) (.inl ⟨rfl, _, w4⟩)
theorem pf_law_nest {K : PySem.W.Frag} {mg : Str → Option Value} {g : Ads} (T : Txt K mg g) (vs : List V) (H : Hp) (Q : VK) (E : XK) (h : sp_law_nest K g vs H Q E) : rw_law_nest K g vs H Q E := by
  obtain ⟨p, wa, S, n, rfl, hd, hS, n0, n1, q⟩ := h
  refine ⟨rfl, fun r dr mr mr' ner => ?_⟩
  have s1 := (mk_same (C := g.c_Refuse) mr mr' ner).1
  have e1 := upd_same (H := upd H dr (.own r)) (a := r) (o := .ins g.c_Refuse dr [])
  have d1 := hd.same s1
  have b1 : But p H _ := But.same s1
  show R_law_nest_2 K g E { nx := fun _ H' => Q .non H', rt := Q } [some (.ref p), some (.int n), some (.ref r), none, none, none] (upd (upd H dr (.own r)) r (.ins g.c_Refuse dr []))
  generalize upd (upd H dr (.own r)) r (.ins g.c_Refuse dr []) = H1 at s1 e1 d1 b1 ⊢
  have pl : ∀ {H' : Hp} {a d : Addr}, H' a = some (.ins g.c_Refuse d []) → Lsts (p :: S) H' → TrAt K g (hid (p :: S) H') (.leaf (.ref a)) := fun e L => by
    simp only [TrAt]
    exact ⟨_, _, rfl, .inl (ins_hidS e L)⟩
  refine ⟨n, rfl, by omega, by omega, for_z (walk_range (lo := 0) (n := n.toNat)) (NstI K g S H p wa n) ⟨.leaf (.ref r), none, none, none, rfl, d1, b1, ⟨pl e1 (lsts_deck hS d1 b1), by simp [Tr.dep], by simp [Tr.inn]⟩⟩ (fun _ _ _ _ _ => trivial) ?_ ?_⟩
  · rintro i x σ H2 H3 hi ⟨t, v3, v4, v5, rfl, d2, b2, nt⟩ ⟨rfl, rfl⟩
    refine ⟨p, wa, 4, rfl, d2, by decide, by decide, fun w H4 r0 r1 d4 b4 => ?_⟩
    refine fun rf df mf mf' nef => ?_
    have s5 := (mk_same (C := g.c_Refuse) mf mf' nef).1
    have e5 := upd_same (H := upd H4 df (.own rf)) (a := rf) (o := .ins g.c_Refuse df [])
    have d5 := d4.same s5
    generalize upd (upd H4 df (.own rf)) rf (.ins g.c_Refuse df []) = H5 at s5 e5 d5
    refine ⟨show 1 ≤ sizeLine by decide, fun l hl => ?_⟩
    have s6 := Same.put (o := .lst [.ref rf]) hl
    have e6 := upd_same (H := H5) (a := l) (o := .lst [.ref rf])
    have d6 := d5.same s6
    have pl6 := d5.ne hl
    have prf := d4.ne mf
    generalize upd H5 l (.lst [.ref rf]) = H6 at s6 e6 d6
    refine ⟨p, wa, 5, rfl, d6, by decide, by decide, fun u H7 u0 u1 d7 b7 => ?_⟩
    have e7 := b7 _ _ e6 pl6
    have r7 := b7 _ _ (s6 _ _ e5) prf
    have b47 : But p H4 H7 := (But.same (s5.trans s6)).trans b7
    have b07 := (b2.trans b4).trans b47
    -- the number of the rest
    obtain ⟨m, em, hm⟩ : ∃ m : Nat, (1 : Int) - (if u < 1 then u else 1) = (m : Nat) ∧ m ≤ 1 := by
      by_cases hu : u < 1
      · rw [if_pos hu]
        exact ⟨1, by omega, by omega⟩
      · rw [if_neg hu]
        exact ⟨0, by omega, by omega⟩
    have lhs : (1 : Int) - (if u < 1 then u else 1) = (m : Nat) := em
    show ∃ xs, H7 l = some (.lst xs) ∧ -(2 ^ 63) ≤ (1 : Int) - (if u < 1 then u else 1) ∧ (1 : Int) - (if u < 1 then u else 1) < 2 ^ 63 ∧ xs.length * ((1 : Int) - (if u < 1 then u else 1)).toNat ≤ sizeLine ∧ ∀ q, H7 q = none → _
    rw [lhs]
    refine ⟨_, e7, by omega, by omega, ?_, fun R hR => ⟨_, _, rfl, ?_⟩⟩
    · show 1 * (m : Int).toNat ≤ sizeLine
      exact Nat.le_trans (show 1 * (m : Int).toNat ≤ 1 by omega) (by decide)
    have s8 := Same.put (o := .lst (List.replicate (m : Int).toNat [V.ref rf]).flatten) hR
    have e8 := upd_same (H := H7) (a := R) (o := .lst (List.replicate (m : Int).toNat [V.ref rf]).flatten)
    have b8 := b07.trans (But.same s8)
    have d8 := d7.same s8
    have r8 := s8 _ _ r7
    show R_law_nest_4 K g E _ [some (.ref p), some (.int n), some t.v, some (.int (0 + (i : Int))), some (.int w), some (.ref R)] (upd H7 R (.lst (List.replicate (m : Int).toNat [V.ref rf]).flatten))
    generalize upd H7 R (.lst (List.replicate (m : Int).toNat [V.ref rf]).flatten) = H8 at s8 e8 b8 d8 r8 ⊢
    have nt8 : NestAt K g (p :: S) H8 t i := (nt.but (b4.trans b47)).but (But.same s8)
    have L8 := lsts_deck hS d8 b8
    have mm : m = 0 ∨ m = 1 := by omega
    rcases mm with rfl | rfl
    · exact nest_way T hS (fun _ _ h => h) d8 b8 nt8 (rs := []) e8 (by simp only [TrsAt]) (.inl rfl) r0 r1 _
    · exact nest_way T hS (fun _ _ h => h) d8 b8 nt8 (rs := [.leaf (.ref rf)]) e8 (by simp only [TrsAt]; exact ⟨pl r8 L8, trivial⟩) (.inr ⟨_, rfl⟩) r0 r1 _
  · rintro σ H2 ⟨t, v3, v4, v5, rfl, d2, b2, nt⟩
    exact q t H2 d2 b2 nt
theorem ok_law_nest {P : Program} [SupP P] {w : World} {K : PySem.W.Frag} {mg : Str → Option Value} {base : Heap} {g : Ads} (T : Txt K mg g) : FnG false P w K mg base 7 g.f_law_nest g.d_law_nest ["deck", "deep"] (sp_law_nest K g) := (raw_law_nest T).imp (pf_law_nest T)
end Z
namespace Z
open PySem PySem.Spec PyProof.Rows L2
/-! ### how many and how deep, as the law counts -/
def insV (t : Tr) : List V := [.int (t.inn.length : Nat), .int (t.dep : Nat)]
/-- a list of pairs -/
def PrsAt (H : Hp) (D : Addr) (ts : List Tr) : Prop := ∃ ls : List Addr, H D = some (.lst (ls.map V.ref)) ∧ Paired (fun l t => H l = some (.lst (insV t))) ls ts
theorem PrsAt.same {H H' : Hp} {D : Addr} {ts : List Tr} (h : PrsAt H D ts) (s : Same H H') : PrsAt H' D ts := h.imp fun _ h => ⟨s _ _ h.1, paired_imp h.2 fun _ _ e => s _ _ e⟩
def sp_insD (K : PySem.W.Frag) (g : Ads) (n : Nat) : Sp := fun vs H Q E => ∃ t, vs = [t.v] ∧ TrAt K g H t ∧ t.dep ≤ n ∧ ∀ l H', Same H H' → H l = none → H' l = some (.lst (insV t)) → Q (.ref l) H'
theorem sc_law_inside : FnScope ["step", "found", "one", "row"] ["step"] (defScope s_law_inside) := ⟨rfl, rfl, rfl, by decide +kernel, rfl, by decide +kernel, by decide +kernel⟩
def R_law_inside_3 (K : PySem.W.Frag) (g : Ads) (SPR : Sp) (E : XK) : TS :=
  (tRet (tLst (tCons (tOp zAdd (tC (.int 1)) (tCB (rSum K) (tCons (zLc (iList K (zVar 1)) (gName 3) tYes (tOp (zIx K) (zVar 3) (tC (.int 0))) [3]) tNil))) (tCons (tOp zAdd (tC (.int 1)) (tCB (rMax K) (tCons (tOp zAdd (tLst (tCons (zNeg (tC (.int 1))) tNil)) (zLc (iList K (zVar 1)) (gName 3) tYes (tOp (zIx K) (zVar 3) (tC (.int 1))) [3])) tNil))) tNil))))
def R_law_inside_2 (K : PySem.W.Frag) (g : Ads) (SPR : Sp) (E : XK) : TS :=
  (tSeq (tAsg (zLc (iTup K (tOp (rCatA K) (tFld K (zVar 0) "body") (tFld K (zVar 0) "otherwise"))) (gName 2) tYes (zCall SPR [] (fun _ => E0) (tCons (zVar 2) tNil)) [2]) (gName 1))
  (R_law_inside_3 K g SPR E))
def R_law_inside_4 (K : PySem.W.Frag) (g : Ads) (SPR : Sp) (E : XK) : TS :=
  (tRet (tLst (tCons (tC (.int 1)) (tCons (tC (.int 0)) tNil))))
def R_law_inside (K : PySem.W.Frag) (g : Ads) (SPR : Sp) (E : XK) : TS :=
  (tSeq (tIfS (zTru K (tCB (rIsiT K) (tCons (zVar 0) (tCons (tTup (tCons (tC (.ref g.c_Attempt)) (tCons (tC (.ref g.c_When)) tNil))) tNil))))
  (R_law_inside_2 K g SPR E)
  tNext)
  (R_law_inside_4 K g SPR E))
def rw_law_inside (K : PySem.W.Frag) (g : Ads) (SPR : Sp) : Sp := fun vs H Q E => vs.length = 1 ∧ R_law_inside K g SPR E { nx := fun _ H' => Q .non H', rt := Q } (start ["step", "found", "one", "row"] vs) H
theorem raw_law_inside {P : Program} [SupP P] {w : World} {K : PySem.W.Frag} {mg : Str → Option Value} {base : Heap} {g : Ads} (T : Txt K mg g) {k : Nat} {SPR : Sp} (F : FnG false P w K mg base k g.f_law_inside g.d_law_inside ["step"] SPR) : FnG false P w K mg base (k + 1) g.f_law_inside g.d_law_inside ["step"] (rw_law_inside K g SPR) := by
  refine okZ T.f_law_inside sc_law_inside (fun vs H Q E h => h.1) (fun cdv A outer s H vs Q E hr hgu h => ⟨R_law_inside K g SPR E, ?_, h.2⟩)
  exact (pss_cons (ps_if (ptz_truth (pe_callB call_isiT (by rfl) T.b_isinstance (by decide +kernel) (pa_cons (zv 0) (pa_cons (pe_tup (pa_cons (pe_glob rfl T.g_Attempt rfl) (pa_cons (pe_glob rfl T.g_When rfl) pa_nil))) pa_nil))) (by intro _; rfl))
  (pss_cons (psz_setLc (i := 1) (own := [("one", 2)]) rfl sc_law_inside.nd rfl rfl (sw_true rfl rfl rfl (by decide +kernel)) (pi_tup (pe_op op_catA (pe_fld (zv 0) rfl) (pe_fld (zv 0) rfl))) (blkOk_by (own := [("one", 2)]) (N := ["step", "found", "one", "row"]) (sc := defScope s_law_inside) (by decide +kernel)) (fun _ _ _ _ _ => pg_name (i := 2) sc_law_inside.nd rfl (Or.inl rfl)) (fun _ _ _ _ _ => pts_nil) (fun _ _ _ _ _ => (pe_callZ F hr (fun z => nomatch z) rfl T.g_law_inside T.k_law_inside T.e_law_inside .nil passE0 (pa_cons (zv 2) pa_nil))))
  (pss_one (ps_ret (pe_lst (pa_cons (pe_op op_zAdd pe_int (pe_callB (cr_sum rfl) (by rfl) T.b_sum (by decide +kernel) (pa_cons (pez_lc (own := [("row", 3)]) rfl sc_law_inside.nd (pi_list (zv 1)) (blkOk_by (own := [("row", 3)]) (N := ["step", "found", "one", "row"]) (sc := defScope s_law_inside) (by decide +kernel)) (fun _ _ _ _ _ => pg_name (i := 3) sc_law_inside.nd rfl (Or.inl rfl)) (fun _ _ _ _ _ => pts_nil) (fun _ _ _ _ _ => (pe_ix ix_z (zv 3) pe_int (fun _ _ => rfl)))) pa_nil))) (pa_cons (pe_op op_zAdd pe_int (pe_callB (cr_max rfl) (by rfl) T.b_max (by decide +kernel) (pa_cons (pe_op op_zAdd (pe_lst (pa_cons (pez_neg pe_int) pa_nil)) (pez_lc (own := [("row", 3)]) rfl sc_law_inside.nd (pi_list (zv 1)) (blkOk_by (own := [("row", 3)]) (N := ["step", "found", "one", "row"]) (sc := defScope s_law_inside) (by decide +kernel)) (fun _ _ _ _ _ => pg_name (i := 3) sc_law_inside.nd rfl (Or.inl rfl)) (fun _ _ _ _ _ => pts_nil) (fun _ _ _ _ _ => (pe_ix ix_z (zv 3) pe_int (fun _ _ => rfl))))) pa_nil))) pa_nil))))))
  pss_nil)
  (pss_one (ps_ret (pe_lst (pa_cons pe_int (pa_cons pe_int pa_nil))))))
theorem int_max {ts : List Tr} {m : Int} (h1 : m ∈ (-1 : Int) :: ts.map fun t => (t.dep : Int)) (h2 : ∀ y ∈ (-1 : Int) :: ts.map fun t => (t.dep : Int), y ≤ m) : 1 + m = ((dpt ts : Nat) : Int) := by
  have up : ∀ {ts : List Tr} {k : Nat}, (∀ t ∈ ts, t.dep + 1 ≤ k) → dpt ts ≤ k := by
    intro ts
    induction ts with
    | nil => intro k _; simp [dpt]
    | cons t r ih =>
      intro k h
      simp only [dpt]
      have := ih (k := k) fun x m => h x (List.mem_cons_of_mem _ m)
      have := h t List.mem_cons_self
      omega
  have m1 := h2 (-1) List.mem_cons_self
  have le : dpt ts ≤ (1 + m).toNat := up fun t ht => by
    have := h2 (t.dep : Int) (List.mem_cons_of_mem _ (List.mem_map.mpr ⟨t, ht, rfl⟩))
    omega
  rcases List.mem_cons.mp h1 with rfl | hm
  · omega
  · obtain ⟨t, ht, rfl⟩ := List.mem_map.mp hm
    have := dpt_mem ht
    omega
/-- the first or the second of each pair -/
theorem lc_pairs {K : PySem.W.Frag} {H : Hp} {D : Addr} {ts : List Tr} {f : Tr → Int} {j : Nat} {i : Nat} {vs : List Nat} {σ : St} {Q : VK} (hp : PrsAt H D ts) (hl : ts.length ≤ 1000) (hf : ∀ t : Tr, (insV t)[j]? = some (.int (f t))) (hi : ∀ x : V, ((wipe σ vs).set i (some x))[i]? = some (some x)) (hw : ∀ x : V, wipe ((wipe σ vs).set i (some x)) vs = wipe σ vs)
    (q : ∀ A H', Same H H' → H A = none → H' A = some (.lst ((ts.map f).map V.int)) → Q (.ref A) H') : lcGo (Itl K D) (gName i) tYes (tOp (zIx K) (zVar i) (tC (.int (j : Nat)))) vs σ H Q := by
  obtain ⟨ls, e, pr⟩ := id hp
  have ll := paired_len pr
  refine lc_z (walk_list (xs := ls.map V.ref)) (fun A k H' => Same H H' ∧ H' A = some (.lst (((ts.take k).map f).map V.int))) (fun A hA => ⟨Same.put hA, by rw [upd_same]; simp⟩) (fun A k H' _ _ h => h.1.seq (SqL.of e)) ?_ ?_
  · rintro A k x H2 H3 hA hk ⟨s2, e2⟩ ⟨rfl, hx⟩
    rw [List.getElem?_map] at hx
    cases hk2 : ls[k]? with
    | none => rw [hk2] at hx; cases hx
    | some l =>
      rw [hk2] at hx
      cases hx
      obtain ⟨t, ht, et⟩ := paired_get pr hk2
      refine ⟨hw _, ?_⟩
      show (match ((wipe σ vs).set i (some (V.ref l)))[i]? with | some (some v) => _ | _ => _)
      rw [hi]
      refine ⟨_, _, .inl (SqL.of (s2 _ _ et)), atI_nat (j := j) (hf t), _, e2, ?_, same_new hA s2, ?_⟩
      · rw [List.length_map, List.length_map, List.length_take]
        exact Nat.lt_of_le_of_lt (show min k ts.length ≤ 1000 by omega) (by decide)
      · rw [upd_same, List.take_add_one, ht]
        simp
  · rintro A H2 hA ⟨s2, e2⟩
    refine q A H2 s2 hA ?_
    rw [List.length_map, ll, List.take_length] at e2
    exact e2
theorem pf_law_inside {K : PySem.W.Frag} {mg : Str → Option Value} {g : Ads} (T : Txt K mg g) {SPR : Sp} {n : Nat} (hS : ∀ m, n = m + 1 → SPR = sp_insD K g m) (vs : List V) (H : Hp) (Q : VK) (E : XK) (h : sp_insD K g n vs H Q E) : rw_law_inside K g SPR vs H Q E := by
  obtain ⟨t, rfl, ht, hd, q⟩ := h
  refine ⟨rfl, (by decide : 2 ≤ sizeLine), fun tp htp => ?_⟩
  have s1 := Same.put (o := .tup [.ref g.c_Attempt, .ref g.c_When]) htp
  have e1 := upd_same (H := H) (a := tp) (o := .tup [.ref g.c_Attempt, .ref g.c_When])
  generalize upd H tp (.tup [.ref g.c_Attempt, .ref g.c_When]) = H1 at s1 e1
  have ht1 := TrAt.same s1 t ht
  cases t with
  | leaf v =>
    simp only [TrAt] at ht1
    have hb : ∃ C, TyU K H1 v (.ref C) ∧ PySem.W.kitOne K (.ref C) (.ref g.c_Attempt) = some false ∧ PySem.W.kitOne K (.ref C) (.ref g.c_When) = some false := by
      obtain ⟨a, dx, rfl, h | ⟨x, y, h⟩⟩ := ht1
      · exact ⟨_, tyu_ins T.ci_Refuse h, T.nk_Refuse_Attempt, T.nk_Refuse_When⟩
      · exact ⟨_, tyu_ins T.ci_Let h, T.nk_Let_Attempt, T.nk_Let_When⟩
    obtain ⟨C, ty, k1, k2⟩ := hb
    refine ⟨v, tp, _, .ref C, _, false, rfl, e1, .cons (.own _) (.cons (.own _) .nil), ty _ (Same.refl _), kitAny_cons (b := false) k1 (fun _ => kitAny_cons (b := false) k2 (fun _ => kitAny_nil) (fun z => nomatch z)) (fun z => nomatch z), ?_⟩
    refine ⟨show 2 ≤ sizeLine by decide, fun l hl => q l _ (s1.trans (Same.put hl)) (s1.free hl) ?_⟩
    rw [upd_same]
    simp [insV, Tr.inn, Tr.dep]
  | blk w a b o =>
    simp only [TrAt] at ht1
    obtain ⟨hk, lb, lo, hb, ho⟩ := ht1
    have ty : ∃ C, TyU K H1 (.ref a) (.ref C) ∧ PySem.W.kitAny K (.ref C) [.ref g.c_Attempt, .ref g.c_When] = some true := by
      rcases hk with ⟨_, x, dx, p, r, h1, _, _⟩ | ⟨_, dx, p, r, h1, _, _⟩
      · exact ⟨_, tyu_ins T.ci_When h1, kitAny_cons (b := false) T.nk_When_Attempt (fun _ => kitAny_cons (b := true) kit_one (fun z => nomatch z) (fun _ => rfl)) (fun z => nomatch z)⟩
      · exact ⟨_, tyu_ins T.ci_Attempt h1, kitAny_cons (b := true) kit_one (fun z => nomatch z) (fun _ => rfl)⟩
    obtain ⟨Ct, ty, kt⟩ := ty
    obtain ⟨C, dx, fs, p, r, h1, hC, c1, c2, c3, f0, f1, f2, hbs, hos⟩ := blk_fld T hk
    refine ⟨.ref a, tp, _, .ref Ct, _, true, rfl, e1, .cons (.own _) (.cons (.own _) .nil), ty _ (Same.refl _), kt, ?_⟩
    refine ⟨a, C, dx, fs, .ref p, rfl, h1, c1, c2, f1, a, C, dx, fs, .ref r, rfl, h1, c1, c3, f2, ?_⟩
    have hat : TrsAt K g H1 (b ++ o) := TrsAt.of fun t m => (List.mem_append.mp m).elim (hb.mem t) (ho.mem t)
    have edp : (Tr.blk w a b o).dep = dpt (b ++ o) := by simp [Tr.dep, dpt_app]
    have ein : (Tr.blk w a b o).inn.length = 1 + (inns (b ++ o)).length := by
      simp only [Tr.inn, List.length_cons, inns_app]
      omega
    have ll : (b ++ o).length ≤ 40 := by rw [List.length_append]; omega
    -- behind the first comprehension
    have fin : ∀ (D : Addr) (H2 : Hp), Same H1 H2 → PrsAt H2 D (b ++ o) → R_law_inside_3 K g SPR E { nx := fun _ H' => Q .non H', rt := Q } [some (.ref a), some (.ref D), none, none] H2 := by
      intro D H2 s2 hp
      obtain ⟨ls, eD, pr⟩ := id hp
      refine ⟨D, rfl, ⟨_, SqL.of eD⟩, lc_pairs (f := fun t => ((t.inn.length : Nat) : Int)) (j := 0) hp (by omega) (fun t => rfl) (fun x => rfl) (fun x => rfl) fun A H3 s3 n3 e3 => ?_⟩
      refine ⟨A, _, rfl, SqL.of e3, ?_⟩
      rw [sum_cnt]
      refine ⟨show 1 ≤ sizeLine by decide, fun M hM => ?_⟩
      have s4 := Same.put (o := .lst [.int (-1)]) hM
      have e4 := upd_same (H := H3) (a := M) (o := .lst [.int (-1)])
      show ∃ a', V.ref D = .ref a' ∧ _
      generalize upd H3 M (.lst [.int (-1)]) = H4 at s4 e4
      refine ⟨D, rfl, ⟨_, SqL.of ((s3.trans s4) _ _ eD)⟩, lc_pairs (f := fun t => ((t.dep : Nat) : Int)) (j := 1) (hp.same (s3.trans s4)) (by omega) (fun t => rfl) (fun x => rfl) (fun x => rfl) fun B H5 s5 n5 e5 => ?_⟩
      refine ⟨_, _, s5 _ _ e4, e5, ?_, fun W hW => ?_⟩
      · rw [List.length_map, List.length_map]
        exact Nat.le_trans (show 1 + (b ++ o).length ≤ 41 by omega) (by decide)
      refine ⟨W, (-1 : Int) :: (b ++ o).map fun t => ((t.dep : Nat) : Int), rfl, SqL.of (by rw [upd_same]; rfl), by simp, fun m hm hy => ?_⟩
      have em := int_max hm hy
      refine ⟨show 2 ≤ sizeLine by decide, fun l hl => q l _ ((((((s1.trans s2).trans s3).trans s4).trans s5).trans (Same.put hW)).trans (Same.put hl)) ?_ ?_⟩
      · exact ((((((s1.trans s2).trans s3).trans s4).trans s5).trans (Same.put hW))).free hl
      · rw [upd_same]
        show some (HO.lst [V.int (1 + ((inns (b ++ o)).length : Nat)), .int (1 + m)]) = _
        rw [em, ← edp]
        unfold insV
        rw [ein]
        have : (1 : Int) + ((inns (b ++ o)).length : Nat) = ((1 + (inns (b ++ o)).length : Nat) : Int) := by omega
        rw [this]
    -- the comprehension over the tuple at P
    have lc : ∀ (P : Addr) (H2 : Hp), Same H1 H2 → SqT K H2 P ((b ++ o).map Tr.v) → (iTup K (fun _ H' Q' => Q' (.ref P) H')) [some (V.ref a), none, none, none] H2 fun J H3 => lcGo J (gName 2) tYes (zCall SPR [] (fun _ => E0) (tCons (zVar 2) tNil)) [2] [some (.ref a), none, none, none] H3 fun v H4 => R_law_inside_3 K g SPR E { nx := fun _ H' => Q .non H', rt := Q } [some (.ref a), some v, none, none] H4 := by
      intro P H2 s2 hP
      refine ⟨P, rfl, ⟨_, hP⟩, lc_z (walk_tup (xs := (b ++ o).map Tr.v)) (fun D i H' => Same H2 H' ∧ PrsAt H' D ((b ++ o).take i)) (fun D hD => ⟨Same.put hD, [], upd_same, .nil⟩) (fun D i H' _ _ h => Z.Same.tup h.1 hP) ?_ ?_⟩
      · rintro D i x H3 H4 hD hi ⟨s3, ls, e3, pr⟩ ⟨rfl, hx⟩
        obtain ⟨t, hti, htm, rfl⟩ := tr_get hx
        have hdt := dpt_mem htm
        obtain ⟨m, rfl⟩ : ∃ m, n = m + 1 := ⟨n - 1, by omega⟩
        refine ⟨rfl, ?_⟩
        rw [hS m rfl]
        refine ⟨t, rfl, TrAt.same (s2.trans s3) t (hat.mem t htm), by omega, fun l H5 s5 n5 e5 => ⟨_, s5 _ _ e3, ?_, same_new hD (s3.trans s5), ls ++ [l], ?_, ?_⟩⟩
        · rw [List.length_map, paired_len pr, List.length_take]
          exact Nat.lt_of_le_of_lt (show min i (b ++ o).length ≤ 40 by omega) (by decide)
        · rw [upd_same, List.map_append]
          rfl
        · have nd : ∀ {l' : Addr} {xs : List V}, H5 l' = some (.lst xs) → l' ≠ D → (upd H5 D (.lst (ls.map V.ref ++ [.ref l]))) l' = some (.lst xs) := fun e n => by rw [upd_ne n]; exact e
          have hD5 := s5 _ _ e3
          rw [List.take_add_one, hti]
          refine paired_app (paired_imp pr fun l' t' e => nd (s5 _ _ e) ?_) (.cons (nd e5 (ne_of_none e3 n5).symm) .nil)
          intro z
          subst z
          rw [e3] at e
          unfold insV at e
          injection e with e
          injection e with e
          cases ls with
          | nil => cases e
          | cons _ _ => cases e
      · rintro D H3 hD ⟨s3, hp⟩
        rw [List.length_map, List.take_length] at hp
        exact fin D H3 (s2.trans s3) hp
    by_cases hb0 : b = []
    · subst hb0
      refine ⟨p, r, _, _, rfl, rfl, hbs, hos, ?_, fun _ => ?_, fun z => absurd rfl z, fun z => absurd rfl z⟩
      · rw [List.length_map, List.length_map]
        exact Nat.le_trans (show ([] : List Tr).length + o.length ≤ 40 by simp; omega) (by decide)
      · exact lc r H1 (Same.refl _) hos
    · by_cases ho0 : o = []
      · subst ho0
        refine ⟨p, r, _, _, rfl, rfl, hbs, hos, ?_, fun z => absurd (List.map_eq_nil_iff.mp z) hb0, fun _ _ => ?_, fun _ z => absurd rfl z⟩
        · rw [List.length_map, List.length_map]
          exact Nat.le_trans (show b.length + ([] : List Tr).length ≤ 40 by simp; omega) (by decide)
        · exact lc p H1 (Same.refl _) (by rw [List.append_nil]; exact hbs)
      · refine ⟨p, r, _, _, rfl, rfl, hbs, hos, ?_, fun z => absurd (List.map_eq_nil_iff.mp z) hb0, fun _ z => absurd (List.map_eq_nil_iff.mp z) ho0, fun _ _ P hP => ?_⟩
        · rw [List.length_map, List.length_map]
          exact Nat.le_trans (show b.length + o.length ≤ 40 by omega) (by decide)
        · exact lc P _ (Same.put hP) (SqT.of (by rw [upd_same, List.map_append]))
theorem ok_insD {P : Program} [SupP P] {w : World} {K : PySem.W.Frag} {mg : Str → Option Value} {base : Heap} {g : Ads} (T : Txt K mg g) : ∀ n : Nat, FnG false P w K mg base (n + 1) g.f_law_inside g.d_law_inside ["step"] (sp_insD K g n)
  | 0 => (raw_law_inside T (k := 0) fn_false).imp (pf_law_inside T fun m e => by omega)
  | n + 1 => (raw_law_inside T (ok_insD T n)).imp (pf_law_inside T fun m e => by
    have : n = m := by omega
    rw [this])
def sp_law_inside (K : PySem.W.Frag) (g : Ads) : Sp := sp_insD K g 8
theorem ok_law_inside {P : Program} [SupP P] {w : World} {K : PySem.W.Frag} {mg : Str → Option Value} {base : Heap} {g : Ads} (T : Txt K mg g) : FnG false P w K mg base 9 g.f_law_inside g.d_law_inside ["step"] (sp_law_inside K g) := ok_insD T 8
end Z
namespace Z
open PySem PySem.Spec PyProof.Rows L2
/-! ### the things for steps -/
/-- what the law asks of a step -/
def Thg4 (K : PySem.W.Frag) (g : Ads) (H : Hp) (v : V) (odd : Bool) : Prop := ∃ t, TyU K H v t ∧ PySem.W.kitAny K t [.ref g.c_Refuse, .ref g.c_Let, .ref g.c_Attempt, .ref g.c_When] = some (!odd)
theorem Thg4.same {K : PySem.W.Frag} {g : Ads} {H H' : Hp} {v : V} {b : Bool} (h : Thg4 K g H v b) (s : Same H H') : Thg4 K g H' v b := h.imp fun _ h => ⟨h.1.same s, h.2⟩
theorem kit4 {K : PySem.W.Frag} {t a b c d : Value} (h1 : PySem.W.kitOne K t a = some false) (h2 : PySem.W.kitOne K t b = some false) (h3 : PySem.W.kitOne K t c = some false) (h4 : PySem.W.kitOne K t d = some false) : PySem.W.kitAny K t [a, b, c, d] = some false :=
  kitAny_cons (b := false) h1 (fun _ => kitAny_cons (b := false) h2 (fun _ => kitAny_cons (b := false) h3 (fun _ => kitAny_cons (b := false) h4 (fun _ => kitAny_nil) (fun z => nomatch z)) (fun z => nomatch z)) (fun z => nomatch z)) (fun z => nomatch z)
theorem thg4_tr {K : PySem.W.Frag} {mg : Str → Option Value} {g : Ads} {H : Hp} (T : Txt K mg g) {t : Tr} (h : TrAt K g H t) : Thg4 K g H t.v false := by
  cases t with
  | leaf v =>
    simp only [TrAt] at h
    obtain ⟨a, dx, rfl, h | ⟨x, y, h⟩⟩ := h
    · exact ⟨_, tyu_ins T.ci_Refuse h, kitAny_cons (b := true) kit_one (fun z => nomatch z) (fun _ => rfl)⟩
    · exact ⟨_, tyu_ins T.ci_Let h, kitAny_cons (b := false) T.nk_Let_Refuse (fun _ => kitAny_cons (b := true) kit_one (fun z => nomatch z) (fun _ => rfl)) (fun z => nomatch z)⟩
  | blk w a b o =>
    simp only [TrAt] at h
    rcases h.1 with ⟨_, x, dx, p, r, h1, _, _⟩ | ⟨_, dx, p, r, h1, _, _⟩
    · exact ⟨_, tyu_ins T.ci_When h1, kitAny_cons (b := false) T.nk_When_Refuse (fun _ => kitAny_cons (b := false) T.nk_When_Let (fun _ => kitAny_cons (b := false) T.nk_When_Attempt (fun _ => kitAny_cons (b := true) kit_one (fun z => nomatch z) (fun _ => rfl)) (fun z => nomatch z)) (fun z => nomatch z)) (fun z => nomatch z)⟩
    · exact ⟨_, tyu_ins T.ci_Attempt h1, kitAny_cons (b := false) T.nk_Attempt_Refuse (fun _ => kitAny_cons (b := false) T.nk_Attempt_Let (fun _ => kitAny_cons (b := true) kit_one (fun z => nomatch z) (fun _ => rfl)) (fun z => nomatch z)) (fun z => nomatch z)⟩
def ItAt (K : PySem.W.Frag) (g : Ads) (H : Hp) (q : V × Option Tr) : Prop := match q.2 with
  | some t => q.1 = t.v ∧ TrAt K g H t ∧ t.dep ≤ 6 ∧ t.inn.length ≤ 13
  | none => Thg K g H q.1 true ∧ Thg4 K g H q.1 true ∧ SmV q.1
theorem ItAt.same {K : PySem.W.Frag} {g : Ads} {H H' : Hp} {q : V × Option Tr} (h : ItAt K g H q) (s : Same H H') : ItAt K g H' q := by
  obtain ⟨v, o⟩ := q
  cases o with
  | some t => exact ⟨h.1, TrAt.same s t h.2.1, h.2.2⟩
  | none => exact ⟨h.1.same s, h.2.1.same s, h.2.2⟩
def sp_law_steps (K : PySem.W.Frag) (g : Ads) : Sp := fun vs H Q E => ∃ p wa io, vs = [.ref p, .bl io] ∧ DeckAt H p wa ∧ ∀ (St : Addr) (its : List (V × Option Tr)) (H' : Hp), DeckAt H' p wa → But p H H' → H St = none → hid [p] H' St = some (.lst (its.map (·.1))) → (∀ q ∈ its, ItAt K g (hid [p] H') q) → its.length ≤ 30 → Q (.ref St) H'
theorem sc_law_steps : FnScope ["deck", "is_odd", "steps", "many", "turn", "thing"] ["deck", "is_odd"] (defScope s_law_steps) := ⟨rfl, rfl, rfl, by decide +kernel, rfl, by decide +kernel, by decide +kernel⟩
def R_law_steps_3 (K : PySem.W.Frag) (g : Ads) (E : XK) : TS :=
  (tDrop (tBM K "list" rAppend (zVar 2) (tCons (tIf (zTest (tOp (zEq K) (zCall (sp_law_draw K g) [] (WE (fun cls d _ H => E cls d H)) (tCons (zVar 0) (tCons (tC (.int 2)) tNil))) (tC (.int 0)))) (zMake0 g.c_Refuse) (zMake g.c_Let (sp_Let_init K g) [] (WE (fun cls d _ H => E cls d H)) (tCons (tC (.str "a")) (tCons (zVar 4) tNil)))) tNil)))
def R_law_steps_5 (K : PySem.W.Frag) (g : Ads) (E : XK) : TS :=
  (tDrop (tBM K "list" rInsZ (zVar 2) (tCons (zCall (sp_law_draw K g) [] (WE (fun cls d _ H => E cls d H)) (tCons (zVar 0) (tCons (tOp zAdd (tCB (zLen K) (tCons (zVar 2) tNil)) (tC (.int 1))) tNil))) (tCons (zCall (sp_law_nest K g) [] (WE (fun cls d _ H => E cls d H)) (tCons (zVar 0) (tCons (zCall (sp_law_draw K g) [] (WE (fun cls d _ H => E cls d H)) (tCons (zVar 0) (tCons (tC (.int 7)) tNil))) tNil))) tNil))))
def R_law_steps_9 (K : PySem.W.Frag) (g : Ads) (E : XK) : TS :=
  (tDrop (tBM K "list" rInsZ (zVar 2) (tCons (zCall (sp_law_draw K g) [] (WE (fun cls d _ H => E cls d H)) (tCons (zVar 0) (tCons (tOp zAdd (tCB (zLen K) (tCons (zVar 2) tNil)) (tC (.int 1))) tNil))) (tCons (zVar 5) tNil))))
def R_law_steps_8 (K : PySem.W.Frag) (g : Ads) (E : XK) : TS :=
  (tSeq (tAsg (zCall (sp_law_of K g) [] (WE (fun cls d _ H => E cls d H)) (tCons (zVar 0) (tCons (tLst (tCons (tC .non) (tCons (tC (.int 0)) (tCons (tC (.str "refuse")) (tCons (tLst tNil) (tCons (tTup tNil) (tCons (tLst (tCons (zMake0 g.c_Refuse) tNil)) (tCons (zMake g.c_Has (sp_Has_init K g) [] (WE (fun cls d _ H => E cls d H)) (tCons (tC (.int 1)) tNil)) (tCons (tC (.bl true)) tNil))))))))) tNil))) (gName 5))
  (R_law_steps_9 K g E))
def R_law_steps_7 (K : PySem.W.Frag) (g : Ads) (E : XK) : TS :=
  (zFor (iRng1 (tCons (tOp zAdd (tC (.int 1)) (zCall (sp_law_draw K g) [] (WE (fun cls d _ H => E cls d H)) (tCons (zVar 0) (tCons (tC (.int 2)) tNil)))) tNil)) (gName 4)
  (R_law_steps_8 K g E))
def R_law_steps_6 (K : PySem.W.Frag) (g : Ads) (E : XK) : TS :=
  (tSeq (tIfS (zTru K (zVar 1))
  (R_law_steps_7 K g E)
  tNext)
  (tRet (zVar 2)))
def R_law_steps_4 (K : PySem.W.Frag) (g : Ads) (E : XK) : TS :=
  (tSeq (tIfS (zTest (tOp (zEq K) (zCall (sp_law_draw K g) [] (WE (fun cls d _ H => E cls d H)) (tCons (zVar 0) (tCons (tC (.int 2)) tNil))) (tC (.int 0))))
  (R_law_steps_5 K g E)
  tNext)
  (R_law_steps_6 K g E))
def R_law_steps_2 (K : PySem.W.Frag) (g : Ads) (E : XK) : TS :=
  (tSeq (zFor (iRng1 (tCons (zVar 3) tNil)) (gName 4)
  (R_law_steps_3 K g E))
  (R_law_steps_4 K g E))
def R_law_steps (K : PySem.W.Frag) (g : Ads) (E : XK) : TS :=
  (tSeq (tPar 2 3 (tCons (tLst tNil) (tCons (zCall (sp_law_of K g) [] (WE (fun cls d _ H => E cls d H)) (tCons (zVar 0) (tCons (tLst (tCons (zCall (sp_law_draw K g) [] (WE (fun cls d _ H => E cls d H)) (tCons (zVar 0) (tCons (tC (.int 5)) tNil))) (tCons (zCall (sp_law_draw K g) [] (WE (fun cls d _ H => E cls d H)) (tCons (zVar 0) (tCons (tC (.int 21)) tNil))) (tCons (tC (.int 13)) (tCons (tC (.int 14)) (tCons (tC (.int 15)) tNil)))))) tNil))) tNil)))
  (R_law_steps_2 K g E))
def rw_law_steps (K : PySem.W.Frag) (g : Ads) : Sp := fun vs H Q E => vs.length = 2 ∧ R_law_steps K g E { nx := fun _ H' => Q .non H', rt := Q } (start ["deck", "is_odd", "steps", "many", "turn", "thing"] vs) H
theorem raw_law_steps {P : Program} [SupP P] {w : World} {K : PySem.W.Frag} {mg : Str → Option Value} {base : Heap} {g : Ads} (T : Txt K mg g) : FnG false P w K mg base 8 g.f_law_steps g.d_law_steps ["deck", "is_odd"] (rw_law_steps K g) := by
  refine okZ T.f_law_steps sc_law_steps (fun vs H Q E h => h.1) (fun cdv A outer s H vs Q E hr hgu h => ⟨R_law_steps K g E, ?_, h.2⟩)
  exact (pss_cons (ps_par (i := 2) (j := 3) (by rfl) sc_law_steps.nd rfl rfl (by decide) rfl rfl (pa_cons (pe_lst pa_nil) (pa_cons (pe_callZ (ok_law_of T) (hr.mono (by decide)) (fun z => nomatch z) rfl T.g_law_of T.k_law_of T.e_law_of .nil (fun σ => passAt (takes_of rfl rfl rfl rfl) σ) (pa_cons (zv 0) (pa_cons (pe_lst (pa_cons (pe_callZ (ok_law_draw T) (hr.mono (by decide)) (fun z => nomatch z) rfl T.g_law_draw T.k_law_draw T.e_law_draw .nil (fun σ => passAt (takes_of rfl rfl rfl rfl) σ) (pa_cons (zv 0) (pa_cons pe_int pa_nil))) (pa_cons (pe_callZ (ok_law_draw T) (hr.mono (by decide)) (fun z => nomatch z) rfl T.g_law_draw T.k_law_draw T.e_law_draw .nil (fun σ => passAt (takes_of rfl rfl rfl rfl) σ) (pa_cons (zv 0) (pa_cons pe_int pa_nil))) (pa_cons pe_int (pa_cons pe_int (pa_cons pe_int pa_nil)))))) pa_nil))) pa_nil)) (by rfl))
  (pss_cons (psz_for PassesOwn.leaving rfl (pi_range1 rfl T.b_range (pa_cons (zv 3) pa_nil)) (pg_name (i := 4) sc_law_steps.nd rfl (Or.inl rfl))
  (pss_one (ps_expr (pe_bm PySem.F.plainAttrs_list PySem.F.slot_list_append PySem.F.type_list_append mt_append (zv 2) (pa_cons (pe_ifExp (ptz_cmp (op_zEq hr.units) (pe_callZ (ok_law_draw T) (hr.mono (by decide)) (fun z => nomatch z) rfl T.g_law_draw T.k_law_draw T.e_law_draw .nil (fun σ => passAt (takes_of rfl rfl rfl rfl) σ) (pa_cons (zv 0) (pa_cons pe_int pa_nil))) pe_int (nomark _)) (pe_make00 T.m0_Refuse T.ci_Refuse.hm rfl T.g_Refuse) (pe_makeZ T.m_Let (ok_Let_init T) (hr.mono (by decide)) (fun z => nomatch z) rfl T.g_Let T.e_Let_init .nil (fun σ => passAt (takes_of rfl rfl rfl rfl) σ) (pa_cons pe_str (pa_cons (zv 4) pa_nil)))) pa_nil)))))
  (pss_cons (ps_if (ptz_cmp (op_zEq hr.units) (pe_callZ (ok_law_draw T) (hr.mono (by decide)) (fun z => nomatch z) rfl T.g_law_draw T.k_law_draw T.e_law_draw .nil (fun σ => passAt (takes_of rfl rfl rfl rfl) σ) (pa_cons (zv 0) (pa_cons pe_int pa_nil))) pe_int (nomark _))
  (pss_one (ps_expr (pe_bm PySem.F.plainAttrs_list PySem.F.slot_list_insert PySem.F.type_list_insert mt_insZ (zv 2) (pa_cons (pe_callZ (ok_law_draw T) (hr.mono (by decide)) (fun z => nomatch z) rfl T.g_law_draw T.k_law_draw T.e_law_draw .nil (fun σ => passAt (takes_of rfl rfl rfl rfl) σ) (pa_cons (zv 0) (pa_cons (pe_op op_zAdd (pe_callB call_lenZ (by rfl) T.b_len (by decide +kernel) (pa_cons (zv 2) pa_nil)) pe_int) pa_nil))) (pa_cons (pe_callZ (ok_law_nest T) (hr.mono (by decide)) (fun z => nomatch z) rfl T.g_law_nest T.k_law_nest T.e_law_nest .nil (fun σ => passAt (takes_of rfl rfl rfl rfl) σ) (pa_cons (zv 0) (pa_cons (pe_callZ (ok_law_draw T) (hr.mono (by decide)) (fun z => nomatch z) rfl T.g_law_draw T.k_law_draw T.e_law_draw .nil (fun σ => passAt (takes_of rfl rfl rfl rfl) σ) (pa_cons (zv 0) (pa_cons pe_int pa_nil))) pa_nil))) pa_nil)))))
  pss_nil)
  (pss_cons (ps_if (ptz_truth (zv 1) (by intro _; rfl))
  (pss_one (psz_for PassesOwn.leaving rfl (pi_range1 rfl T.b_range (pa_cons (pe_op op_zAdd pe_int (pe_callZ (ok_law_draw T) (hr.mono (by decide)) (fun z => nomatch z) rfl T.g_law_draw T.k_law_draw T.e_law_draw .nil (fun σ => passAt (takes_of rfl rfl rfl rfl) σ) (pa_cons (zv 0) (pa_cons pe_int pa_nil)))) pa_nil)) (pg_name (i := 4) sc_law_steps.nd rfl (Or.inl rfl))
  (pss_cons (ps_set (i := 5) sc_law_steps.nd rfl (Or.inl rfl) (pe_callZ (ok_law_of T) (hr.mono (by decide)) (fun z => nomatch z) rfl T.g_law_of T.k_law_of T.e_law_of .nil (fun σ => passAt (takes_of rfl rfl rfl rfl) σ) (pa_cons (zv 0) (pa_cons (pe_lst (pa_cons pe_non (pa_cons pe_int (pa_cons pe_str (pa_cons (pe_lst pa_nil) (pa_cons (pe_tup pa_nil) (pa_cons (pe_lst (pa_cons (pe_make00 T.m0_Refuse T.ci_Refuse.hm rfl T.g_Refuse) pa_nil)) (pa_cons (pe_makeZ T.m_Has (ok_Has_init T) (hr.mono (by decide)) (fun z => nomatch z) rfl T.g_Has T.e_Has_init .nil (fun σ => passAt (takes_of rfl rfl rfl rfl) σ) (pa_cons pe_int pa_nil)) (pa_cons pe_bl pa_nil))))))))) pa_nil))))
  (pss_one (ps_expr (pe_bm PySem.F.plainAttrs_list PySem.F.slot_list_insert PySem.F.type_list_insert mt_insZ (zv 2) (pa_cons (pe_callZ (ok_law_draw T) (hr.mono (by decide)) (fun z => nomatch z) rfl T.g_law_draw T.k_law_draw T.e_law_draw .nil (fun σ => passAt (takes_of rfl rfl rfl rfl) σ) (pa_cons (zv 0) (pa_cons (pe_op op_zAdd (pe_callB call_lenZ (by rfl) T.b_len (by decide +kernel) (pa_cons (zv 2) pa_nil)) pe_int) pa_nil))) (pa_cons (zv 5) pa_nil))))))))
  pss_nil)
  (pss_one (ps_ret (zv 2)))))))
theorem DeckAt.upd {H : Hp} {p wa b : Addr} {o : HO} (d : DeckAt H p wa) (n1 : b ≠ p) (n2 : wa ≠ b) : DeckAt (L2.upd H b o) p wa := by
  obtain ⟨c, m, t, ws, h1, h2, h3, h4⟩ := d
  exact ⟨c, m, t, ws, by rw [upd_ne n1.symm]; exact h1, by rw [upd_ne n2]; exact h2, h3, h4⟩
theorem deck_wa {H : Hp} {p wa b : Addr} (d : DeckAt H p wa) (n : H b = none) : wa ≠ b := by
  obtain ⟨c, m, t, ws, h1, h2, h3, h4⟩ := d
  exact ne_of_none h2 n
theorem But.new {p b : Addr} {H H' : Hp} {o : HO} (h : But p H H') (n : H b = none) : But p H (L2.upd H' b o) := fun c u e nc => by
  rw [upd_ne (ne_of_none e n)]
  exact h c u e nc
theorem hid_in {S : List Addr} {H : Hp} {b : Addr} {o : HO} (m : b ∈ S) : Same (hid S H) (hid S (upd H b o)) := hid_same fun c u e n => by
  rw [upd_ne (fun z => n (by rw [z]; exact m))]
  exact e
theorem hid_butS {p : Addr} {S : List Addr} {H H' : Hp} (b : But p H H') (m : p ∈ S) : Same (hid S H) (hid S H') := hid_same fun c u e n => b c u e fun z => n (by rw [z]; exact m)
theorem hid_put {H : Hp} {p a : Addr} {o : HO} (n : a ≠ p) (e : H a = some o) : hid [p] H a = some o := hid_at (by simpa using n) e
theorem but_none {p a : Addr} {H H' : Hp} {wa : Addr} (b : But p H H') (d : DeckAt H' p wa) (n : H' a = none) : H a = none := by
  cases e : H a with
  | none => rfl
  | some o =>
    by_cases z : a = p
    · exact absurd z (d.ne n)
    · have := b a o e z
      rw [n] at this
      cases this
/-- the list that grows -/
structure GrowAt (K : PySem.W.Frag) (g : Ads) (H0 : Hp) (p wa L : Addr) (its : List (V × Option Tr)) (H : Hp) : Prop where
  dk : DeckAt H p wa
  bt : But p H0 H
  ls : H L = some (.lst (its.map (·.1)))
  it : ∀ q ∈ its, ItAt K g (hid [p, L] H) q
section
variable {K : PySem.W.Frag} {mg : Str → Option Value} {g : Ads} {H0 H H' : Hp} {p wa L : Addr} {its : List (V × Option Tr)}
theorem GrowAt.but (G : GrowAt K g H0 p wa L its H) (pL : L ≠ p) (b : But p H H') (d : DeckAt H' p wa) : GrowAt K g H0 p wa L its H' := ⟨d, G.bt.trans b, b _ _ G.ls pL, fun q m => (G.it q m).same (hid_butS b (by simp))⟩
theorem GrowAt.same (G : GrowAt K g H0 p wa L its H) (s : Same H H') : GrowAt K g H0 p wa L its H' := ⟨G.dk.same s, G.bt.trans (But.same s), s _ _ G.ls, fun q m => (G.it q m).same (hid_same fun c u e _ => s _ _ e)⟩
/-- one thing more, at the place k -/
theorem GrowAt.put (G : GrowAt K g H0 p wa L its H) (nL : H0 L = none) (pL : L ≠ p) (wL : wa ≠ L) {q : V × Option Tr} (h : ItAt K g (hid [p, L] H) q) (k : Nat) : GrowAt K g H0 p wa L (its.take k ++ [q] ++ its.drop k) (upd H L (.lst ((its.map (·.1)).take k ++ [q.1] ++ (its.map (·.1)).drop k))) := by
  refine ⟨G.dk.upd pL wL, G.bt.new nL, by rw [upd_same]; simp, fun z m => ?_⟩
  have hm : z ∈ its ∨ z = q := by
    rcases List.mem_append.mp m with m | m
    · rcases List.mem_append.mp m with m | m
      · exact .inl (List.mem_of_mem_take m)
      · exact .inr (by simpa using m)
    · exact .inl (List.mem_of_mem_drop m)
  rcases hm with hm | rfl
  · exact (G.it z hm).same (hid_in (by simp))
  · exact h.same (hid_in (by simp))
theorem put_len (q : V × Option Tr) (k : Nat) : (its.take k ++ [q] ++ its.drop k).length = its.length + 1 := by
  rw [List.length_append, List.length_append, List.length_take, List.length_drop, List.length_singleton]
  omega
/-- ints of 5 -/
theorem five_of {x a b c d e : V} {j : Nat} (h : [a, b, c, d, e][j]? = some x) : x = a ∨ x = b ∨ x = c ∨ x = d ∨ x = e := by
  have := List.mem_of_getElem? h
  simpa using this
theorem eight_of {x a b c d e f h' i : V} {j : Nat} (h : [a, b, c, d, e, f, h', i][j]? = some x) : x = a ∨ x = b ∨ x = c ∨ x = d ∨ x = e ∨ x = f ∨ x = h' ∨ x = i := by
  have := List.mem_of_getElem? h
  simpa using this
end
section
variable {K : PySem.W.Frag} {mg : Str → Option Value} {g : Ads} {E : XK}
def StI (K : PySem.W.Frag) (g : Ads) (H0 : Hp) (p wa L : Addr) (io : Bool) (v3 : Option V) (n : Nat) (i : Nat) (σ : St) (H' : Hp) : Prop := ∃ its v4 v5, σ = [some (.ref p), some (.bl io), some (.ref L), v3, v4, v5] ∧ GrowAt K g H0 p wa L its H' ∧ its.length ≤ n + i
/-- the odd things -/
theorem steps_odd (T : Txt K mg g) {D' : Ends} {H0 H : Hp} {p wa L : Addr} {io : Bool} {v3 v4 v5 : Option V} {n i : Nat} {its : List (V × Option Tr)} (G : GrowAt K g H0 p wa L its H) (nL : H0 L = none) (pL : L ≠ p) (wL : wa ≠ L) (hl : its.length ≤ n + i) (hn : n + i ≤ 40)
    (hD : ∀ σ H', StI K g H0 p wa L io v3 n (i + 1) σ H' → D'.nx σ H') : R_law_steps_8 K g E D' [some (.ref p), some (.bl io), some (.ref L), v3, v4, v5] H := by
  refine ⟨show 0 ≤ sizeLine by decide, fun l1 n1 => ?_⟩
  have s1 := Same.put (o := .lst []) n1
  have e1 := upd_same (H := H) (a := l1) (o := .lst [])
  generalize upd H l1 (.lst []) = H1 at s1 e1
  refine ⟨show 0 ≤ sizeLine by decide, fun l2 n2 => ?_⟩
  have s2 := Same.put (o := .tup []) n2
  have e2 := upd_same (H := H1) (a := l2) (o := .tup [])
  generalize upd H1 l2 (.tup []) = H2 at s2 e2
  refine fun r1 d1 m1 m1' ne1 => ?_
  have s3 := (mk_same (C := g.c_Refuse) m1 m1' ne1).1
  generalize upd (upd H2 d1 (.own r1)) r1 (.ins g.c_Refuse d1 []) = H3 at s3
  refine ⟨show 1 ≤ sizeLine by decide, fun l3 n3 => ?_⟩
  have s4 := Same.put (o := .lst [.ref r1]) n3
  have e4 := upd_same (H := H3) (a := l3) (o := .lst [.ref r1])
  show ∀ h hdx, (upd H3 l3 (.lst [.ref r1])) h = none → _
  generalize upd H3 l3 (.lst [.ref r1]) = H4 at s4 e4
  refine fun h hdx nh nhd neh => has_new (v := .int 1) nh nhd neh True.intro (by decide) fun H5 s5 e5 => ⟨rfl, ?_⟩
  refine ⟨show 8 ≤ sizeLine by decide, fun W hW => ?_⟩
  have s6 := Same.put (o := .lst [.non, .int 0, .str "refuse", .ref l1, .ref l2, .ref l3, .ref h, .bl true]) hW
  have e6 := upd_same (H := H5) (a := W) (o := .lst [.non, .int 0, .str "refuse", .ref l1, .ref l2, .ref l3, .ref h, .bl true])
  generalize upd H5 W (.lst [.non, .int 0, .str "refuse", .ref l1, .ref l2, .ref l3, .ref h, .bl true]) = H6 at s6 e6
  have t4 : Same H4 H6 := s5.trans s6
  have t2 : Same H2 H6 := (s3.trans s4).trans t4
  have t1 : Same H1 H6 := s2.trans t2
  have t0 : Same H H6 := s1.trans t1
  have d6 := G.dk.same t0
  have G6 := G.same t0
  refine ⟨p, wa, W, _, rfl, d6, .inl (SqL.of e6), (G.dk.same (((((s1.trans s2).trans s3).trans s4).trans s5))).ne hW, by simp, (show 8 ≤ 1000000 by decide), fun j x H7 hx d7 b7 => ?_⟩
  have G7 := G6.but pL b7 d7
  -- the thing
  have LL := G.ls
  have nn : ∀ a, H a = none → a ∉ [p, L] := fun a na => by
    simp only [List.mem_cons, List.not_mem_nil, or_false, not_or]
    exact ⟨G.dk.ne na, (ne_of_none LL na).symm⟩
  have f : ∀ {a : Addr} {o : HO}, H6 a = some o → H a = none → hid [p, L] H7 a = some o := fun e na => hid_butS b7 (by simp) _ _ (hid_at (nn _ na) e)
  have it : ItAt K g (hid [p, L] H7) (x, none) := by
    rcases eight_of hx with rfl | rfl | rfl | rfl | rfl | rfl | rfl | rfl
    · exact ⟨⟨_, tyu_non, T.kb_Step_NoneType⟩, ⟨_, tyu_non, kit4 T.kb_Refuse_NoneType T.kb_Let_NoneType T.kb_Attempt_NoneType T.kb_When_NoneType⟩, .inl rfl⟩
    · exact ⟨⟨_, tyu_int, T.kb_Step_int⟩, ⟨_, tyu_int, kit4 T.kb_Refuse_int T.kb_Let_int T.kb_Attempt_int T.kb_When_int⟩, .inr (.inr (.inl ⟨_, rfl⟩))⟩
    · exact ⟨⟨_, tyu_str, T.kb_Step_str⟩, ⟨_, tyu_str, kit4 T.kb_Refuse_str T.kb_Let_str T.kb_Attempt_str T.kb_When_str⟩, .inr (.inr (.inr (.inl ⟨_, rfl⟩)))⟩
    · exact ⟨⟨_, tyu_lst (f (t1 _ _ e1) n1), T.kb_Step_list⟩, ⟨_, tyu_lst (f (t1 _ _ e1) n1), kit4 T.kb_Refuse_list T.kb_Let_list T.kb_Attempt_list T.kb_When_list⟩, smv_ref⟩
    · exact ⟨⟨_, tyu_tup (f (t2 _ _ e2) (s1.free n2)), T.kb_Step_tuple⟩, ⟨_, tyu_tup (f (t2 _ _ e2) (s1.free n2)), kit4 T.kb_Refuse_tuple T.kb_Let_tuple T.kb_Attempt_tuple T.kb_When_tuple⟩, smv_ref⟩
    · exact ⟨⟨_, tyu_lst (f (t4 _ _ e4) (((s1.trans s2).trans s3).free n3)), T.kb_Step_list⟩, ⟨_, tyu_lst (f (t4 _ _ e4) (((s1.trans s2).trans s3).free n3)), kit4 T.kb_Refuse_list T.kb_Let_list T.kb_Attempt_list T.kb_When_list⟩, smv_ref⟩
    · have ty := tyu_ins T.ci_Has (f (s6 _ _ e5) ((((s1.trans s2).trans s3).trans s4).free nh))
      exact ⟨⟨_, ty, T.nk_Has_Step⟩, ⟨_, ty, kit4 T.nk_Has_Refuse T.nk_Has_Let T.nk_Has_Attempt T.nk_Has_When⟩, smv_ref⟩
    · exact ⟨⟨_, tyu_bl, T.kb_Step_bool⟩, ⟨_, tyu_bl, kit4 T.kb_Refuse_bool T.kb_Let_bool T.kb_Attempt_bool T.kb_When_bool⟩, .inr (.inl ⟨_, rfl⟩)⟩
  refine ⟨.inl ⟨rfl, _, SqL.of G7.ls⟩, _, .inl (SqL.of G7.ls), p, wa, _, rfl, d7, by omega, ?_, fun k H8 k0 k1 d8 b8 => ?_⟩
  · rw [List.length_map]
    omega
  have G8 := G7.but pL b8 d8
  rw [List.length_map] at k1
  refine ⟨L, _, k, x, rfl, rfl, G8.ls, ?_, k0, by omega, hD _ _ ⟨_, v4, some x, rfl, G8.put nL pL wL (it.same (hid_butS b8 (by simp))) k.toNat, ?_⟩⟩
  · rw [List.length_map]
    exact Nat.lt_of_le_of_lt (show its.length ≤ 40 by omega) (by decide)
  · rw [put_len]
    omega
theorem pf_law_steps (T : Txt K mg g) (vs : List V) (H : Hp) (Q : VK) (h : sp_law_steps K g vs H Q E) : rw_law_steps K g vs H Q E := by
  obtain ⟨p, wa, io, rfl, hd, q⟩ := h
  refine ⟨rfl, show 0 ≤ sizeLine by decide, fun L nL => ?_⟩
  have s1 := Same.put (o := .lst []) nL
  have e1 := upd_same (H := H) (a := L) (o := .lst [])
  have pL : L ≠ p := hd.ne nL
  have wL : wa ≠ L := deck_wa hd nL
  have d1 := hd.same s1
  generalize upd H L (.lst []) = H1 at s1 e1 d1
  have G1 : GrowAt K g H p wa L [] H1 := ⟨d1, But.same s1, e1, fun q m => by cases m⟩
  refine ⟨p, wa, 5, rfl, d1, by decide, by decide, fun r1 H2 r10 r11 d2 b2 => ⟨p, wa, 21, rfl, d2, by decide, by decide, fun r2 H3 r20 r21 d3 b3 => ⟨show 5 ≤ sizeLine by decide, fun W hW => ?_⟩⟩⟩
  have G3 := (G1.but pL b2 d2).but pL b3 d3
  have sW := Same.put (o := .lst [.int r1, .int r2, .int 13, .int 14, .int 15]) hW
  refine ⟨p, wa, W, _, rfl, d3.same sW, .inl (SqL.of upd_same), d3.ne hW, by simp, (show 5 ≤ 1000000 by decide), fun j x H4 hx d4 b4 => ⟨_, _, rfl, ?_⟩⟩
  have G4 := (G3.same sW).but pL b4 d4
  obtain ⟨m, rfl, m0, m1⟩ : ∃ m : Int, x = .int m ∧ 0 ≤ m ∧ m ≤ 20 := by
    rcases five_of hx with rfl | rfl | rfl | rfl | rfl
    · exact ⟨_, rfl, r10, by omega⟩
    · exact ⟨_, rfl, r20, by omega⟩
    · exact ⟨_, rfl, by decide, by decide⟩
    · exact ⟨_, rfl, by decide, by decide⟩
    · exact ⟨_, rfl, by decide, by decide⟩
  show R_law_steps_2 K g E { nx := fun _ H' => Q .non H', rt := Q } [some (.ref p), some (.bl io), some (.ref L), some (.int m), none, none] H4
  -- the end
  have end_ : ∀ (its : List (V × Option Tr)) (v4 v5 : Option V) (H' : Hp), GrowAt K g H p wa L its H' → its.length ≤ 22 → R_law_steps_6 K g E { nx := fun _ H' => Q .non H', rt := Q } [some (.ref p), some (.bl io), some (.ref L), some (.int m), v4, v5] H' := by
    intro its v4 v5 H' G hl
    have ret : ∀ (its : List (V × Option Tr)) (H' : Hp), GrowAt K g H p wa L its H' → its.length ≤ 30 → Q (.ref L) H' := fun its H' G hl => q L its H' G.dk G.bt nL (hid_put pL G.ls) (fun z m => (G.it z m).same fun b o e => by
      obtain ⟨e1, e2⟩ := hid_of e
      exact hid_at (fun m => e1 (by simp only [List.mem_singleton] at m; simp [m])) e2) hl
    cases io with
    | false => exact ret its H' G (by omega)
    | true =>
      refine ⟨p, wa, 2, rfl, G.dk, by decide, by decide, fun r H5 r0 r1 d5 b5 => ?_⟩
      have G5 := G.but pL b5 d5
      refine ⟨1 + r, rfl, by omega, by omega, for_z (walk_range (lo := 0) (n := (1 + r).toNat)) (StI K g H p wa L true (some (.int m)) 22) ⟨its, v4, v5, rfl, G5, by omega⟩ (fun _ _ _ _ _ => trivial) ?_ ?_⟩
      · rintro i x σ H6 H7 hi ⟨its', v4', v5', rfl, G6, l6⟩ ⟨rfl, rfl⟩
        exact steps_odd T G6 nL pL wL l6 (by omega) fun _ _ h => h
      · rintro σ H6 ⟨its', v4', v5', rfl, G6, l6⟩
        exact ret its' H6 G6 (by omega)
  refine ⟨m, rfl, by omega, by omega, for_z (walk_range (lo := 0) (n := m.toNat)) (StI K g H p wa L io (some (.int m)) 0) ⟨[], none, none, rfl, G4, by simp⟩ (fun _ _ _ _ _ => trivial) ?_ ?_⟩
  · rintro i x σ H5 H6 hi ⟨its, v4, v5, rfl, G5, l5⟩ ⟨rfl, rfl⟩
    have ll : (its.map (·.1)).length < sizeLine := by
      rw [List.length_map]
      exact Nat.lt_of_le_of_lt (show its.length ≤ 40 by omega) (by decide)
    refine ⟨.inl ⟨rfl, _, SqL.of G5.ls⟩, p, wa, 2, rfl, G5.dk, by decide, by decide, fun r H7 r0 r1 d7 b7 => .inl ⟨rfl, ?_⟩⟩
    have G7 := G5.but pL b7 d7
    -- one step more
    have put : ∀ (a dx : Addr) (H8 : Hp), Same H7 H8 → H7 a = none → (H8 a = some (.ins g.c_Refuse dx []) ∨ ∃ x y, H8 a = some (.ins g.c_Let dx [("into", x), ("value", y)])) →
        ∃ l xs y, V.ref L = .ref l ∧ [V.ref a] = [y] ∧ H8 l = some (.lst xs) ∧ xs.length < sizeLine ∧ StI K g H p wa L io (some (.int m)) 0 (i + 1) [some (.ref p), some (.bl io), some (.ref L), some (.int m), some (.int (0 + (i : Int))), v5] (upd H8 l (.lst (xs ++ [y]))) := by
      intro a dx H8 s8 na ha
      have G8 := G7.same s8
      have nl : a ∉ [p, L] := by
        simp only [List.mem_cons, List.not_mem_nil, or_false, not_or]
        exact ⟨d7.ne na, (ne_of_none G7.ls na).symm⟩
      have it : ItAt K g (hid [p, L] H8) (.ref a, some (.leaf (.ref a))) := ⟨rfl, by simp only [TrAt]; exact ⟨a, dx, rfl, ha.imp (fun e => hid_at nl e) fun ⟨x, y, e⟩ => ⟨x, y, hid_at nl e⟩⟩, by simp [Tr.dep], by simp [Tr.inn]⟩
      have G9 := G8.put nL pL wL it its.length
      have e : (its.map (·.1)).take its.length ++ [V.ref a] ++ (its.map (·.1)).drop its.length = its.map (·.1) ++ [.ref a] := by
        rw [List.take_of_length_le (by rw [List.length_map]; exact Nat.le_refl _), List.drop_of_length_le (by rw [List.length_map]; exact Nat.le_refl _), List.append_nil]
      refine ⟨L, _, _, rfl, rfl, G8.ls, ll, its.take its.length ++ [(V.ref a, some (.leaf (.ref a)))] ++ its.drop its.length, _, v5, rfl, ?_, ?_⟩
      · rw [← e]
        exact G9
      · rw [put_len]
        omega
    refine zite (fun _ => ?_) (fun _ => ?_)
    · refine fun a dx na nd ne => ?_
      exact put a dx _ (mk_same (C := g.c_Refuse) na nd ne).1 na (.inl upd_same)
    · refine fun a dx na nd ne => let_new (x := .str "a") (v := .int (0 + (i : Int))) na nd ne (show ("a" : Str).length ≤ 1000 by decide) True.intro (by decide +kernel) ?_ fun H8 s8 e8 => ⟨rfl, put a dx H8 s8 na (.inr ⟨_, _, e8⟩)⟩
      simp only [isOperV, isIntV, Bool.or_eq_true, Bool.and_eq_true, decide_eq_true_eq]
      omega
  · rintro σ H5 ⟨its, v4, v5, rfl, G5, l5⟩
    refine ⟨p, wa, 2, rfl, G5.dk, by decide, by decide, fun r H6 r0 r1 d6 b6 => .inl ⟨rfl, ?_⟩⟩
    have G6 := G5.but pL b6 d6
    refine zite (fun _ => ?_) (fun _ => end_ its v4 v5 H6 G6 (by omega))
    refine ⟨.inl ⟨rfl, _, SqL.of G6.ls⟩, _, .inl (SqL.of G6.ls), p, wa, _, rfl, d6, by omega, ?_, fun k H7 k0 k1 d7 b7 => ?_⟩
    · rw [List.length_map]
      omega
    have G7 := G6.but pL b7 d7
    rw [List.length_map] at k1
    refine ⟨p, wa, 7, rfl, d7, by decide, by decide, fun w H8 w0 w1 d8 b8 => ?_⟩
    have G8 := G7.but pL b8 d8
    refine ⟨p, wa, [L], w, rfl, d8, (fun s hs => by cases List.mem_singleton.mp hs; exact ⟨_, G8.ls⟩), w0, by omega, fun t H9 d9 b9 nt => ?_⟩
    have G9 := G8.but pL b9 d9
    refine ⟨L, _, k, t.v, rfl, rfl, G9.ls, ?_, k0, by omega, ?_⟩
    · rw [List.length_map]
      exact Nat.lt_of_le_of_lt (show its.length ≤ 40 by omega) (by decide)
    have it : ItAt K g (hid [p, L] H9) (t.v, some t) := ⟨rfl, nt.at_, by have := nt.dp; omega, by have := nt.ct; omega⟩
    exact end_ _ v4 v5 _ (G9.put nL pL wL it k.toNat) (by rw [put_len]; omega)
end
theorem ok_law_steps {P : Program} [SupP P] {w : World} {K : PySem.W.Frag} {mg : Str → Option Value} {base : Heap} {g : Ads} (T : Txt K mg g) : FnG false P w K mg base 8 g.f_law_steps g.d_law_steps ["deck", "is_odd"] (sp_law_steps K g) := (raw_law_steps T).imp fun vs H Q E h => pf_law_steps T vs H Q h
end Z
namespace Z
open PySem PySem.Spec PyProof.Rows L2
/-! ### things that repr tells (as in K07) -/
structure FitX (d : PyData) : Prop where
  sh : d.showable = true
  lv : d.leavesShort 22 = true
  wt : d.weight ≤ 400
  dp : d.depth ≤ 4
theorem FitX.le {d : PyData} (f : FitX d) : d.shown.length ≤ sizeLine := by
  have := PyData.shown_le 22 (by decide) d f.lv
  have : (22 + 2) * d.weight ≤ 24 * 400 := Nat.mul_le_mul (Nat.le_refl _) f.wt
  rw [sizeLine_eq]
  omega
theorem DpR.same {K : PySem.W.Frag} {H H' : Hp} {v : V} {d : PyData} (h : DpR K H v d) (s : Same H H') : DpR K H' v d := by
  rcases h with ⟨h, e⟩ | ⟨a, kvs, kds, e1, e2, e3, e4⟩
  · exact .inl ⟨Dp_same s _ _ h, e⟩
  · exact .inr ⟨a, kvs, kds, e1, s _ _ e2, e3, e4⟩
def lawNm (v : V) : Bool := match v with
  | .str z => !(decide (z = "") || decide (z = "A") || decide (z = "none") || decide (z = "abcdefghi"))
  | _ => false
structure Thing (K : PySem.W.Frag) (H : Hp) (v : V) (d : PyData) : Prop where
  kn : Knd K H v
  dp : DpR K H v d
  fx : FitX d
  nm : lawNm v = isNameV v
  as : ∀ z, v = .str z → Asc z
theorem Thing.same {K : PySem.W.Frag} {H H' : Hp} {v : V} {d : PyData} (t : Thing K H v d) (s : Same H H') : Thing K H' v d := ⟨t.kn.same s, t.dp.same s, t.fx, t.nm, t.as⟩
theorem fit_int {i : Int} (h1 : -1000000000000000000000 < i) (h2 : i < 1000000000000000000000) : FitX (.int i) := by
  have la : i.natAbs < 10 ^ 21 := by omega
  have lg : i.natAbs.log2 < 70 := by
    by_cases h0 : i.natAbs = 0
    · rw [h0]
      decide
    · exact (Nat.log2_lt h0).mpr (show i.natAbs < 2 ^ 70 by omega)
  refine ⟨?_, ?_, ?_, by simp [PyData.depth]⟩
  · exact decide_eq_true (Nat.lt_trans lg (by decide))
  · refine decide_eq_true ?_
    have := int_text_length_le10 (a := i) (k := 21) (by decide) la
    show (Str.ofString (toString i)).length ≤ 22
    rw [PySem.ofString_length]
    omega
  · simp only [PyData.weight]
    split <;> omega
theorem fit_str {z : Str} (h : z.length ≤ 60) (a : Asc z) : FitX (.str z) := by
  refine ⟨rfl, ?_, ?_, by simp [PyData.depth]⟩
  · simp only [PyData.leavesShort, List.all_eq_true, decide_eq_true_eq]
    exact fun c hc => Nat.lt_trans (a c hc) (by decide)
  · simp only [PyData.weight]
    exact Nat.le_trans (show _ ≤ 61 by have : z.cps.size = z.length := rfl; omega) (by decide)
theorem th_non {K : PySem.W.Frag} {H : Hp} : Thing K H .non .none := ⟨trivial, .inl ⟨.non, rfl⟩, ⟨rfl, rfl, by simp [PyData.weight], by simp [PyData.depth]⟩, rfl, fun _ e => nomatch e⟩
theorem th_bl {K : PySem.W.Frag} {H : Hp} (b : Bool) : Thing K H (.bl b) (.bool b) := ⟨trivial, .inl ⟨.bl b, rfl⟩, by cases b <;> exact ⟨rfl, by decide +kernel, by decide +kernel, by decide +kernel⟩, rfl, fun _ e => nomatch e⟩
theorem th_int {K : PySem.W.Frag} {H : Hp} {i : Int} (h1 : -1000000000000000000000 < i) (h2 : i < 1000000000000000000000) : Thing K H (.int i) (.int i) := ⟨trivial, .inl ⟨.int i, rfl⟩, fit_int h1 h2, rfl, fun _ e => nomatch e⟩
theorem asc_ok {z : Str} (a : Asc z) : SeqAt.shaped (.str z) = true := by
  have e : PyData.strOk z = true := by
    unfold PyData.strOk
    rw [Array.all_eq_true]
    intro i hi
    refine decide_eq_true (Nat.lt_trans (a z.cps[i] ?_) (by decide))
    simp
  simp [SeqAt.shaped, PyData.canLay0, PyData.depth, e]
theorem th_str {K : PySem.W.Frag} {H : Hp} {z : Str} (h : z.length ≤ 60) (a : Asc z) (n : lawNm (.str z) = isNameV (.str z)) : Thing K H (.str z) (.str z) := ⟨show z.length ≤ 1000 by omega, .inl ⟨.str z, rfl⟩, fit_str h a, n, fun y e => by cases e; exact a⟩
theorem th_lst0 {K : PySem.W.Frag} {H : Hp} {a : Addr} (h : H a = some (.lst [])) : Thing K H (.ref a) (.list []) := ⟨⟨.list, _, SqL.of h⟩, .inl ⟨.lst (SqL.of h) .nil, rfl⟩, ⟨rfl, rfl, by decide +kernel, by decide +kernel⟩, rfl, fun _ e => nomatch e⟩
theorem th_tup1 {K : PySem.W.Frag} {H : Hp} {a : Addr} {v : V} {d : PyData} (h : H a = some (.tup [v])) (e : Dp K H v d) (nd : d.hasDict = false) (f : FitX (.tuple [d])) : Thing K H (.ref a) (.tuple [d]) :=
  ⟨⟨.tuple, _, SqT.of h⟩, .inl ⟨.tup (SqT.of h) (.cons e .nil), by simp [PyData.hasDict, PyData.hasDictAll, nd]⟩, f, rfl, fun _ e => nomatch e⟩
theorem th_dic0 {K : PySem.W.Frag} {H : Hp} {a : Addr} (h : H a = some (.dK [])) : Thing K H (.ref a) (.dict []) := ⟨⟨.dict, .inl ⟨_, h⟩⟩, .inr ⟨_, _, _, rfl, h, rfl, .nil⟩, ⟨by decide +kernel, by decide +kernel, by decide +kernel, by decide +kernel⟩, rfl, fun _ e => nomatch e⟩
theorem mem_abc {c : Nat} (h0 : 97 ≤ c) (h1 : c ≤ 122) : c ∈ ("abcdefghijklmnopqrstuvwxyz" : Str).cps.toList := by
  have e : ("abcdefghijklmnopqrstuvwxyz" : Str).cps.toList = List.range' 97 26 := by decide +kernel
  rw [e]
  simp only [List.mem_range'_1]
  omega
theorem lett_of {z : Str} (h : ∀ c ∈ z.cps.toList, 97 ≤ c ∧ c ≤ 122) : lettB z = true := by
  unfold lettB
  rw [List.all_eq_true]
  intro b hb
  obtain ⟨i, hi, rfl⟩ := List.mem_map.mp hb
  have hi2 : i < z.cps.size := by simpa using hi
  have hm : z.cps.getD i 0 ∈ z.cps.toList := by
    rw [Array.getD_eq_getD_getElem?, Array.getElem?_eq_getElem hi2]
    simp
  obtain ⟨a, b⟩ := h _ hm
  exact decide_eq_true (mem_abc a b)
theorem nm_ok {ah : Bool} {stem : Str} {first : Int} (k : Nat) (h : Stem stem) (h0 : 0 ≤ first) (h1 : first < 676) : nameB (nmOf ah stem first k) = true ∧ (nmOf ah stem first k).length ≤ 8 ∧ Asc (nmOf ah stem first k) := by
  obtain ⟨l1, st⟩ := h
  obtain ⟨x, hx⟩ : ∃ x : Nat, 97 + ((first + 7 * (k : Int)) % 676 / 26).toNat = x := ⟨_, rfl⟩
  obtain ⟨y, hy⟩ : ∃ y : Nat, 97 + ((first + 7 * (k : Int)) % 676 % 26).toNat = y := ⟨_, rfl⟩
  have x1 : 97 ≤ x ∧ x ≤ 122 := by omega
  have y1 : 97 ≤ y ∧ y ≤ 122 := by omega
  have tw : (twoOf first k).cps.toList = [x, y] := by
    unfold twoOf
    rw [hx, hy]
    rfl
  have ls : (nmOf ah stem first k).cps.toList = if ah = true then [x, y] ++ stem.cps.toList else stem.cps.toList ++ [x, y] := by
    unfold nmOf
    split
    · rw [← tw]
      show ((twoOf first k).cps ++ stem.cps).toList = _
      simp
    · rw [← tw]
      show (stem.cps ++ (twoOf first k).cps).toList = _
      simp
  have l2 : stem.cps.toList.length = stem.length := rfl
  have st : ∀ c ∈ stem.cps.toList, c = 97 ∨ c = 122 ∨ c = 113 ∨ c = 109 := st
  generalize stem.cps.toList = L at ls l2 st
  have lt : ∀ c ∈ (nmOf ah stem first k).cps.toList, 97 ≤ c ∧ c ≤ 122 := by
    intro c hc
    rw [ls] at hc
    have : c = x ∨ c = y ∨ c ∈ L := by
      by_cases e : ah = true
      · rw [if_pos e] at hc
        simpa using hc
      · rw [if_neg e] at hc
        have : c ∈ L ∨ c = x ∨ c = y := by simpa using hc
        rcases this with a | a | a
        · exact .inr (.inr a)
        · exact .inl a
        · exact .inr (.inl a)
    rcases this with e | e | e
    · omega
    · omega
    · have := st c e
      omega
  have ll : (nmOf ah stem first k).length = 2 + stem.length := by
    have : (nmOf ah stem first k).length = (nmOf ah stem first k).cps.toList.length := rfl
    rw [this, ls, ← l2]
    split <;> simp <;> omega
  have nn : nmOf ah stem first k ≠ "none" := by
    intro e
    have e2 : ("none" : Str).cps.toList = [110, 111, 110, 101] := by decide +kernel
    rw [e, e2] at ls
    by_cases ea : ah = true
    · rw [if_pos ea] at ls
      have : L = [110, 101] := by
        simp at ls
        exact ls.2.2.symm
      have := st 110 (by rw [this]; simp)
      omega
    · rw [if_neg ea] at ls
      cases L with
      | nil => simp at ls
      | cons a r =>
        have : a = 110 := by
          simp at ls
          exact ls.1.symm
        have := st a (by simp)
        omega
  refine ⟨?_, by omega, fun c hc => by have := lt c hc; omega⟩
  unfold nameB
  rw [lett_of lt, decide_eq_true (show (1 : Int) ≤ (nmOf ah stem first k).length by omega), decide_eq_true (show ((nmOf ah stem first k).length : Int) ≤ 8 by omega), decide_eq_false nn]
  rfl
structure FitN (w k : Nat) (d : PyData) : Prop where
  sh : d.showable = true
  lv : d.leavesShort 22 = true
  wt : d.weight ≤ w
  dp : d.depth ≤ k
theorem FitX.n {d : PyData} (f : FitX d) : FitN 400 4 d := ⟨f.sh, f.lv, f.wt, f.dp⟩
theorem FitN.mono {w k w' k' : Nat} {d : PyData} (f : FitN w k d) (h : w ≤ w') (h2 : k ≤ k') : FitN w' k' d := ⟨f.sh, f.lv, Nat.le_trans f.wt h, Nat.le_trans f.dp h2⟩
theorem fitN_all {w k : Nat} : ∀ (ds : List PyData), (∀ d ∈ ds, FitN w k d) → PyData.showableAll ds = true ∧ PyData.leavesShortAll 22 ds = true ∧ PyData.weightAll ds ≤ (w + 1) * ds.length ∧ PyData.depthAll ds ≤ k
  | [], _ => ⟨rfl, rfl, by simp [PyData.weightAll], by simp [PyData.depthAll]⟩
  | d :: ds, h => by
    obtain ⟨h1, h2, h3, h4⟩ := fitN_all ds fun e he => h e (List.mem_cons_of_mem _ he)
    obtain ⟨a1, a2, a3, a4⟩ := h d List.mem_cons_self
    refine ⟨by simp only [PyData.showableAll, a1, h1, Bool.and_self], by simp only [PyData.leavesShortAll, a2, h2, Bool.and_self], ?_, ?_⟩
    · simp only [PyData.weightAll, List.length_cons, Nat.mul_succ]
      omega
    · simp only [PyData.depthAll]
      omega
theorem fitN_list {w k n : Nat} {ds : List PyData} (h : ∀ d ∈ ds, FitN w k d) (hn : ds.length ≤ n) : FitN ((w + 1) * n) (k + 1) (.list ds) := by
  obtain ⟨h1, h2, h3, h4⟩ := fitN_all ds h
  refine ⟨by simpa only [PyData.showable] using h1, by simpa only [PyData.leavesShort] using h2, ?_, ?_⟩
  · simp only [PyData.weight]
    exact Nat.le_trans h3 (Nat.mul_le_mul (Nat.le_refl _) hn)
  · simp only [PyData.depth]
    omega
def RepAt (K : PySem.W.Frag) (H : Hp) (a : Addr) (S : Str) : Prop := ∃ vs ds, SqL K H a vs ∧ DpNs K H vs ds ∧ PyData.showableAll ds = true ∧ PyData.depthAll ds ≤ 32 ∧ (PyData.list ds).shown.length ≤ sizeLine ∧ (PyData.list ds).shown = S
theorem rep_list {K : PySem.W.Frag} {H : Hp} {a : Addr} {vs : List V} {ds : List PyData} {w k : Nat} (ha : SqL K H a vs) (hd : DpNs K H vs ds) (f : FitN w k (.list ds)) (hw : 24 * w ≤ 16000000) (hk : k ≤ 30) : RepAt K H a (PyData.list ds).shown := by
  refine ⟨vs, ds, ha, hd, by simpa only [PyData.showable] using f.sh, ?_, ?_, rfl⟩
  · have := f.dp
    simp only [PyData.depth] at this
    omega
  · have h := PyData.shown_le 22 (by decide) (.list ds) f.lv
    have : (22 + 2) * (PyData.list ds).weight ≤ 24 * w := Nat.mul_le_mul (Nat.le_refl _) f.wt
    rw [sizeLine_eq]
    omega
theorem lit_odd : ∀ z ∈ (["", "A", "none", "abcdefghi"] : List Str), z.length ≤ 60 ∧ (∀ c ∈ z.cps.toList, c < 128) ∧ lawNm (.str z) = isNameV (.str z) := by decide +kernel
theorem fit_tup : FitX (.tuple [.str "a"]) := by
  refine ⟨?_, ?_, ?_, ?_⟩ <;> decide +kernel
/-- a mark: a thing, with what repr tells of it -/
def MkAt (K : PySem.W.Frag) (H : Hp) (v : V) : Prop := ∃ d, Thing K H v d ∧ SmV v
theorem MkAt.same {K : PySem.W.Frag} {H H' : Hp} {v : V} (h : MkAt K H v) (s : Same H H') : MkAt K H' v := h.imp fun _ h => ⟨h.1.same s, h.2⟩
theorem mk_name {K : PySem.W.Frag} {H : Hp} {z : Str} (n : isNameV (.str z) = true) (l : z.length ≤ 8) (a : Asc z) : MkAt K H (.str z) := by
  refine ⟨_, th_str (by omega) a ?_, .inr (.inr (.inr (.inl ⟨z, rfl⟩)))⟩
  rw [n]
  show (!(decide (z = "") || decide (z = "A") || decide (z = "none") || decide (z = "abcdefghi"))) = true
  have no : ∀ y : Str, isNameV (.str y) = false → z ≠ y := fun y e h => by rw [h, e] at n; cases n
  have h1 := no "" (by decide +kernel)
  have h2 := no "A" (by decide +kernel)
  have h3 := no "none" (by decide +kernel)
  have h4 := no "abcdefghi" (by decide +kernel)
  simp [h1, h2, h3, h4]
end Z
namespace Z
open PySem PySem.Spec PyProof.Rows L2
def sp_law_is_name (K : PySem.W.Frag) (g : Ads) : Sp := fun vs H Q E => ∃ v, vs = [v] ∧ Knd K H v ∧ ∀ H', Same H H' → Q (.bl (lawNm v)) H'
theorem sc_law_is_name : FnScope ["thing"] ["thing"] (defScope s_law_is_name) := ⟨rfl, rfl, rfl, by decide +kernel, rfl, by decide +kernel, by decide +kernel⟩
def R_law_is_name (K : PySem.W.Frag) (g : Ads) (E : XK) : TS :=
  (tRet (zAndV (zIsiT K .str (zVar 0)) (tOp (zNin K) (zVar 0) (tLst (tCons (tC (.str "")) (tCons (tC (.str "A")) (tCons (tC (.str "none")) (tCons (tC (.str "abcdefghi")) tNil))))))))
def rw_law_is_name (K : PySem.W.Frag) (g : Ads) : Sp := fun vs H Q E => vs.length = 1 ∧ R_law_is_name K g E { nx := fun _ H' => Q .non H', rt := Q } (start ["thing"] vs) H
theorem raw_law_is_name {P : Program} [SupP P] {w : World} {K : PySem.W.Frag} {mg : Str → Option Value} {base : Heap} {g : Ads} (T : Txt K mg g) : FnG false P w K mg base 1 g.f_law_is_name g.d_law_is_name ["thing"] (rw_law_is_name K g) := by
  refine okZ T.f_law_is_name sc_law_is_name (fun vs H Q E h => h.1) (fun cdv A outer s H vs Q E hr hgu h => ⟨R_law_is_name K g E, ?_, h.2⟩)
  exact (pss_one (ps_ret (pez_and (pe_isi (kd := .str) (zv 0) (by rfl) T.b_isinstance (by decide +kernel) (by rfl) T.b_str (by decide +kernel)) (pe_one (pe_cmpR op_zNin (zv 0) (pe_lst (pa_cons pe_str (pa_cons pe_str (pa_cons pe_str (pa_cons pe_str pa_nil))))) (by rfl))))))
def lits4 : List Str := ["", "A", "none", "abcdefghi"]
theorem lawNm_str (z : Str) : lawNm (.str z) = !decide (z ∈ lits4) := by
  show (!(decide (z = "") || decide (z = "A") || decide (z = "none") || decide (z = "abcdefghi"))) = _
  congr 1
  simp [lits4, Bool.or_assoc]
theorem ok_law_is_name {P : Program} [SupP P] {w : World} {K : PySem.W.Frag} {mg : Str → Option Value} {base : Heap} {g : Ads} (T : Txt K mg g) : FnG false P w K mg base 1 g.f_law_is_name g.d_law_is_name ["thing"] (sp_law_is_name K g) :=
  (raw_law_is_name T).imp fun vs H Q E ⟨v, e, k, q⟩ => by
    subst e
    refine ⟨rfl, ?_⟩
    cases v with
    | str z =>
      show if Kd.str.isS = true then _ else Q (.bl false) H
      refine zite (fun _ => ⟨show 4 ≤ sizeLine by decide, fun p hp => .inr ⟨p, lits4.map V.str, rfl, .inl (SqL.of upd_same), rfl, all_flat _, ?_⟩⟩) (fun h => absurd h (by decide))
      have := q _ (Same.put (o := .lst (lits4.map V.str)) hp)
      rw [lawNm_str, ← inV_strs] at this
      exact this
    | ref a =>
      obtain ⟨t, ht⟩ := k
      refine ⟨t, ht, ?_⟩
      cases t <;> first | exact ht.elim | exact q H (Same.refl H)
    | non => exact q H (Same.refl H)
    | bl _ => exact q H (Same.refl H)
    | int _ => exact q H (Same.refl H)
    | _ => exact k.elim

def sp_law_marks (K : PySem.W.Frag) (g : Ads) : Sp := fun vs H Q E => ∃ (p wa N : Addr) (ns : List V) (io iw : Bool), vs = [.ref p, .ref N, .bl io, .bl iw] ∧ DeckAt H p wa ∧ hid [p] H N = some (.lst ns) ∧ (∀ v ∈ ns, MkAt K (hid [p] H) v) ∧ ns.length ≤ 10 ∧
  ∀ (M : Addr) (ms : List V) (H' : Hp), DeckAt H' p wa → But p H H' → H M = none → hid [p] H' M = some (.lst ms) → (∀ v ∈ ms, MkAt K (hid [p] H') v) → ms.length ≤ 20 → Q (.ref M) H'
theorem sc_law_marks : FnScope ["deck", "names", "is_odd", "is_twice", "found", "thing"] ["deck", "names", "is_odd", "is_twice"] (defScope s_law_marks) := ⟨rfl, rfl, rfl, by decide +kernel, rfl, by decide +kernel, by decide +kernel⟩
def R_law_marks_3 (K : PySem.W.Frag) (g : Ads) (E : XK) : TS :=
  (tDrop (tBM K "list" rInsZ (zVar 4) (tCons (zCall (sp_law_draw K g) [] (WE (fun cls d _ H => E cls d H)) (tCons (zVar 0) (tCons (tOp zAdd (tCB (zLen K) (tCons (zVar 4) tNil)) (tC (.int 1))) tNil))) (tCons (zCall (sp_law_of K g) [] (WE (fun cls d _ H => E cls d H)) (tCons (zVar 0) (tCons (zVar 4) tNil))) tNil))))
def R_law_marks_6 (K : PySem.W.Frag) (g : Ads) (E : XK) : TS :=
  (tDrop (tBM K "list" rInsZ (zVar 4) (tCons (zCall (sp_law_draw K g) [] (WE (fun cls d _ H => E cls d H)) (tCons (zVar 0) (tCons (tOp zAdd (tCB (zLen K) (tCons (zVar 4) tNil)) (tC (.int 1))) tNil))) (tCons (zVar 5) tNil))))
def R_law_marks_5 (K : PySem.W.Frag) (g : Ads) (E : XK) : TS :=
  (tSeq (tAsg (zCall (sp_law_of K g) [] (WE (fun cls d _ H => E cls d H)) (tCons (zVar 0) (tCons (tLst (tCons (tC .non) (tCons (tC (.int 0)) (tCons (tC (.str "")) (tCons (tC (.str "A")) (tCons (tC (.str "none")) (tCons (tLst tNil) (tCons (tTup (tCons (tC (.str "a")) tNil)) (tCons (tC (.bl true)) (tCons (tC (.str "abcdefghi")) (tCons tDNewK tNil))))))))))) tNil))) (gName 5))
  (R_law_marks_6 K g E))
def R_law_marks_4 (K : PySem.W.Frag) (g : Ads) (E : XK) : TS :=
  (tSeq (tIfS (zTru K (zVar 2))
  (R_law_marks_5 K g E)
  tNext)
  (tRet (zVar 4)))
def R_law_marks_2 (K : PySem.W.Frag) (g : Ads) (E : XK) : TS :=
  (tSeq (tIfS (tAnd (zTru K (zVar 3)) (zTest (tOp (zNeE K) (zVar 4) (tLst tNil))))
  (R_law_marks_3 K g E)
  tNext)
  (R_law_marks_4 K g E))
def R_law_marks (K : PySem.W.Frag) (g : Ads) (E : XK) : TS :=
  (tSeq (tAsg (tSl (rSlL K) (zVar 1) tNoPart (tPart (zCall (sp_law_draw K g) [] (WE (fun cls d _ H => E cls d H)) (tCons (zVar 0) (tCons (tC (.int 6)) tNil))))) (gName 4))
  (R_law_marks_2 K g E))
def rw_law_marks (K : PySem.W.Frag) (g : Ads) : Sp := fun vs H Q E => vs.length = 4 ∧ R_law_marks K g E { nx := fun _ H' => Q .non H', rt := Q } (start ["deck", "names", "is_odd", "is_twice", "found", "thing"] vs) H
theorem raw_law_marks {P : Program} [SupP P] {w : World} {K : PySem.W.Frag} {mg : Str → Option Value} {base : Heap} {g : Ads} (T : Txt K mg g) : FnG false P w K mg base 3 g.f_law_marks g.d_law_marks ["deck", "names", "is_odd", "is_twice"] (rw_law_marks K g) := by
  refine okZ T.f_law_marks sc_law_marks (fun vs H Q E h => h.1) (fun cdv A outer s H vs Q E hr hgu h => ⟨R_law_marks K g E, ?_, h.2⟩)
  exact (pss_cons (ps_set (i := 4) sc_law_marks.nd rfl (Or.inl rfl) (pe_slice sl_list (zv 1) po_none (po_some (pe_callZ (ok_law_draw T) (hr.mono (by decide)) (fun z => nomatch z) rfl T.g_law_draw T.k_law_draw T.e_law_draw .nil (fun σ => passAt (takes_of rfl rfl rfl rfl) σ) (pa_cons (zv 0) (pa_cons pe_int pa_nil))))))
  (pss_cons (ps_if (PW.pt (pw_and (ptz_truth (zv 3) (by intro _; rfl)) (pw_and1 (ptz_cmp (op_zNeE hr.units) (zv 4) (pe_lst pa_nil) (nomark _)))))
  (pss_one (ps_expr (pe_bm PySem.F.plainAttrs_list PySem.F.slot_list_insert PySem.F.type_list_insert mt_insZ (zv 4) (pa_cons (pe_callZ (ok_law_draw T) (hr.mono (by decide)) (fun z => nomatch z) rfl T.g_law_draw T.k_law_draw T.e_law_draw .nil (fun σ => passAt (takes_of rfl rfl rfl rfl) σ) (pa_cons (zv 0) (pa_cons (pe_op op_zAdd (pe_callB call_lenZ (by rfl) T.b_len (by decide +kernel) (pa_cons (zv 4) pa_nil)) pe_int) pa_nil))) (pa_cons (pe_callZ (ok_law_of T) (hr.mono (by decide)) (fun z => nomatch z) rfl T.g_law_of T.k_law_of T.e_law_of .nil (fun σ => passAt (takes_of rfl rfl rfl rfl) σ) (pa_cons (zv 0) (pa_cons (zv 4) pa_nil))) pa_nil)))))
  pss_nil)
  (pss_cons (ps_if (ptz_truth (zv 2) (by intro _; rfl))
  (pss_cons (ps_set (i := 5) sc_law_marks.nd rfl (Or.inl rfl) (pe_callZ (ok_law_of T) (hr.mono (by decide)) (fun z => nomatch z) rfl T.g_law_of T.k_law_of T.e_law_of .nil (fun σ => passAt (takes_of rfl rfl rfl rfl) σ) (pa_cons (zv 0) (pa_cons (pe_lst (pa_cons pe_non (pa_cons pe_int (pa_cons pe_str (pa_cons pe_str (pa_cons pe_str (pa_cons (pe_lst pa_nil) (pa_cons (pe_tup (pa_cons pe_str pa_nil)) (pa_cons pe_bl (pa_cons pe_str (pa_cons pe_dnewK pa_nil))))))))))) pa_nil))))
  (pss_one (ps_expr (pe_bm PySem.F.plainAttrs_list PySem.F.slot_list_insert PySem.F.type_list_insert mt_insZ (zv 4) (pa_cons (pe_callZ (ok_law_draw T) (hr.mono (by decide)) (fun z => nomatch z) rfl T.g_law_draw T.k_law_draw T.e_law_draw .nil (fun σ => passAt (takes_of rfl rfl rfl rfl) σ) (pa_cons (zv 0) (pa_cons (pe_op op_zAdd (pe_callB call_lenZ (by rfl) T.b_len (by decide +kernel) (pa_cons (zv 4) pa_nil)) pe_int) pa_nil))) (pa_cons (zv 5) pa_nil))))))
  pss_nil)
  (pss_one (ps_ret (zv 4))))))
structure MksAt (K : PySem.W.Frag) (H0 : Hp) (p wa M : Addr) (ms : List V) (H : Hp) : Prop where
  dk : DeckAt H p wa
  bt : But p H0 H
  ls : H M = some (.lst ms)
  it : ∀ v ∈ ms, MkAt K (hid [p, M] H) v
section
variable {K : PySem.W.Frag} {mg : Str → Option Value} {g : Ads} {E : XK} {H0 H H' : Hp} {p wa M : Addr} {ms : List V}
theorem MksAt.but (G : MksAt K H0 p wa M ms H) (pM : M ≠ p) (b : But p H H') (d : DeckAt H' p wa) : MksAt K H0 p wa M ms H' := ⟨d, G.bt.trans b, b _ _ G.ls pM, fun q m => (G.it q m).same (hid_butS b (by simp))⟩
theorem MksAt.same (G : MksAt K H0 p wa M ms H) (s : Same H H') : MksAt K H0 p wa M ms H' := ⟨G.dk.same s, G.bt.trans (But.same s), s _ _ G.ls, fun q m => (G.it q m).same (hid_same fun c u e _ => s _ _ e)⟩
theorem MksAt.put (G : MksAt K H0 p wa M ms H) (nM : H0 M = none) (pM : M ≠ p) (wM : wa ≠ M) {v : V} (h : MkAt K (hid [p, M] H) v) (k : Nat) : MksAt K H0 p wa M (ms.take k ++ [v] ++ ms.drop k) (upd H M (.lst (ms.take k ++ [v] ++ ms.drop k))) := by
  refine ⟨G.dk.upd pM wM, G.bt.new nM, upd_same, fun z m => ?_⟩
  have hm : z ∈ ms ∨ z = v := by
    rcases List.mem_append.mp m with m | m
    · rcases List.mem_append.mp m with m | m
      · exact .inl (List.mem_of_mem_take m)
      · exact .inr (by simpa using m)
    · exact .inl (List.mem_of_mem_drop m)
  rcases hm with hm | rfl
  · exact (G.it z hm).same (hid_in (by simp))
  · exact h.same (hid_in (by simp))
theorem putv_len (v : V) (k : Nat) : (ms.take k ++ [v] ++ ms.drop k).length = ms.length + 1 := by
  rw [List.length_append, List.length_append, List.length_take, List.length_drop, List.length_singleton]
  omega
theorem ten_of {x a b c d e f h' i j' k : V} {j : Nat} (h : [a, b, c, d, e, f, h', i, j', k][j]? = some x) : x = a ∨ x = b ∨ x = c ∨ x = d ∨ x = e ∨ x = f ∨ x = h' ∨ x = i ∨ x = j' ∨ x = k := by
  have := List.mem_of_getElem? h
  simpa using this
theorem pf_law_marks (T : Txt K mg g) (vs : List V) (H : Hp) (Q : VK) (h : sp_law_marks K g vs H Q E) : rw_law_marks K g vs H Q E := by
  obtain ⟨p, wa, N, ns, io, iw, rfl, hd, hN, hns, ln, q⟩ := h
  have pN : N ≠ p := by simpa using (hid_of hN).1
  refine ⟨rfl, p, wa, 6, rfl, hd, by decide, by decide, fun r H1 r0 r1 d1 b1 => ⟨r, rfl, N, ns, rfl, SqL.of (b1 _ _ (hid_of hN).2 pN), fun M hM => ?_⟩⟩
  obtain ⟨k, rfl⟩ : ∃ k : Nat, r = k := ⟨r.toNat, by omega⟩
  rw [cut_take]
  have s2 := Same.put (o := .lst (ns.take k)) hM
  have e2 := upd_same (H := H1) (a := M) (o := .lst (ns.take k))
  have nM := but_none b1 d1 hM
  have pM : M ≠ p := d1.ne hM
  have wM : wa ≠ M := deck_wa d1 hM
  have d2 := d1.same s2
  have b2 := b1.trans (But.same s2)
  have hn2 : ∀ v ∈ ns, MkAt K (hid [p, M] (upd H1 M (.lst (ns.take k)))) v := fun v hv => (hns v hv).same fun b o e => by
    obtain ⟨z1, z2⟩ := hid_of e
    have nb : b ≠ p := by simpa using z1
    refine hid_at ?_ (b2 _ _ z2 nb)
    simp only [List.mem_cons, List.not_mem_nil, or_false, not_or]
    exact ⟨nb, ne_of_none z2 nM⟩
  show R_law_marks_2 K g E { nx := fun _ H' => Q .non H', rt := Q } [some (.ref p), some (.ref N), some (.bl io), some (.bl iw), some (.ref M), none] (upd H1 M (.lst (ns.take k)))
  generalize upd H1 M (.lst (ns.take k)) = H2 at s2 e2 d2 b2 hn2 ⊢
  have lk : (ns.take k).length ≤ 10 := by rw [List.length_take]; omega
  have G2 : MksAt K H p wa M (ns.take k) H2 := ⟨d2, b2, e2, fun v hv => hn2 v (List.mem_of_mem_take hv)⟩
  -- the end
  have end_ : ∀ (ms : List V) (H' : Hp), MksAt K H p wa M ms H' → ms.length ≤ 11 → R_law_marks_4 K g E { nx := fun _ H' => Q .non H', rt := Q } [some (.ref p), some (.ref N), some (.bl io), some (.bl iw), some (.ref M), none] H' := by
    intro ms H' G hl
    have ret : ∀ (ms : List V) (H' : Hp), MksAt K H p wa M ms H' → ms.length ≤ 20 → Q (.ref M) H' := fun ms H' G hl => q M ms H' G.dk G.bt nM (hid_put pM G.ls) (fun z m => (G.it z m).same fun b o e => by
      obtain ⟨e1, e2⟩ := hid_of e
      exact hid_at (fun m => e1 (by simp only [List.mem_singleton] at m; simp [m])) e2) hl
    cases io with
    | false => exact ret ms H' G (by omega)
    | true =>
      refine ⟨show 0 ≤ sizeLine by decide, fun l hl' => ?_⟩
      have t1 := Same.put (o := .lst []) hl'
      have f1 := upd_same (H := H') (a := l) (o := .lst [])
      generalize upd H' l (.lst []) = K1 at t1 f1
      refine ⟨show 1 ≤ sizeLine by decide, fun t ht => ?_⟩
      have t2 := Same.put (o := .tup [.str "a"]) ht
      have f2 := upd_same (H := K1) (a := t) (o := .tup [.str "a"])
      show ∀ d, (upd K1 t (.tup [.str "a"])) d = none → _
      generalize upd K1 t (.tup [.str "a"]) = K2 at t2 f2
      refine fun d hdd => ?_
      have t3 := Same.put (o := .dK []) hdd
      have f3 := upd_same (H := K2) (a := d) (o := .dK [])
      generalize upd K2 d (.dK []) = K3 at t3 f3
      refine ⟨show 10 ≤ sizeLine by decide, fun W hW => ?_⟩
      have t4 := Same.put (o := .lst [.non, .int 0, .str "", .str "A", .str "none", .ref l, .ref t, .bl true, .str "abcdefghi", .ref d]) hW
      have f4 := upd_same (H := K3) (a := W) (o := .lst [.non, .int 0, .str "", .str "A", .str "none", .ref l, .ref t, .bl true, .str "abcdefghi", .ref d])
      generalize upd K3 W (.lst [.non, .int 0, .str "", .str "A", .str "none", .ref l, .ref t, .bl true, .str "abcdefghi", .ref d]) = K4 at t4 f4
      have u3 : Same K2 K4 := t3.trans t4
      have u2 : Same K1 K4 := t2.trans u3
      have u1 : Same H' K4 := t1.trans u2
      have G4 := G.same u1
      refine ⟨p, wa, W, _, rfl, G4.dk, .inl (SqL.of f4), (G.dk.same ((t1.trans t2).trans t3)).ne hW, by simp, (show 10 ≤ 1000000 by decide), fun j x H5 hx d5 b5 => ?_⟩
      have G5 := G4.but pM b5 d5
      have nn : ∀ a, H' a = none → a ∉ [p, M] := fun a na => by
        simp only [List.mem_cons, List.not_mem_nil, or_false, not_or]
        exact ⟨G.dk.ne na, (ne_of_none G.ls na).symm⟩
      have f : ∀ {a : Addr} {o : HO}, K4 a = some o → H' a = none → hid [p, M] H5 a = some o := fun e na => hid_butS b5 (by simp) _ _ (hid_at (nn _ na) e)
      have lit : ∀ z ∈ (["", "A", "none", "abcdefghi"] : List Str), MkAt K (hid [p, M] H5) (.str z) := fun z hz => by
        obtain ⟨a1, a2, a3⟩ := lit_odd z hz
        exact ⟨_, th_str a1 a2 a3, .inr (.inr (.inr (.inl ⟨z, rfl⟩)))⟩
      have it : MkAt K (hid [p, M] H5) x := by
        rcases ten_of hx with rfl | rfl | rfl | rfl | rfl | rfl | rfl | rfl | rfl | rfl
        · exact ⟨_, th_non, .inl rfl⟩
        · exact ⟨_, th_int (by decide) (by decide), .inr (.inr (.inl ⟨_, rfl⟩))⟩
        · exact lit "" (by simp)
        · exact lit "A" (by simp)
        · exact lit "none" (by simp)
        · exact ⟨_, th_lst0 (f (u2 _ _ f1) hl'), smv_ref⟩
        · exact ⟨_, th_tup1 (f (u3 _ _ f2) (t1.free ht)) (.str "a") rfl fit_tup, smv_ref⟩
        · exact ⟨_, th_bl true, .inr (.inl ⟨_, rfl⟩)⟩
        · exact lit "abcdefghi" (by simp)
        · exact ⟨_, th_dic0 (f (t4 _ _ f3) ((t1.trans t2).free hdd)), smv_ref⟩
      refine ⟨.inl ⟨rfl, _, SqL.of G5.ls⟩, _, .inl (SqL.of G5.ls), p, wa, _, rfl, d5, by omega, by omega, fun k H6 k0 k1 d6 b6 => ?_⟩
      have G6 := G5.but pM b6 d6
      refine ⟨M, _, k, x, rfl, rfl, G6.ls, Nat.lt_of_le_of_lt hl (by decide), k0, by omega, ?_⟩
      exact ret _ _ (G6.put nM pM wM (it.same (hid_butS b6 (by simp))) k.toNat) (by rw [putv_len]; omega)
  cases iw with
  | false => exact end_ _ _ G2 (by omega)
  | true =>
    refine ⟨show 0 ≤ sizeLine by decide, fun W hW => .inl ⟨M, W, _, rfl, rfl, SqL.of ((Same.put hW) _ _ e2), SqL.of upd_same, ?_⟩⟩
    have G3 := G2.same (Same.put (o := .lst []) hW)
    cases ek : ns.take k with
    | nil =>
      rw [ek] at G3
      exact end_ _ _ G3 (by simp)
    | cons x0 xr =>
      rw [ek] at G3 lk
      refine ⟨.inl ⟨rfl, _, SqL.of G3.ls⟩, _, .inl (SqL.of G3.ls), p, wa, _, rfl, G3.dk, by omega, by omega, fun j H4 k0 k1 d4 b4 => ?_⟩
      have G4 := G3.but pM b4 d4
      refine ⟨p, wa, M, _, rfl, d4, .inl (SqL.of G4.ls), pM, by simp, by omega, fun i x H5 hx d5 b5 => ?_⟩
      have G5 := G4.but pM b5 d5
      refine ⟨M, _, j, x, rfl, rfl, G5.ls, Nat.lt_of_le_of_lt lk (by decide), k0, by omega, ?_⟩
      exact end_ _ _ (G5.put nM pM wM (G5.it x (List.mem_of_getElem? hx)) j.toNat) (by rw [putv_len]; omega)
end
theorem ok_law_marks {P : Program} [SupP P] {w : World} {K : PySem.W.Frag} {mg : Str → Option Value} {base : Heap} {g : Ads} (T : Txt K mg g) : FnG false P w K mg base 3 g.f_law_marks g.d_law_marks ["deck", "names", "is_odd", "is_twice"] (sp_law_marks K g) := (raw_law_marks T).imp fun vs H Q E h => pf_law_marks T vs H Q h
end Z
namespace Z
open PySem PySem.Spec PyProof.Rows L2
/-! ### what comes of the parts, and what is due -/
def flOf (its : List (V × Option Tr)) : List Bool := its.map fun q => q.2.isNone
def tsOf (its : List (V × Option Tr)) : List Tr := its.filterMap fun q => q.2
theorem its_all {K : PySem.W.Frag} {g : Ads} {H : Hp} : ∀ {its : List (V × Option Tr)}, (∀ q ∈ its, ItAt K g H q) → firstT (flOf its) = none →
    its.map (·.1) = (tsOf its).map Tr.v ∧ TrsAt K g H (tsOf its) ∧ dpt (tsOf its) ≤ 7 ∧ (inns (tsOf its)).length ≤ 13 * its.length ∧ (tsOf its).length = its.length
  | [], _, _ => by simp [tsOf, TrsAt, dpt, inns]
  | (v, o) :: r, h, f => by
    have hf := List.findIdx?_eq_none_iff.mp f
    have h0 := h (v, o) List.mem_cons_self
    cases o with
    | none => exact absurd (hf true (by simp [flOf])) (by decide)
    | some t =>
      obtain ⟨e, h1, h2, h3⟩ := h0
      have fr : firstT (flOf r) = none := List.findIdx?_eq_none_iff.mpr fun b hb => hf b (by
        simp only [flOf, List.map_cons, List.mem_cons]
        exact .inr hb)
      obtain ⟨a1, a2, a3, a4, a5⟩ := its_all (fun q m => h q (List.mem_cons_of_mem _ m)) fr
      have e : v = t.v := e
      have ets : tsOf ((v, some t) :: r) = t :: tsOf r := rfl
      rw [ets]
      refine ⟨by simp only [List.map_cons]; rw [a1, e], by simp only [TrsAt]; exact ⟨h1, a2⟩, ?_, ?_, by simp [a5]⟩
      · simp only [dpt]; omega
      · simp only [inns, List.length_append, List.length_cons]; omega
theorem its_thg {K : PySem.W.Frag} {mg : Str → Option Value} {g : Ads} {H : Hp} (T : Txt K mg g) : ∀ {its : List (V × Option Tr)}, (∀ q ∈ its, ItAt K g H q) → Paired (Thg K g H) (its.map (·.1)) (flOf its) ∧ Paired (Thg4 K g H) (its.map (·.1)) (flOf its)
  | [], _ => ⟨.nil, .nil⟩
  | (v, o) :: r, h => by
    obtain ⟨a1, a2⟩ := its_thg T (fun q m => h q (List.mem_cons_of_mem _ m))
    have h0 := h (v, o) List.mem_cons_self
    cases o with
    | none => exact ⟨.cons h0.1 a1, .cons h0.2.1 a2⟩
    | some t =>
      obtain ⟨e, h1, _⟩ := h0
      have e : v = t.v := e
      subst e
      exact ⟨.cons (thg_tr T h1) a1, .cons (thg4_tr T h1) a2⟩
theorem its_sm {K : PySem.W.Frag} {g : Ads} {H : Hp} {its : List (V × Option Tr)} (h : ∀ q ∈ its, ItAt K g H q) : ∀ v ∈ its.map (·.1), SmV v := fun v hv => by
  obtain ⟨⟨w, o⟩, m, rfl⟩ := List.mem_map.mp hv
  have h0 := h _ m
  cases o with
  | none => exact h0.2.2
  | some t =>
    have e : w = t.v := h0.1
    show SmV w
    rw [e]
    exact tr_sm h0.2.1
theorem its_rows {K : PySem.W.Frag} {mg : Str → Option Value} {g : Ads} {H : Hp} (T : Txt K mg g) {its : List (V × Option Tr)} {ps : List V} (h : ∀ q ∈ its, ItAt K g H q) (l : its.length ≤ 30) (hp : ∀ v ∈ ps, MkAt K H v) (lp : ps.length ≤ 20) : HRows K g H (its.map (·.1)) (flOf its) ps (tsOf its) :=
  ⟨by rw [List.length_map]; omega, (its_thg T h).1, by omega, fun v hv => (hp v hv).elim fun d t => t.1.kn, fun f => by
    obtain ⟨a1, a2, a3, a4, a5⟩ := its_all h f
    exact ⟨a1, a2, by omega, by omega⟩⟩
def resL (nm : V) : HO5 → List V
  | .bn v => [.str "BadName", v]
  | .bs j => [.str "BadStep", .int (j : Nat)]
  | .tw z => [.str "Twice", .str z]
  | .tm n => [.str "TooMany", .int n]
  | .ok => [.str "made", nm]
def sp_law_told (K : PySem.W.Frag) (g : Ads) : Sp := fun as H Q E => ∃ (nm : V) (l tp : Addr) (vs : List V) (fl : List Bool) (ps : List V) (ts : List Tr), as = [nm, .ref l, .ref tp] ∧ Knd K H nm ∧ Sq K H l vs ∧ Sq K H tp ps ∧ HRows K g H vs fl ps ts ∧
  ∀ r H', Same H H' → H' r = some (.lst (resL nm (hndO nm fl ps ts))) → Q (.ref r) H'
theorem sc_law_told : FnScope ["name", "steps", "marks", "made", "e"] ["name", "steps", "marks"] (defScope s_law_told) := ⟨rfl, rfl, rfl, by decide +kernel, rfl, by decide +kernel, by decide +kernel⟩
def R_law_told_11 (K : PySem.W.Frag) (g : Ads) (E : XK) : TS :=
  (tRet (tLst (tCons (tC (.str "made")) (tCons (tFld K (zVar 3) "name") tNil))))
def R_law_told (K : PySem.W.Frag) (g : Ads) (E : XK) : TS :=
  (tSeq (fun D σ H => (fun W => (tAsg (zCMethK g.c_Handler 2 1 (sp_Handler_made K g) (fun us ws => us ++ ws) (WE W) (tC (.ref g.c_Handler)) (tCons (zVar 0) (tCons (zVar 1) tNil)) (tCons (zVar 2) tNil)) (gName 3))) (wAsVs K [(.ref g.c_BadName, 4, (tRet (tLst (tCons (tC (.str "BadName")) (tCons (tXv g.c_BadName "name" (zVar 4)) tNil))))), (.ref g.c_BadStep, 4, (tRet (tLst (tCons (tC (.str "BadStep")) (tCons (tXv g.c_BadStep "index" (zVar 4)) tNil))))), (.ref g.c_Twice, 4, (tRet (tLst (tCons (tC (.str "Twice")) (tCons (tXv g.c_Twice "name" (zVar 4)) tNil))))), (.ref g.c_TooMany, 4, (tRet (tLst (tCons (tC (.str "TooMany")) (tCons (tXv g.c_TooMany "limit" (zVar 4)) tNil)))))] D) D σ H)
  (R_law_told_11 K g E))
def rw_law_told (K : PySem.W.Frag) (g : Ads) : Sp := fun vs H Q E => vs.length = 3 ∧ R_law_told K g E { nx := fun _ H' => Q .non H', rt := Q } (start ["name", "steps", "marks", "made", "e"] vs) H
theorem raw_law_told {P : Program} [SupP P] {w : World} {K : PySem.W.Frag} {mg : Str → Option Value} {base : Heap} {g : Ads} (T : Txt K mg g) : FnG false P w K mg base 15 g.f_law_told g.d_law_told ["name", "steps", "marks"] (rw_law_told K g) := by
  refine okZ T.f_law_told sc_law_told (fun vs H Q E h => h.1) (fun cdv A outer s H vs Q E hr hgu h => ⟨R_law_told K g E, ?_, h.2⟩)
  exact (pss_cons (ps_try_asVs (tb := fun W => (tAsg (zCMethK g.c_Handler 2 1 (sp_Handler_made K g) (fun us ws => us ++ ws) (WE W) (tC (.ref g.c_Handler)) (tCons (zVar 0) (tCons (zVar 1) tNil)) (tCons (zVar 2) tNil)) (gName 3))) (cs := [(.ref g.c_BadName, 4, (tRet (tLst (tCons (tC (.str "BadName")) (tCons (tXv g.c_BadName "name" (zVar 4)) tNil))))), (.ref g.c_BadStep, 4, (tRet (tLst (tCons (tC (.str "BadStep")) (tCons (tXv g.c_BadStep "index" (zVar 4)) tNil))))), (.ref g.c_Twice, 4, (tRet (tLst (tCons (tC (.str "Twice")) (tCons (tXv g.c_Twice "name" (zVar 4)) tNil))))), (.ref g.c_TooMany, 4, (tRet (tLst (tCons (tC (.str "TooMany")) (tCons (tXv g.c_TooMany "limit" (zVar 4)) tNil)))))]) rfl rfl sc_law_told.nd
  (fun W pn xe tk po => (pss_one (ps_set (i := 3) sc_law_told.nd rfl (Or.inl rfl) (pe_cmethK (ks := ["params"]) (pe_glob rfl T.g_Handler rfl) T.cr_Handler T.cm_Handler_made (ok_Handler_made T) (hr.mono (by decide)) (fun z => nomatch z) T.kc_0 (fun σ => passAt tk σ) (pa_cons (zv 0) (pa_cons (zv 1) pa_nil)) (pk_cons (zv 2) pk_nil)))))
  (.cons rfl rfl ⟨rfl, by decide, Or.inl T.g_BadName⟩ (fun a pn => (pss_one (ps_ret (pe_lst (pa_cons pe_str (pa_cons (pe_xv T.xv_BadName T.a_BadName_name (zv 4)) pa_nil))))))
  (.cons rfl rfl ⟨rfl, by decide, Or.inl T.g_BadStep⟩ (fun a pn => (pss_one (ps_ret (pe_lst (pa_cons pe_str (pa_cons (pe_xv T.xv_BadStep T.a_BadStep_index (zv 4)) pa_nil))))))
  (.cons rfl rfl ⟨rfl, by decide, Or.inl T.g_Twice⟩ (fun a pn => (pss_one (ps_ret (pe_lst (pa_cons pe_str (pa_cons (pe_xv T.xv_Twice T.a_Twice_name (zv 4)) pa_nil))))))
  (.cons rfl rfl ⟨rfl, by decide, Or.inl T.g_TooMany⟩ (fun a pn => (pss_one (ps_ret (pe_lst (pa_cons pe_str (pa_cons (pe_xv T.xv_TooMany T.a_TooMany_limit (zv 4)) pa_nil))))))
  .nil)))) (by simp))
  (pss_one (ps_ret (pe_lst (pa_cons pe_str (pa_cons (pe_fld (zv 3) rfl) pa_nil))))))
theorem look1 (f : Str) (v : V) : [(f, v)].lookup f = some v := by simp [List.lookup]
theorem pf_law_told {K : PySem.W.Frag} {mg : Str → Option Value} {g : Ads} (T : Txt K mg g) (as : List V) (H : Hp) (Q : VK) (E : XK) (h : sp_law_told K g as H Q E) : rw_law_told K g as H Q E := by
  obtain ⟨nm, l, tp, vs, fl, ps, ts, rfl, kn, hl, hp, hr, q⟩ := h
  refine ⟨rfl, ?_⟩
  have xa : ∀ {H' : Hp} {a dd C : Addr} {f : Str} {v : V}, H' a = none → H' dd = some (.xd [(f, v)]) → ExA (upd H' a (ExV (.ref C) (some dd) a)) a C [(f, v)] := fun ha ex => ⟨_, upd_same, by rw [upd_ne (ne_of_none ex ha)]; exact ex⟩
  refine ⟨rfl, rfl, rfl, nm, l, tp, vs, rfl, hl, fl, ps, ts, kn, hp, hr, fun C f v e H' dd s hdd ex => ?_, fun eo o H' s hn at_ => ?_⟩
  · cases er : hndO nm fl ps ts with
    | bn u =>
      rw [er] at e q
      cases e
      refine .inl ⟨T.h_BadName, fun a ha => ?_⟩
      exact ⟨a, _, _, rfl, xa ha ex, look1 _ _, (show 2 ≤ sizeLine by decide), fun r hr => q r _ ((s.trans (Same.put ha)).trans (Same.put hr)) upd_same⟩
    | bs j =>
      rw [er] at e q
      cases e
      refine .inr ⟨T.hx_BadStep_BadName, .inl ⟨T.h_BadStep, fun a ha => ?_⟩⟩
      exact ⟨a, _, _, rfl, xa ha ex, look1 _ _, (show 2 ≤ sizeLine by decide), fun r hr => q r _ ((s.trans (Same.put ha)).trans (Same.put hr)) upd_same⟩
    | tw z =>
      rw [er] at e q
      cases e
      refine .inr ⟨T.hx_Twice_BadName, .inr ⟨T.hx_Twice_BadStep, .inl ⟨T.h_Twice, fun a ha => ?_⟩⟩⟩
      exact ⟨a, _, _, rfl, xa ha ex, look1 _ _, (show 2 ≤ sizeLine by decide), fun r hr => q r _ ((s.trans (Same.put ha)).trans (Same.put hr)) upd_same⟩
    | tm n =>
      rw [er] at e q
      cases e
      refine .inr ⟨T.hx_TooMany_BadName, .inr ⟨T.hx_TooMany_BadStep, .inr ⟨T.hx_TooMany_Twice, .inl ⟨T.h_TooMany, fun a ha => ?_⟩⟩⟩⟩
      exact ⟨a, _, _, rfl, xa ha ex, look1 _ _, (show 2 ≤ sizeLine by decide), fun r hr => q r _ ((s.trans (Same.put ha)).trans (Same.put hr)) upd_same⟩
    | ok =>
      rw [er] at e
      cases e
  · rw [eo] at q
    obtain ⟨dx, tp', sp, st, e, _⟩ := at_
    exact ⟨o, _, dx, _, _, rfl, e, T.cl_Handler, T.na_Handler_name, rfl, (show 2 ≤ sizeLine by decide), fun r hr => q r _ (s.trans (Same.put hr)) upd_same⟩
theorem ok_law_told {P : Program} [SupP P] {w : World} {K : PySem.W.Frag} {mg : Str → Option Value} {base : Heap} {g : Ads} (T : Txt K mg g) : FnG false P w K mg base 15 g.f_law_told g.d_law_told ["name", "steps", "marks"] (sp_law_told K g) := (raw_law_told T).imp (pf_law_told T)
end Z
namespace Z
open PySem PySem.Spec PyProof.Rows L2
def sp_law_due (K : PySem.W.Frag) (g : Ads) : Sp := fun as H Q E => ∃ (nm : V) (d : PyData) (l M : Addr) (its : List (V × Option Tr)) (ps : List V), as = [nm, .ref l, .ref M] ∧ Thing K H nm d ∧ SqL K H l (its.map (·.1)) ∧ SqL K H M ps ∧ (∀ q ∈ its, ItAt K g H q) ∧ its.length ≤ 30 ∧
  (∀ v ∈ ps, MkAt K H v) ∧ ps.length ≤ 20 ∧ ∀ r H', Same H H' → H' r = some (.lst (resL nm (hndO nm (flOf its) ps (tsOf its)))) → Q (.ref r) H'
theorem sc_law_due : FnScope ["name", "steps", "marks", "k", "step", "one", "sizes", "row"] ["name", "steps", "marks"] (defScope s_law_due) := ⟨rfl, rfl, rfl, by decide +kernel, rfl, by decide +kernel, by decide +kernel⟩
def R_law_due_2 (K : PySem.W.Frag) (g : Ads) (E : XK) : TS :=
  (tRet (tLst (tCons (tC (.str "BadName")) (tCons (zVar 0) tNil))))
def R_law_due_5 (K : PySem.W.Frag) (g : Ads) (E : XK) : TS :=
  (tRet (tLst (tCons (tC (.str "BadStep")) (tCons (zVar 3) tNil))))
def R_law_due_4 (K : PySem.W.Frag) (g : Ads) (E : XK) : TS :=
  (tIfS (tNot (zTru K (tCB (rIsiT K) (tCons (zVar 4) (tCons (tTup (tCons (tC (.ref g.c_Refuse)) (tCons (tC (.ref g.c_Let)) (tCons (tC (.ref g.c_Attempt)) (tCons (tC (.ref g.c_When)) tNil))))) tNil)))))
  (R_law_due_5 K g E)
  tNext)
def R_law_due_8 (K : PySem.W.Frag) (g : Ads) (E : XK) : TS :=
  (tRet (tLst (tCons (tC (.str "BadName")) (tCons (zVar 5) tNil))))
def R_law_due_7 (K : PySem.W.Frag) (g : Ads) (E : XK) : TS :=
  (tIfS (tNot (zTru K (zCall (sp_law_is_name K g) [] (WE (fun cls d _ H => E cls d H)) (tCons (zVar 5) tNil))))
  (R_law_due_8 K g E)
  tNext)
def R_law_due_11 (K : PySem.W.Frag) (g : Ads) (E : XK) : TS :=
  (tRet (tLst (tCons (tC (.str "Twice")) (tCons (zVar 5) tNil))))
def R_law_due_10 (K : PySem.W.Frag) (g : Ads) (E : XK) : TS :=
  (tIfS (zTest (tOp (zIn K) (zVar 5) (tSl (rSlL K) (zVar 2) tNoPart (tPart (zVar 3)))))
  (R_law_due_11 K g E)
  tNext)
def R_law_due_14 (K : PySem.W.Frag) (g : Ads) (E : XK) : TS :=
  (tRet (tLst (tCons (tC (.str "TooMany")) (tCons (tC (.int 16)) tNil))))
def R_law_due_16 (K : PySem.W.Frag) (g : Ads) (E : XK) : TS :=
  (tRet (tLst (tCons (tC (.str "TooMany")) (tCons (tC (.int 4)) tNil))))
def R_law_due_17 (K : PySem.W.Frag) (g : Ads) (E : XK) : TS :=
  (tRet (tIf (zTest (tOp zGt (tCB (zLen K) (tCons (zVar 2) tNil)) (tC (.int 3)))) (tLst (tCons (tC (.str "TooMany")) (tCons (tC (.int 3)) tNil))) (tLst (tCons (tC (.str "made")) (tCons (zVar 0) tNil)))))
def R_law_due_15 (K : PySem.W.Frag) (g : Ads) (E : XK) : TS :=
  (tSeq (tIfS (zTest (tOp zGt (tCB (rMax K) (tCons (tOp zAdd (tLst (tCons (zNeg (tC (.int 1))) tNil)) (zLc (iList K (zVar 6)) (gName 7) tYes (tOp (zIx K) (zVar 7) (tC (.int 1))) [7])) tNil)) (tC (.int 4))))
  (R_law_due_16 K g E)
  tNext)
  (R_law_due_17 K g E))
def R_law_due_13 (K : PySem.W.Frag) (g : Ads) (E : XK) : TS :=
  (tSeq (tIfS (zTest (tOp zGt (tCB (rSum K) (tCons (zLc (iList K (zVar 6)) (gName 7) tYes (tOp (zIx K) (zVar 7) (tC (.int 0))) [7]) tNil)) (tC (.int 16))))
  (R_law_due_14 K g E)
  tNext)
  (R_law_due_15 K g E))
def R_law_due_12 (K : PySem.W.Frag) (g : Ads) (E : XK) : TS :=
  (tSeq (tAsg (zLc (iList K (zVar 1)) (gName 4) tYes (zCall (sp_law_inside K g) [] (fun _ => E0) (tCons (zVar 4) tNil)) [4]) (gName 6))
  (R_law_due_13 K g E))
def R_law_due_9 (K : PySem.W.Frag) (g : Ads) (E : XK) : TS :=
  (tSeq (zFor (zEnum K (tCons (zVar 2) tNil)) (gTup K 2 (gCons (gName 3) (gCons (gName 5) gNil)))
  (R_law_due_10 K g E))
  (R_law_due_12 K g E))
def R_law_due_6 (K : PySem.W.Frag) (g : Ads) (E : XK) : TS :=
  (tSeq (zFor (iList K (zVar 2)) (gName 5)
  (R_law_due_7 K g E))
  (R_law_due_9 K g E))
def R_law_due_3 (K : PySem.W.Frag) (g : Ads) (E : XK) : TS :=
  (tSeq (zFor (zEnum K (tCons (zVar 1) tNil)) (gTup K 2 (gCons (gName 3) (gCons (gName 4) gNil)))
  (R_law_due_4 K g E))
  (R_law_due_6 K g E))
def R_law_due (K : PySem.W.Frag) (g : Ads) (E : XK) : TS :=
  (tSeq (tIfS (tNot (zTru K (zCall (sp_law_is_name K g) [] (WE (fun cls d _ H => E cls d H)) (tCons (zVar 0) tNil))))
  (R_law_due_2 K g E)
  tNext)
  (R_law_due_3 K g E))
def rw_law_due (K : PySem.W.Frag) (g : Ads) : Sp := fun vs H Q E => vs.length = 3 ∧ R_law_due K g E { nx := fun _ H' => Q .non H', rt := Q } (start ["name", "steps", "marks", "k", "step", "one", "sizes", "row"] vs) H
theorem raw_law_due {P : Program} [SupP P] {w : World} {K : PySem.W.Frag} {mg : Str → Option Value} {base : Heap} {g : Ads} (T : Txt K mg g) : FnG false P w K mg base 10 g.f_law_due g.d_law_due ["name", "steps", "marks"] (rw_law_due K g) := by
  refine okZ T.f_law_due sc_law_due (fun vs H Q E h => h.1) (fun cdv A outer s H vs Q E hr hgu h => ⟨R_law_due K g E, ?_, h.2⟩)
  exact (pss_cons (ps_if (pt_not (ptz_truth (pe_callZ (ok_law_is_name T) (hr.mono (by decide)) (fun z => nomatch z) rfl T.g_law_is_name T.k_law_is_name T.e_law_is_name .nil (fun σ => passAt (takes_of rfl rfl rfl rfl) σ) (pa_cons (zv 0) pa_nil)) (by intro _; rfl)))
  (pss_one (ps_ret (pe_lst (pa_cons pe_str (pa_cons (zv 0) pa_nil)))))
  pss_nil)
  (pss_cons (psz_for PassesOwn.leaving rfl (pi_zEnum (by rfl) T.b_enumerate (pa_cons (zv 1) pa_nil)) (pg_tup rfl (pgs_cons (pg_name (i := 3) sc_law_due.nd rfl (Or.inl rfl)) (pgs_cons (pg_name (i := 4) sc_law_due.nd rfl (Or.inl rfl)) pgs_nil)))
  (pss_one (ps_if (pt_not (ptz_truth (pe_callB call_isiT (by rfl) T.b_isinstance (by decide +kernel) (pa_cons (zv 4) (pa_cons (pe_tup (pa_cons (pe_glob rfl T.g_Refuse rfl) (pa_cons (pe_glob rfl T.g_Let rfl) (pa_cons (pe_glob rfl T.g_Attempt rfl) (pa_cons (pe_glob rfl T.g_When rfl) pa_nil))))) pa_nil))) (by intro _; rfl)))
  (pss_one (ps_ret (pe_lst (pa_cons pe_str (pa_cons (zv 3) pa_nil)))))
  pss_nil)))
  (pss_cons (psz_for PassesOwn.leaving rfl (pi_list (zv 2)) (pg_name (i := 5) sc_law_due.nd rfl (Or.inl rfl))
  (pss_one (ps_if (pt_not (ptz_truth (pe_callZ (ok_law_is_name T) (hr.mono (by decide)) (fun z => nomatch z) rfl T.g_law_is_name T.k_law_is_name T.e_law_is_name .nil (fun σ => passAt (takes_of rfl rfl rfl rfl) σ) (pa_cons (zv 5) pa_nil)) (by intro _; rfl)))
  (pss_one (ps_ret (pe_lst (pa_cons pe_str (pa_cons (zv 5) pa_nil)))))
  pss_nil)))
  (pss_cons (psz_for PassesOwn.leaving rfl (pi_zEnum (by rfl) T.b_enumerate (pa_cons (zv 2) pa_nil)) (pg_tup rfl (pgs_cons (pg_name (i := 3) sc_law_due.nd rfl (Or.inl rfl)) (pgs_cons (pg_name (i := 5) sc_law_due.nd rfl (Or.inl rfl)) pgs_nil)))
  (pss_one (ps_if (ptz_cmp op_zIn (zv 5) (pe_slice sl_list (zv 2) po_none (po_some (zv 3))) (by rfl))
  (pss_one (ps_ret (pe_lst (pa_cons pe_str (pa_cons (zv 5) pa_nil)))))
  pss_nil)))
  (pss_cons (psz_setLc (i := 6) (own := [("step", 4)]) rfl sc_law_due.nd rfl rfl (sw_true rfl rfl rfl (by decide +kernel)) (pi_list (zv 1)) (blkOk_by (own := [("step", 4)]) (N := ["name", "steps", "marks", "k", "step", "one", "sizes", "row"]) (sc := defScope s_law_due) (by decide +kernel)) (fun _ _ _ _ _ => pg_name (i := 4) sc_law_due.nd rfl (Or.inl rfl)) (fun _ _ _ _ _ => pts_nil) (fun _ _ _ _ _ => (pe_callZ (ok_law_inside T) (hr.mono (by decide)) (fun z => nomatch z) rfl T.g_law_inside T.k_law_inside T.e_law_inside .nil passE0 (pa_cons (zv 4) pa_nil))))
  (pss_cons (ps_if (ptz_cmp op_zGt (pe_callB (cr_sum rfl) (by rfl) T.b_sum (by decide +kernel) (pa_cons (pez_lc (own := [("row", 7)]) rfl sc_law_due.nd (pi_list (zv 6)) (blkOk_by (own := [("row", 7)]) (N := ["name", "steps", "marks", "k", "step", "one", "sizes", "row"]) (sc := defScope s_law_due) (by decide +kernel)) (fun _ _ _ _ _ => pg_name (i := 7) sc_law_due.nd rfl (Or.inl rfl)) (fun _ _ _ _ _ => pts_nil) (fun _ _ _ _ _ => (pe_ix ix_z (zv 7) pe_int (fun _ _ => rfl)))) pa_nil)) pe_int (nomark _))
  (pss_one (ps_ret (pe_lst (pa_cons pe_str (pa_cons pe_int pa_nil)))))
  pss_nil)
  (pss_cons (ps_if (ptz_cmp op_zGt (pe_callB (cr_max rfl) (by rfl) T.b_max (by decide +kernel) (pa_cons (pe_op op_zAdd (pe_lst (pa_cons (pez_neg pe_int) pa_nil)) (pez_lc (own := [("row", 7)]) rfl sc_law_due.nd (pi_list (zv 6)) (blkOk_by (own := [("row", 7)]) (N := ["name", "steps", "marks", "k", "step", "one", "sizes", "row"]) (sc := defScope s_law_due) (by decide +kernel)) (fun _ _ _ _ _ => pg_name (i := 7) sc_law_due.nd rfl (Or.inl rfl)) (fun _ _ _ _ _ => pts_nil) (fun _ _ _ _ _ => (pe_ix ix_z (zv 7) pe_int (fun _ _ => rfl))))) pa_nil)) pe_int (nomark _))
  (pss_one (ps_ret (pe_lst (pa_cons pe_str (pa_cons pe_int pa_nil)))))
  pss_nil)
  (pss_one (ps_ret (pe_ifExp (ptz_cmp op_zGt (pe_callB call_lenZ (by rfl) T.b_len (by decide +kernel) (pa_cons (zv 2) pa_nil)) pe_int (nomark _)) (pe_lst (pa_cons pe_str (pa_cons pe_int pa_nil))) (pe_lst (pa_cons pe_str (pa_cons (zv 0) pa_nil)))))))))))))
section
variable {K : PySem.W.Frag} {mg : Str → Option Value} {g : Ads} {E : XK} {Q : VK} {H : Hp} {nm : V} {l M : Addr} {its : List (V × Option Tr)} {ps : List V}
/-- behind the checks of names: how many, how deep -/
theorem due12 (T : Txt K mg g) (n1 : isNameV nm = true) (ft : firstT (flOf its) = none) (nn : notName ps = none) (dn : dupOf (ps.map strOf) = none) (hl : SqL K H l (its.map (·.1))) (hM : SqL K H M ps) (hi : ∀ q ∈ its, ItAt K g H q) (ln : its.length ≤ 30)
    (q : ∀ r H', Same H H' → H' r = some (.lst (resL nm (hndO nm (flOf its) ps (tsOf its)))) → Q (.ref r) H') {v3 v4 v5 : Option V} :
    R_law_due_12 K g E { nx := fun _ H' => Q .non H', rt := Q } [some nm, some (.ref l), some (.ref M), v3, v4, v5, none, none] H := by
  obtain ⟨a1, a2, a3, a4, a5⟩ := its_all hi ft
  generalize hts : tsOf its = ts at a1 a2 a3 a4 a5 q
  rw [a1] at hl
  have lts : ts.length ≤ 30 := by omega
  refine ⟨l, rfl, ⟨_, hl⟩, lc_z (walk_list (xs := ts.map Tr.v)) (fun D i H' => Same H H' ∧ PrsAt H' D (ts.take i)) (fun D hD => ⟨Same.put hD, [], upd_same, .nil⟩) (fun D i H' _ _ h => h.1.seq hl) ?_ ?_⟩
  · rintro D i x H3 H4 hD hi3 ⟨s3, ls, e3, pr⟩ ⟨rfl, hx⟩
    obtain ⟨t, hti, htm, rfl⟩ := tr_get hx
    have hdt := dpt_mem htm
    refine ⟨rfl, t, rfl, TrAt.same s3 t (a2.mem t htm), by omega, fun r H5 s5 n5 e5 => ⟨_, s5 _ _ e3, ?_, same_new hD (s3.trans s5), ls ++ [r], ?_, ?_⟩⟩
    · rw [List.length_map, paired_len pr, List.length_take]
      exact Nat.lt_of_le_of_lt (show min i ts.length ≤ 30 by omega) (by decide)
    · rw [upd_same, List.map_append]
      rfl
    · have nd : ∀ {l' : Addr} {xs : List V}, H5 l' = some (.lst xs) → l' ≠ D → (upd H5 D (.lst (ls.map V.ref ++ [.ref r]))) l' = some (.lst xs) := fun e n => by rw [upd_ne n]; exact e
      rw [List.take_add_one, hti]
      refine paired_app (paired_imp pr fun l' t' e => nd (s5 _ _ e) ?_) (.cons (nd e5 (ne_of_none e3 n5).symm) .nil)
      intro z
      subst z
      rw [e3] at e
      unfold insV at e
      injection e with e
      injection e with e
      cases ls with
      | nil => cases e
      | cons _ _ => cases e
  rintro D H3 hD ⟨s3, hp⟩
  rw [List.length_map, List.take_length] at hp
  obtain ⟨ls, eD, pr⟩ := id hp
  show R_law_due_13 K g E { nx := fun _ H' => Q .non H', rt := Q } [some nm, some (.ref l), some (.ref M), v3, v4, v5, some (.ref D), none] H3
  refine ⟨D, rfl, ⟨_, SqL.of eD⟩, lc_pairs (f := fun t => ((t.inn.length : Nat) : Int)) (j := 0) hp (by omega) (fun t => rfl) (fun x => rfl) (fun x => rfl) fun A H4 s4 n4 e4 => ?_⟩
  refine ⟨A, _, rfl, SqL.of e4, ?_⟩
  rw [sum_cnt]
  refine zite (fun hm => ?_) (fun hm => ?_)
  · have h16 : 16 < (inns ts).length := by
      have := of_decide_eq_true hm
      omega
    refine ⟨show 2 ≤ sizeLine by decide, fun r hr => q r _ ((s3.trans s4).trans (Same.put hr)) ?_⟩
    rw [upd_same]
    simp [hndO, n1, ft, nn, dn, h16, resL]
  have h16 : ¬ 16 < (inns ts).length := by
    have := of_decide_eq_false hm
    omega
  refine ⟨show 1 ≤ sizeLine by decide, fun W hW => ?_⟩
  have s5 := Same.put (o := .lst [.int (-1)]) hW
  have e5 := upd_same (H := H4) (a := W) (o := .lst [.int (-1)])
  show ∃ a', V.ref D = .ref a' ∧ _
  generalize upd H4 W (.lst [.int (-1)]) = H5 at s5 e5
  refine ⟨D, rfl, ⟨_, SqL.of ((s4.trans s5) _ _ eD)⟩, lc_pairs (f := fun t => ((t.dep : Nat) : Int)) (j := 1) (hp.same (s4.trans s5)) (by omega) (fun t => rfl) (fun x => rfl) (fun x => rfl) fun B H6 s6 n6 e6 => ?_⟩
  refine ⟨_, _, s6 _ _ e5, e6, ?_, fun U hU => ?_⟩
  · rw [List.length_map, List.length_map]
    exact Nat.le_trans (show 1 + ts.length ≤ 31 by omega) (by decide)
  have s7 := s6.trans (Same.put (o := .lst ([.int (-1)] ++ (ts.map fun t => ((t.dep : Nat) : Int)).map V.int)) hU)
  have s37 : Same H _ := ((s3.trans s4).trans s5).trans s7
  refine ⟨U, (-1 : Int) :: ts.map fun t => ((t.dep : Nat) : Int), rfl, SqL.of (by rw [upd_same]; rfl), by simp, fun m hm' hy => ?_⟩
  have em := int_max hm' hy
  refine zite (fun hm => ?_) (fun hm => ?_)
  · have h5 : 5 < dpt ts := by
      have := of_decide_eq_true hm
      omega
    refine ⟨show 2 ≤ sizeLine by decide, fun r hr => q r _ (s37.trans (Same.put hr)) ?_⟩
    rw [upd_same]
    simp [hndO, n1, ft, nn, dn, h16, h5, resL]
  have h5 : ¬ 5 < dpt ts := by
    have := of_decide_eq_false hm
    omega
  refine ⟨ps, .inl (s37.seq hM), zite (fun hm => ?_) (fun hm => ?_)⟩
  · have h3 : 3 < ps.length := by
      have := of_decide_eq_true hm
      omega
    refine ⟨show 2 ≤ sizeLine by decide, fun r hr => q r _ (s37.trans (Same.put hr)) ?_⟩
    rw [upd_same]
    simp [hndO, n1, ft, nn, dn, h16, h5, h3, resL]
  · have h3 : ¬ 3 < ps.length := by
      have := of_decide_eq_false hm
      omega
    refine ⟨show 2 ≤ sizeLine by decide, fun r hr => q r _ (s37.trans (Same.put hr)) ?_⟩
    rw [upd_same]
    simp [hndO, n1, ft, nn, dn, h16, h5, h3, resL]
theorem pf_law_due (T : Txt K mg g) (as : List V) (h : sp_law_due K g as H Q E) : rw_law_due K g as H Q E := by
  obtain ⟨nm, d, l, M, its, ps, rfl, tn, hl, hM, hi, ln, hp, lp, q⟩ := h
  obtain ⟨_, th4⟩ := its_thg T hi
  refine ⟨rfl, nm, rfl, tn.kn, fun H1 s1 => ?_⟩
  rw [tn.nm]
  refine zite (fun hn => ?_) (fun hn => ?_)
  · have n1 : isNameV nm = false := by simpa using hn
    refine ⟨show 2 ≤ sizeLine by decide, fun r hr => q r _ (s1.trans (Same.put hr)) ?_⟩
    rw [upd_same]
    simp [hndO, n1, resL]
  have n1 : isNameV nm = true := by simpa using hn
  refine ⟨l, _, rfl, .inl ⟨s1.seq hl, for_z (walk_enum (xs := its.map (·.1))) (fun i σ H' => Same H H' ∧ (∀ j, j < i → (flOf its)[j]? = some false) ∧ ∃ v3 v4, σ = [some nm, some (.ref l), some (.ref M), v3, v4, none, none, none]) ⟨s1, fun j hj => absurd hj (Nat.not_lt_zero _), _, _, rfl⟩ (fun i σ H' _ h => h.1.seq hl) ?_ ?_⟩⟩
  · rintro i x σ H2 H3 hi2 ⟨s2, hb, v3, v4, rfl⟩ ⟨T1, x1, y, rfl, hT, rfl, f1, f2⟩
    cases f1
    obtain ⟨b, hbi, t, ty, kt⟩ := paired_get th4 f2
    have s3 := s2.trans (Same.put (o := .tup [V.int (i : Nat), y]) hT)
    refine ⟨T1, _, rfl, SqT.of upd_same, rfl, _, _, rfl, _, _, rfl, rfl, (by decide : 4 ≤ sizeLine), fun tp htp => ?_⟩
    have s4 := s3.trans (Same.put (o := .tup [.ref g.c_Refuse, .ref g.c_Let, .ref g.c_Attempt, .ref g.c_When]) htp)
    refine ⟨y, tp, _, t, _, !b, rfl, upd_same, .cons (.own _) (.cons (.own _) (.cons (.own _) (.cons (.own _) .nil))), ty _ s4, kt, ?_⟩
    cases b with
    | true =>
      refine ⟨show 2 ≤ sizeLine by decide, fun r hr => q r _ (s4.trans (Same.put hr)) ?_⟩
      rw [upd_same]
      simp [hndO, n1, firstT_at hbi hb, resL]
    | false =>
      refine ⟨s4, fun j hj => ?_, _, _, rfl⟩
      by_cases e : j = i
      · rw [e]
        exact hbi
      · exact hb j (by omega)
  rintro σ H2 ⟨s2, hb, v3, v4, rfl⟩
  have ft : firstT (flOf its) = none := firstT_none fun j hj => hb j (by
    rw [List.length_map]
    simpa [flOf] using hj)
  show R_law_due_6 K g E { nx := fun _ H' => Q .non H', rt := Q } [some nm, some (.ref l), some (.ref M), v3, v4, none, none, none] H2
  refine ⟨M, rfl, ⟨_, s2.seq hM⟩, for_z (walk_list (xs := ps)) (fun i σ H' => Same H H' ∧ (∀ j v, j < i → ps[j]? = some v → isNameV v = true) ∧ ∃ v5, σ = [some nm, some (.ref l), some (.ref M), v3, v4, v5, none, none]) ⟨s2, fun j v hj => absurd hj (Nat.not_lt_zero _), _, rfl⟩ (fun i σ H' _ h => h.1.seq hM) ?_ ?_⟩
  · rintro i x σ H3 H4 hi3 ⟨s3, hb3, v5, rfl⟩ ⟨rfl, hx⟩
    obtain ⟨dx, tx, _⟩ := (hp x (List.mem_of_getElem? hx)).same s3
    refine ⟨x, rfl, tx.kn, fun H5 s5 => ?_⟩
    rw [tx.nm]
    refine zite (fun hn => ?_) (fun hn => ?_)
    · have n2 : isNameV x = false := by simpa using hn
      refine ⟨show 2 ≤ sizeLine by decide, fun r hr => q r _ ((s3.trans s5).trans (Same.put hr)) ?_⟩
      rw [upd_same]
      simp [hndO, n1, ft, notName_at hx n2 hb3, resL]
    · have n2 : isNameV x = true := by simpa using hn
      refine ⟨s3.trans s5, fun j v hj hv => ?_, _, rfl⟩
      by_cases e : j = i
      · rw [e, hx] at hv
        cases hv
        exact n2
      · exact hb3 j v (by omega) hv
  rintro σ H3 ⟨s3, hb3, v5, rfl⟩
  have hall : ∀ v ∈ ps, isNameV v = true := fun v hv => by
    obtain ⟨j, hj, rfl⟩ := List.getElem_of_mem hv
    exact hb3 j _ hj (List.getElem?_eq_getElem hj)
  have nn : notName ps = none := notName_none hall
  have es := strs_of hall
  generalize hns : ps.map strOf = ns at es
  have hM' : SqL K H M (ns.map V.str) := by rw [← es]; exact hM
  show R_law_due_9 K g E { nx := fun _ H' => Q .non H', rt := Q } [some nm, some (.ref l), some (.ref M), v3, v4, v5, none, none] H3
  refine ⟨M, _, rfl, .inl ⟨s3.seq hM', for_z (walk_enum (xs := ns.map V.str)) (fun i σ H' => Same H H' ∧ dupUp ns i = [] ∧ ∃ v3 v5, σ = [some nm, some (.ref l), some (.ref M), v3, v4, v5, none, none]) ⟨s3, rfl, _, _, rfl⟩ (fun i σ H' _ h => h.1.seq hM') ?_ ?_⟩⟩
  · rintro i x σ H4 H5 hi4 ⟨s4, hd, v3, v5, rfl⟩ ⟨T1, x1, x2, rfl, hT, rfl, f1, f2⟩
    cases f1
    obtain ⟨rfl, li, hm⟩ := get_strs f2
    have s5 := s4.trans (Same.put (o := .tup [V.int (i : Nat), .str (ns.getD i "")]) hT)
    refine ⟨T1, _, rfl, SqT.of upd_same, rfl, _, _, rfl, _, _, rfl, rfl, (i : Int), rfl, M, _, rfl, s5.seq hM', fun p hpn => ?_⟩
    have s6 := s5.trans (Same.put (o := .lst (cutV (ns.map V.str) none (some ((i : Nat) : Int)))) hpn)
    have ec : cutV (ns.map V.str) none (some ((i : Nat) : Int)) = (ns.take i).map V.str := by rw [cut_take, List.map_take]
    refine .inr ⟨p, _, rfl, .inl (SqL.of upd_same), rfl, by rw [ec]; exact all_flat _, ?_⟩
    show if inV (.str (ns.getD i "")) (cutV (ns.map V.str) none (some ((i : Nat) : Int))) = true then _ else _
    rw [ec] at s6
    rw [ec, inV_strs]
    refine zite (fun hdd => ?_) (fun hdd => ?_)
    · refine ⟨show 2 ≤ sizeLine by decide, fun r hr => q r _ (s6.trans (Same.put hr)) ?_⟩
      rw [upd_same]
      have := dupOf_at li hd hdd
      simp [hndO, n1, ft, nn, hns, this, resL]
    · refine ⟨s6, ?_, _, _, rfl⟩
      rw [dupUp_succ, hd, if_neg (by rw [show isDup ns i = false from hdd]; decide)]
      rfl
  · rintro σ H4 ⟨s4, hd, v3, v5, rfl⟩
    rw [List.length_map] at hd
    have dn : dupOf (ps.map strOf) = none := by
      rw [hns]
      unfold dupOf
      rw [hd]
      rfl
    exact due12 T n1 ft nn dn (s4.seq hl) (s4.seq hM) (fun q m => (hi q m).same s4) ln fun r H' s e => q r H' (s4.trans s) e
end
theorem ok_law_due {P : Program} [SupP P] {w : World} {K : PySem.W.Frag} {mg : Str → Option Value} {base : Heap} {g : Ads} (T : Txt K mg g) : FnG false P w K mg base 10 g.f_law_due g.d_law_due ["name", "steps", "marks"] (sp_law_due K g) := (raw_law_due T).imp fun as H Q E h => pf_law_due T as h
end Z
namespace Z
open PySem PySem.Spec PyProof.Rows L2
theorem sc_law : FnScope ["script", "turn", "deck", "time", "names", "odd", "name", "steps", "marks", "handed", "told", "due", "found", "e", "k"] ["script"] (defScope s_law) := ⟨rfl, rfl, rfl, by decide +kernel, rfl, by decide +kernel, by decide +kernel⟩
def R_law_11 (K : PySem.W.Frag) (g : Ads) (E : XK) : TS :=
  (tIfS (tOr (zTest (tOp (rEqB (DAl K) true) (zVar 10) (zVar 11))) (tOr (zTest (tOp (zNe K) (tCB (rReprN K) (tCons (zVar 10) tNil)) (tCB (rReprN K) (tCons (zVar 11) tNil)))) (zTest (tOp (rEqB (DAl K) true) (tCB (rListOf K) (tCons (tOp (zIx K) (zVar 9) (tC (.int 1))) tNil)) (zVar 8)))))
  (tRet (tC (.bl false)))
  tNext)
def R_law_10 (K : PySem.W.Frag) (g : Ads) (E : XK) : TS :=
  (tSeq (tPar 10 11 (tCons (zCall (sp_law_told K g) [] (WE (fun cls d _ H => E cls d H)) (tCons (zVar 6) (tCons (tOp (zIx K) (zVar 9) (tC (.int 0))) (tCons (tOp (zIx K) (zVar 9) (tC (.int 1))) tNil)))) (tCons (zCall (sp_law_due K g) [] (WE (fun cls d _ H => E cls d H)) (tCons (zVar 6) (tCons (zVar 7) (tCons (zVar 8) tNil)))) tNil)))
  (R_law_11 K g E))
def R_law_9 (K : PySem.W.Frag) (g : Ads) (E : XK) : TS :=
  (tSeq (tAsg (tLst (tCons (tCB (rListOf K) (tCons (zVar 7) tNil)) (tCons (tIf (zTest (tOp (zEq K) (zCall (sp_law_draw K g) [] (WE (fun cls d _ H => E cls d H)) (tCons (zVar 2) (tCons (tC (.int 2)) tNil))) (tC (.int 0)))) (tCB (zTupOf K) (tCons (zVar 8) tNil)) (tCB (rListOf K) (tCons (zVar 8) tNil))) tNil))) (gName 9))
  (R_law_10 K g E))
def R_law_8 (K : PySem.W.Frag) (g : Ads) (E : XK) : TS :=
  (tSeq (tAsg (zCall (sp_law_marks K g) [] (WE (fun cls d _ H => E cls d H)) (tCons (zVar 2) (tCons (tSl (rSlL K) (zVar 4) tNoPart (tPart (tC (.int 5)))) (tCons (tOp (zIx K) (zVar 5) (tC (.int 2))) (tCons (tOp (zIx K) (zVar 5) (tC (.int 3))) tNil))))) (gName 8))
  (R_law_9 K g E))
def R_law_7 (K : PySem.W.Frag) (g : Ads) (E : XK) : TS :=
  (tSeq (tAsg (zCall (sp_law_steps K g) [] (WE (fun cls d _ H => E cls d H)) (tCons (zVar 2) (tCons (tOp (zIx K) (zVar 5) (tC (.int 1))) tNil))) (gName 7))
  (R_law_8 K g E))
def R_law_6 (K : PySem.W.Frag) (g : Ads) (E : XK) : TS :=
  (tSeq (tAsg (tIf (zTru K (tOp (zIx K) (zVar 5) (tC (.int 0)))) (zCall (sp_law_of K g) [] (WE (fun cls d _ H => E cls d H)) (tCons (zVar 2) (tCons (tLst (tCons (tC .non) (tCons (tC (.int 7)) (tCons (tC (.str "")) (tCons (tC (.str "A")) (tCons (tC (.str "none")) (tCons (tLst tNil) (tCons (tC (.bl true)) tNil)))))))) tNil))) (tOp (zIx K) (zVar 4) (tC (.int 5)))) (gName 6))
  (R_law_7 K g E))
def R_law_5 (K : PySem.W.Frag) (g : Ads) (E : XK) : TS :=
  (tSeq (tAsg (zLc (iRng1 (tCons (tC (.int 4)) tNil)) (gName 14) tYes (tOp (zEq K) (zCall (sp_law_draw K g) [] (fun _ => E0) (tCons (zVar 2) (tCons (tC (.int 5)) tNil))) (tC (.int 0))) [14]) (gName 5))
  (R_law_6 K g E))
def R_law_4 (K : PySem.W.Frag) (g : Ads) (E : XK) : TS :=
  (tSeq (tAsg (zCall (sp_law_names K g) [] (WE (fun cls d _ H => E cls d H)) (tCons (zVar 2) (tCons (tC (.int 6)) tNil))) (gName 4))
  (R_law_5 K g E))
def R_law_3 (K : PySem.W.Frag) (g : Ads) (E : XK) : TS :=
  (zFor (iRng1 (tCons (tC (.int 4)) tNil)) (gName 3)
  (R_law_4 K g E))
def R_law_2 (K : PySem.W.Frag) (g : Ads) (E : XK) : TS :=
  (tSeq (tAsg (zCall (sp_law_deck K g) [] (WE (fun cls d _ H => E cls d H)) (tCons (zVar 0) (tCons (zVar 1) tNil))) (gName 2))
  (R_law_3 K g E))
def R_law_17 (K : PySem.W.Frag) (g : Ads) (E : XK) : TS :=
  (tRet (zAndV (tOp (zEq K) (zVar 12) (tLst (tCons (tC (.int 1)) tNil))) (zAndV (tOp (zEq K) (tTup (tCons (ClX.tCVal K (tC (.ref g.c_Handler)) "MOST") (tCons (ClX.tCVal K (tC (.ref g.c_Handler)) "DEEPEST") tNil))) (tTup (tCons (tC (.int 16)) (tCons (tC (.int 4)) tNil)))) (tOp (zEq K) (tFld K (zMakeSK g.c_Handler 1 0 (sp_Handler_init K g) (fun _ => [.ref g.t_Handler_init_params]) (WE (fun cls d _ H => E cls d H)) (tCons (tC (.str "a")) tNil) tNil) "params") (tTup tNil)))))
def R_law_13 (K : PySem.W.Frag) (g : Ads) (E : XK) : TS :=
  (tSeq (fun D σ H => (fun W => (tAsg (tLst (tCons (zMakeSK g.c_Handler 1 0 (sp_Handler_init K g) (fun _ => [.ref g.t_Handler_init_params]) (WE W) (tCons (tC (.str "a")) (tCons (zMake0 g.c_Refuse) (tCons (tC (.int 5)) (tCons (tC .non) tNil)))) tNil) tNil)) (gName 12))) (wAsV K (.ref g.c_BadStep) 13 (tAsg (tLst (tCons (tXv g.c_BadStep "index" (zVar 13)) tNil)) (gName 12)) D) D σ H)
  (R_law_17 K g E))
def R_law (K : PySem.W.Frag) (g : Ads) (E : XK) : TS :=
  (tSeq (zFor (iRng1 (tCons (tCB rMx2 (tCons (tC (.int 1)) (tCons (tCB rMn2 (tCons (tC (.int 4)) (tCons (tCB (zLen K) (tCons (zVar 0) tNil)) tNil))) tNil))) tNil)) (gName 1)
  (R_law_2 K g E))
  (R_law_13 K g E))
def rw_law (K : PySem.W.Frag) (g : Ads) : Sp := fun vs H Q E => vs.length = 1 ∧ R_law K g E { nx := fun _ H' => Q .non H', rt := Q } (start ["script", "turn", "deck", "time", "names", "odd", "name", "steps", "marks", "handed", "told", "due", "found", "e", "k"] vs) H
theorem raw_law {P : Program} [SupP P] {w : World} {K : PySem.W.Frag} {mg : Str → Option Value} {base : Heap} {g : Ads} (T : Txt K mg g) : FnG true P w K mg base 16 g.f_law g.d_law ["script"] (rw_law K g) := by
  refine okZ T.f_law sc_law (fun vs H Q E h => h.1) (fun cdv A outer s H vs Q E hr hgu h => ⟨R_law K g E, ?_, h.2⟩)
  exact (pss_cons (psz_for PassesOwn.leaving rfl (pi_range1 rfl T.b_range (pa_cons (pe_callB (call_mx2 rfl) (by rfl) T.b_max (by decide +kernel) (pa_cons pe_int (pa_cons (pe_callB (call_mn2 rfl) (by rfl) T.b_min (by decide +kernel) (pa_cons pe_int (pa_cons (pe_callB call_lenZ (by rfl) T.b_len (by decide +kernel) (pa_cons (zv 0) pa_nil)) pa_nil))) pa_nil))) pa_nil)) (pg_name (i := 1) sc_law.nd rfl (Or.inl rfl))
  (pss_cons (ps_set (i := 2) sc_law.nd rfl (Or.inr rfl) (pe_callZ (ok_law_deck T) (hr.mono (by decide)) (fun z => nomatch z) rfl T.g_law_deck T.k_law_deck T.e_law_deck .nil (fun σ => passAt (takes_of rfl rfl rfl rfl) σ) (pa_cons (zv 0) (pa_cons (zv 1) pa_nil))))
  (pss_one (psz_for PassesOwn.leaving rfl (pi_range1 rfl T.b_range (pa_cons pe_int pa_nil)) (pg_name (i := 3) sc_law.nd rfl (Or.inl rfl))
  (pss_cons (ps_set (i := 4) sc_law.nd rfl (Or.inl rfl) (pe_callZ (ok_law_names T) (hr.mono (by decide)) (fun z => nomatch z) rfl T.g_law_names T.k_law_names T.e_law_names .nil (fun σ => passAt (takes_of rfl rfl rfl rfl) σ) (pa_cons (zv 2) (pa_cons pe_int pa_nil))))
  (pss_cons (psz_setLc (i := 5) (own := [("k", 14)]) rfl sc_law.nd rfl rfl (sw_true rfl rfl rfl (by decide +kernel)) (pi_range1 rfl T.b_range (pa_cons pe_int pa_nil)) (blkOk_by (own := [("k", 14)]) (N := ["script", "turn", "deck", "time", "names", "odd", "name", "steps", "marks", "handed", "told", "due", "found", "e", "k"]) (sc := defScope s_law) (by decide +kernel)) (fun _ _ _ _ _ => pg_name (i := 14) sc_law.nd rfl (Or.inl rfl)) (fun _ _ _ _ _ => pts_nil) (fun _ _ _ _ _ => (pe_cmpR (op_zEq hr.units) (pe_callZ (ok_law_draw T) (hr.mono (by decide)) (fun z => nomatch z) rfl T.g_law_draw T.k_law_draw T.e_law_draw .nil passE0 (pa_cons (zv 2) (pa_cons pe_int pa_nil))) pe_int (nomark _))))
  (pss_cons (ps_set (i := 6) sc_law.nd rfl (Or.inl rfl) (pe_ifExp (ptz_truth (pe_ix ix_z (zv 5) pe_int (fun _ _ => rfl)) (by intro _; rfl)) (pe_callZ (ok_law_of T) (hr.mono (by decide)) (fun z => nomatch z) rfl T.g_law_of T.k_law_of T.e_law_of .nil (fun σ => passAt (takes_of rfl rfl rfl rfl) σ) (pa_cons (zv 2) (pa_cons (pe_lst (pa_cons pe_non (pa_cons pe_int (pa_cons pe_str (pa_cons pe_str (pa_cons pe_str (pa_cons (pe_lst pa_nil) (pa_cons pe_bl pa_nil)))))))) pa_nil))) (pe_ix ix_z (zv 4) pe_int (fun _ _ => rfl))))
  (pss_cons (ps_set (i := 7) sc_law.nd rfl (Or.inl rfl) (pe_callZ (ok_law_steps T) (hr.mono (by decide)) (fun z => nomatch z) rfl T.g_law_steps T.k_law_steps T.e_law_steps .nil (fun σ => passAt (takes_of rfl rfl rfl rfl) σ) (pa_cons (zv 2) (pa_cons (pe_ix ix_z (zv 5) pe_int (fun _ _ => rfl)) pa_nil))))
  (pss_cons (ps_set (i := 8) sc_law.nd rfl (Or.inl rfl) (pe_callZ (ok_law_marks T) (hr.mono (by decide)) (fun z => nomatch z) rfl T.g_law_marks T.k_law_marks T.e_law_marks .nil (fun σ => passAt (takes_of rfl rfl rfl rfl) σ) (pa_cons (zv 2) (pa_cons (pe_slice sl_list (zv 4) po_none (po_some pe_int)) (pa_cons (pe_ix ix_z (zv 5) pe_int (fun _ _ => rfl)) (pa_cons (pe_ix ix_z (zv 5) pe_int (fun _ _ => rfl)) pa_nil))))))
  (pss_cons (ps_set (i := 9) sc_law.nd rfl (Or.inl rfl) (pe_lst (pa_cons (pe_callTy call_listZ (by rfl) T.b_list (by decide +kernel) (pa_cons (zv 7) pa_nil)) (pa_cons (pe_ifExp (ptz_cmp (op_zEq hr.units) (pe_callZ (ok_law_draw T) (hr.mono (by decide)) (fun z => nomatch z) rfl T.g_law_draw T.k_law_draw T.e_law_draw .nil (fun σ => passAt (takes_of rfl rfl rfl rfl) σ) (pa_cons (zv 2) (pa_cons pe_int pa_nil))) pe_int (nomark _)) (pe_callTy call_tupZ (by rfl) T.b_tuple (by decide +kernel) (pa_cons (zv 8) pa_nil)) (pe_callTy call_listZ (by rfl) T.b_list (by decide +kernel) (pa_cons (zv 8) pa_nil))) pa_nil))))
  (pss_cons (ps_par (i := 10) (j := 11) (by rfl) sc_law.nd rfl rfl (by decide) rfl rfl (pa_cons (pe_callZ (ok_law_told T) (hr.mono (by decide)) (fun z => nomatch z) rfl T.g_law_told T.k_law_told T.e_law_told .nil (fun σ => passAt (takes_of rfl rfl rfl rfl) σ) (pa_cons (zv 6) (pa_cons (pe_ix ix_z (zv 9) pe_int (fun _ _ => rfl)) (pa_cons (pe_ix ix_z (zv 9) pe_int (fun _ _ => rfl)) pa_nil)))) (pa_cons (pe_callZ (ok_law_due T) (hr.mono (by decide)) (fun z => nomatch z) rfl T.g_law_due T.k_law_due T.e_law_due .nil (fun σ => passAt (takes_of rfl rfl rfl rfl) σ) (pa_cons (zv 6) (pa_cons (zv 7) (pa_cons (zv 8) pa_nil)))) pa_nil)) (by rfl))
  (pss_one (ps_if (PW.pt (pw_or (ptz_cmp (op_neB rcb_al (hr.mono (by decide))) (zv 10) (zv 11) (nomark _)) (pw_or (ptz_cmp (op_zNe hr.units) (pe_callB (call_reprN (hgu rfl) hr.units) (by rfl) T.b_repr (by decide +kernel) (pa_cons (zv 10) pa_nil)) (pe_callB (call_reprN (hgu rfl) hr.units) (by rfl) T.b_repr (by decide +kernel) (pa_cons (zv 11) pa_nil)) (nomark _)) (pw_or1 (ptz_cmp (op_neB rcb_al (hr.mono (by decide))) (pe_callTy call_listZ (by rfl) T.b_list (by decide +kernel) (pa_cons (pe_ix ix_z (zv 9) pe_int (fun _ _ => rfl)) pa_nil)) (zv 8) (nomark _))))))
  (pss_one (ps_ret pe_bl))
  pss_nil)))))))))))))
  (pss_cons (ps_try_asV (i := 13) (tb := fun W => (tAsg (tLst (tCons (zMakeSK g.c_Handler 1 0 (sp_Handler_init K g) (fun _ => [.ref g.t_Handler_init_params]) (WE W) (tCons (tC (.str "a")) (tCons (zMake0 g.c_Refuse) (tCons (tC (.int 5)) (tCons (tC .non) tNil)))) tNil) tNil)) (gName 12))) (ts := (tAsg (tLst (tCons (tXv g.c_BadStep "index" (zVar 13)) tNil)) (gName 12))) rfl rfl sc_law.nd rfl rfl ⟨rfl, by decide, Or.inl T.g_BadStep⟩
  (fun W pn xe tk po => (pss_one (ps_set (i := 12) sc_law.nd rfl (Or.inl rfl) (pe_lst (pa_cons (pe_makeSK (ks := []) (n := 1) T.m_Handler (ok_Handler_init T) (hr.mono (by decide)) (fun z => nomatch z) T.sb0_Handler_init rfl T.g_Handler (fun σ => passAt tk σ) (pa_cons pe_str (pa_cons (pe_make00 T.m0_Refuse T.ci_Refuse.hm rfl T.g_Refuse) (pa_cons pe_int (pa_cons pe_non pa_nil)))) pk_nil) pa_nil)))))
  (fun a pn => (pss_one (ps_set (i := 12) sc_law.nd rfl (Or.inl rfl) (pe_lst (pa_cons (pe_xv T.xv_BadStep T.a_BadStep_index (zv 13)) pa_nil))))))
  (pss_one (ps_ret (pez_and (pe_cmpR (op_zEq hr.units) (zv 12) (pe_lst (pa_cons pe_int pa_nil)) (nomark _)) (pez_and (pe_cmpR (op_zEq hr.units) (pe_tup (pa_cons (ClX.pe_cval (pe_glob rfl T.g_Handler rfl)) (pa_cons (ClX.pe_cval (pe_glob rfl T.g_Handler rfl)) pa_nil))) (pe_tup (pa_cons pe_int (pa_cons pe_int pa_nil))) (nomark _)) (pe_one (pe_cmpR (op_zEq hr.units) (pe_fld (pe_makeSK (ks := []) (n := 1) T.m_Handler (ok_Handler_init T) (hr.mono (by decide)) (fun z => nomatch z) T.sb0_Handler_init rfl T.g_Handler (fun σ => passAt (takes_of rfl rfl rfl rfl) σ) (pa_cons pe_str pa_nil) pk_nil) rfl) (pe_tup pa_nil) (nomark _)))))))))
end Z
namespace Z
open PySem PySem.Spec PyProof.Rows L2
theorem smV_of {K : PySem.W.Frag} {H : Hp} {v : V} (h : Knd K H v) : SmV v := by
  cases v with
  | non => exact .inl rfl
  | bl b => exact .inr (.inl ⟨_, rfl⟩)
  | int i => exact .inr (.inr (.inl ⟨_, rfl⟩))
  | str z => exact .inr (.inr (.inr (.inl ⟨_, rfl⟩)))
  | ref a => exact smv_ref
  | _ => exact h.elim
theorem dfl_same {H : Hp} {v : V} (h : SmV v) : DFl v v true H := .inl ⟨h, rfl, rfl⟩
theorem dupUp_mem {ns : List Str} {z : Str} : ∀ {i : Nat}, i ≤ ns.length → z ∈ dupUp ns i → z ∈ ns
  | 0, _, h => by simp [dupUp] at h
  | i + 1, hi, h => by
    rw [dupUp_succ] at h
    rcases List.mem_append.mp h with h | h
    · exact dupUp_mem (by omega) h
    · split at h
      · have e : z = ns.getD i "" := by simpa using h
        rw [e, List.getD_eq_getElem?_getD, List.getElem?_eq_getElem (show i < ns.length by omega)]
        exact List.getElem_mem _
      · cases h
/-- a result: a word and a thing -/
theorem res_thing {K : PySem.W.Frag} {H : Hp} {nm : V} {d : PyData} {fl : List Bool} {ps : List V} {ts : List Tr} (tn : Thing K H nm d) (hp : ∀ v ∈ ps, MkAt K H v) (lf : fl.length ≤ 1000) :
    ∃ w x e, resL nm (hndO nm fl ps ts) = [.str w, x] ∧ FitX (.str w) ∧ Thing K H x e := by
  have fk : ∀ w ∈ (["BadName", "BadStep", "Twice", "TooMany", "made"] : List Str), FitX (.str w) := fun w hw => by
    simp only [List.mem_cons, List.not_mem_nil, or_false] at hw
    rcases hw with rfl | rfl | rfl | rfl | rfl <;> exact ⟨by decide +kernel, by decide +kernel, by decide +kernel, by decide +kernel⟩
  unfold hndO
  by_cases n1 : isNameV nm = true
  · rw [if_pos n1]
    cases ef : firstT fl with
    | some j =>
      have hj : j < fl.length := (List.findIdx?_eq_some_iff_getElem.mp ef).1
      exact ⟨_, _, _, rfl, fk _ (by simp), th_int (by omega) (by omega)⟩
    | none =>
      cases en : notName ps with
      | some v =>
        have hv : v ∈ ps := List.mem_of_find?_eq_some en
        obtain ⟨e, t, _⟩ := hp v hv
        exact ⟨_, _, e, rfl, fk _ (by simp), t⟩
      | none =>
        cases ed : dupOf (ps.map strOf) with
        | some z =>
          have hz : z ∈ ps.map strOf := by
            refine dupUp_mem (Nat.le_refl _) ?_
            unfold dupOf at ed
            exact List.mem_of_mem_head? ed
          obtain ⟨v, hv, ez⟩ := List.mem_map.mp hz
          have nv : isNameV v = true := by
            have := List.find?_eq_none.mp en v hv
            simpa using this
          obtain ⟨e, t, _⟩ := hp v hv
          have ev : v = .str z := by
            cases v with
            | str y => rw [← ez]; rfl
            | _ => exact absurd nv (by simp [isNameV])
          rw [ev] at t
          exact ⟨_, _, e, rfl, fk _ (by simp), t⟩
        | none =>
          simp only
          split
          · exact ⟨_, _, _, rfl, fk _ (by simp), th_int (by decide) (by decide)⟩
          · split
            · exact ⟨_, _, _, rfl, fk _ (by simp), th_int (by decide) (by decide)⟩
            · split
              · exact ⟨_, _, _, rfl, fk _ (by simp), th_int (by decide) (by decide)⟩
              · exact ⟨_, _, _, rfl, fk _ (by simp), tn⟩
  · rw [if_neg n1]
    exact ⟨_, _, d, rfl, fk _ (by simp), tn⟩
theorem res_rep {K : PySem.W.Frag} {H : Hp} {w : Str} {x : V} {e : PyData} {a : Addr} (ea : H a = some (.lst [.str w, x])) (fw : FitX (.str w)) (t : Thing K H x e) : RepAt K H a (PyData.list [.str w, e]).shown :=
  rep_list (w := 401 * 2) (k := 5) (SqL.of ea) (.cons (.base (.inl ⟨.str _, rfl⟩)) (.cons (.base t.dp) .nil)) (fitN_list (w := 400) (k := 4) (n := 2) (fun e he => by
    simp only [List.mem_cons, List.not_mem_nil, or_false] at he
    rcases he with rfl | rfl
    · exact fw.n
    · exact t.fx.n) (Nat.le_refl _)) (by decide) (by decide)
section
variable {K : PySem.W.Frag} {mg : Str → Option Value} {g : Ads} {E : XK} {D' : Ends}
/-- lists of the same things -/
theorem al_lst {H : Hp} {a c : Addr} {xs : List V} (ha : SqL K H a xs) (hc : SqL K H c xs) (sm : ∀ v ∈ xs, SmV v) : DAl K (.ref a) (.ref c) true H :=
  .inl ⟨a, c, xs, xs, rfl, rfl, ha, hc, .inl ⟨rfl, PrsB.same (fun v hv => .inl (dfl_same hv)) xs sm⟩⟩
theorem st10 (T : Txt K mg g) {H : Hp} {a : Addr} {nm : V} {d : PyData} {St M HL L1 P : Addr} {its : List (V × Option Tr)} {ms : List V} (tn : Thing K H nm d) (eS : H St = some (.lst (its.map (·.1)))) (eM : H M = some (.lst ms)) (eH : H HL = some (.lst [.ref L1, .ref P])) (eL : H L1 = some (.lst (its.map (·.1)))) (eP : Sq K H P ms)
    (hi : ∀ q ∈ its, ItAt K g H q) (li : its.length ≤ 30) (hm : ∀ v ∈ ms, MkAt K H v) (lm : ms.length ≤ 20) (v1 v2 v3 v4 v5 v10 v11 v12 v13 v14 : Option V) (hD : ∀ σ vs H', Same H H' → σ = some (V.ref a) :: v1 :: v2 :: vs → vs.length = 12 → D'.nx σ H') :
    R_law_10 K g E D' [some (.ref a), v1, v2, v3, v4, v5, some nm, some (.ref St), some (.ref M), some (.ref HL), v10, v11, v12, v13, v14] H := by
  have hr := its_rows T hi li hm lm
  have lf : (flOf its).length ≤ 1000 := by simp [flOf]; omega
  refine ⟨_, _, .inl (SqL.of eH), atI_nat (j := 0) rfl, _, _, .inl (SqL.of eH), atI_nat (j := 1) rfl, ?_⟩
  refine ⟨nm, L1, P, _, _, ms, _, rfl, tn.kn, .inr (SqL.of eL), eP, hr, fun r1 H1 s1 e1 => ?_⟩
  refine ⟨nm, d, St, M, its, ms, rfl, tn.same s1, SqL.of (s1 _ _ eS), SqL.of (s1 _ _ eM), fun q m => (hi q m).same s1, li, fun v m => (hm v m).same s1, lm, fun r2 H2 s2 e2 => ⟨_, _, rfl, ?_⟩⟩
  have s12 := s1.trans s2
  have e1' := s2 _ _ e1
  obtain ⟨w, x, e, er, fw, tx⟩ := res_thing (K := K) (H := H2) (ts := tsOf its) (tn.same s12) (fun v m => (hm v m).same s12) lf
  rw [er] at e1' e2
  have sm : ∀ v ∈ [V.str w, x], SmV v := fun v hv => by
    simp only [List.mem_cons, List.not_mem_nil, or_false] at hv
    rcases hv with rfl | rfl
    · exact .inr (.inr (.inr (.inl ⟨_, rfl⟩)))
    · exact smV_of tx.kn
  refine ⟨true, al_lst (SqL.of e1') (SqL.of e2) sm, fun H3 s3 => zite (fun h => absurd h (by decide)) fun _ => ?_⟩
  have tx3 := tx.same s3
  obtain ⟨vs2, ds2, b1, b2, b3, b4, b5, b6⟩ := res_rep (s3 _ _ e1') fw tx3
  obtain ⟨vs3, ds3, c1, c2, c3, c4, c5, c6⟩ := res_rep (s3 _ _ e2) fw tx3
  refine ⟨r1, vs2, ds2, rfl, b1, b2, b3, b4, b5, r2, vs3, ds3, rfl, c1, c2, c3, c4, c5, ?_⟩
  rw [b6, c6]
  refine .inl ⟨rfl, zite (fun h => absurd h (by simp)) fun _ => ?_⟩
  have s03 := s12.trans s3
  refine ⟨_, _, .inl (SqL.of (s03 _ _ eH)), atI_nat (j := 1) rfl, ms, (eP.same s03).symm, fun l hl => ?_⟩
  have sl := Same.put (o := .lst ms) hl
  refine ⟨true, al_lst (SqL.of upd_same) (SqL.of ((s03.trans sl) _ _ eM)) fun v hv => (hm v hv).elim fun d t => t.2, fun H4 s4 => zite (fun h => absurd h (by decide)) fun _ => ?_⟩
  exact hD _ _ H4 ((s03.trans sl).trans s4) rfl rfl
end
end Z
namespace Z
open PySem PySem.Spec PyProof.Rows L2
section
variable {K : PySem.W.Frag} {mg : Str → Option Value} {g : Ads} {E : XK} {D' : Ends}
theorem st9 (T : Txt K mg g) {H : Hp} {a p wa : Addr} {nm : V} {d : PyData} {St M : Addr} {its : List (V × Option Tr)} {ms : List V} (dk : DeckAt H p wa) (tn : Thing K (hid [p] H) nm d) (eS : hid [p] H St = some (.lst (its.map (·.1)))) (eM : hid [p] H M = some (.lst ms))
    (hi : ∀ q ∈ its, ItAt K g (hid [p] H) q) (li : its.length ≤ 30) (hm : ∀ v ∈ ms, MkAt K (hid [p] H) v) (lm : ms.length ≤ 20) (v1 v3 v4 v5 v9 v10 v11 v12 v13 v14 : Option V)
    (hD : ∀ σ vs H', But p H H' → DeckAt H' p wa → σ = some (V.ref a) :: v1 :: some (V.ref p) :: vs → vs.length = 12 → D'.nx σ H') :
    R_law_9 K g E D' [some (.ref a), v1, some (.ref p), v3, v4, v5, some nm, some (.ref St), some (.ref M), v9, v10, v11, v12, v13, v14] H := by
  refine ⟨_, .inl (SqL.of (hid_sub _ _ eS)), fun L1 h1 => ?_⟩
  have s1 := Same.put (o := .lst (its.map (·.1))) h1
  have e1 := upd_same (H := H) (a := L1) (o := .lst (its.map (·.1)))
  have n1 := dk.ne h1
  have dk1 := dk.same s1
  generalize upd H L1 (.lst (its.map (·.1))) = H1 at s1 e1 dk1
  refine ⟨p, wa, 2, rfl, dk1, by decide, by decide, fun r H2 r0 r1 d2 b2 => .inl ⟨rfl, ?_⟩⟩
  have b02 : But p H H2 := (But.same s1).trans b2
  have eL2 := b2 _ _ e1 n1
  have eM2 := hid_but b02 _ _ eM
  -- behind the second list
  have fin : ∀ (P : Addr) (H3 : Hp), Same H2 H3 → Sq K H3 P ms → ∀ HL, H3 HL = none → R_law_10 K g E D' [some (.ref a), v1, some (.ref p), v3, v4, v5, some nm, some (.ref St), some (.ref M), some (.ref HL), v10, v11, v12, v13, v14] (upd H3 HL (.lst [.ref L1, .ref P])) := by
    intro P H3 s3 eP HL hHL
    have s4 := Same.put (o := .lst [.ref L1, .ref P]) hHL
    have b4 : But p H (upd H3 HL (.lst [.ref L1, .ref P])) := b02.trans (But.same (s3.trans s4))
    have sh : Same (hid [p] H) (upd H3 HL (.lst [.ref L1, .ref P])) := (hid_but b4).trans hid_sub
    exact st10 T (tn.same sh) (sh _ _ eS) (sh _ _ eM) upd_same ((s3.trans s4) _ _ eL2) (eP.same s4) (fun q m => (hi q m).same sh) li (fun v m => (hm v m).same sh) lm v1 _ v3 v4 v5 v10 v11 v12 v13 v14 fun σ vs H' s e l => hD σ vs H' (b4.trans (But.same s)) (d2.same ((s3.trans s4).trans s)) e l
  refine zite (fun _ => ?_) (fun _ => ?_)
  · exact ⟨ms, .inl ⟨SqL.of (hid_sub _ _ eM2), fun P hP => ⟨show 2 ≤ sizeLine by decide, fun HL hHL => fin P _ (Same.put hP) (.inl (SqT.of upd_same)) HL hHL⟩⟩⟩
  · exact ⟨ms, .inl (SqL.of (hid_sub _ _ eM2)), fun P hP => ⟨show 2 ≤ sizeLine by decide, fun HL hHL => fin P _ (Same.put hP) (.inr (SqL.of upd_same)) HL hHL⟩⟩
theorem seven_of {x a b c d e f h' : V} {j : Nat} (h : [a, b, c, d, e, f, h'][j]? = some x) : x = a ∨ x = b ∨ x = c ∨ x = d ∨ x = e ∨ x = f ∨ x = h' := by
  have := List.mem_of_getElem? h
  simpa using this
theorem same_hidp {H H1 : Hp} {p : Addr} (s : Same H H1) : Same (hid [p] H) (hid [p] H1) := hid_but (But.same s)
theorem st4 (T : Txt K mg g) {H : Hp} {a p wa : Addr} (dk : DeckAt H p wa) (v1 v3 v4 v5 v6 v7 v8 v9 v10 v11 v12 v13 v14 : Option V)
    (hD : ∀ σ vs H', But p H H' → DeckAt H' p wa → σ = some (V.ref a) :: v1 :: some (V.ref p) :: vs → vs.length = 12 → D'.nx σ H') :
    R_law_4 K g E D' [some (.ref a), v1, some (.ref p), v3, v4, v5, v6, v7, v8, v9, v10, v11, v12, v13, v14] H := by
  refine ⟨p, wa, 6, rfl, dk, by decide, by decide, fun ah stem first N H1 hst f0 f1 d1 b1 nN eN => ?_⟩
  have pN : N ≠ p := dk.ne nN
  -- the six names
  have hn : ∀ z ∈ (List.range 6).map (nmOf ah stem first), isNameV (.str z) = true ∧ z.length ≤ 8 ∧ Asc z := fun z hz => by
    obtain ⟨k, _, rfl⟩ := List.mem_map.mp hz
    exact nm_ok k hst f0 f1
  have eN' : H1 N = some (.lst (((List.range 6).map (nmOf ah stem first)).map V.str)) := by
    rw [List.map_map]
    exact eN
  generalize hns : (List.range 6).map (nmOf ah stem first) = ns at hn eN'
  have ln : ns.length = 6 := by rw [← hns]; simp
  have hN1 : hid [p] H1 N = some (.lst (ns.map V.str)) := hid_put pN eN'
  have mkN : ∀ {H' : Hp}, ∀ v ∈ ns.map V.str, MkAt K H' v := fun v hv => by
    obtain ⟨z, hz, rfl⟩ := List.mem_map.mp hv
    obtain ⟨a1, a2, a3⟩ := hn z hz
    exact mk_name a1 a2 a3
  show R_law_5 K g E D' [some (.ref a), v1, some (.ref p), v3, some (.ref N), v5, v6, v7, v8, v9, v10, v11, v12, v13, v14] H1
  refine ⟨4, rfl, by decide, by decide, lc_z (walk_range (lo := 0) (n := 4)) (fun D i H' => DeckAt H' p wa ∧ But p H1 H' ∧ ∃ bs : List Bool, H' D = some (.lst (bs.map V.bl)) ∧ bs.length = i) (fun D hD => ⟨d1.same (Same.put hD), But.same (Same.put hD), [], upd_same, rfl⟩) (fun _ _ _ _ _ _ => trivial) ?_ ?_⟩
  · rintro D i x H2 H3 hDn hi ⟨d2, b2, bs, e2, l2⟩ ⟨rfl, rfl⟩
    have pD : D ≠ p := d1.ne hDn
    have wD : wa ≠ D := deck_wa d1 hDn
    refine ⟨rfl, p, wa, 5, rfl, d2, by decide, by decide, fun r H4 r0 r1 d4 b4 => .inl ⟨rfl, _, b4 _ _ e2 pD, ?_, d4.upd pD wD, (b2.trans b4).new hDn, bs ++ [decide (V.int r = V.int 0)], ?_, ?_⟩⟩
    · rw [List.length_map, l2]
      exact Nat.lt_of_lt_of_le hi (by decide)
    · rw [upd_same, List.map_append]
      rfl
    · rw [List.length_append, l2]
      rfl
  rintro Od H2 hOd ⟨d2, b2, bs, e2, l2⟩
  have pO : Od ≠ p := d1.ne hOd
  match bs, l2 with
  | [o0, o1, o2, o3], _ =>
    show R_law_6 K g E D' [some (.ref a), v1, some (.ref p), v3, some (.ref N), some (.ref Od), v6, v7, v8, v9, v10, v11, v12, v13, v14] H2
    have hO2 : hid [p] H2 Od = some (.lst ([o0, o1, o2, o3].map V.bl)) := hid_put pO e2
    have hN2 := hid_but b2 _ _ hN1
    -- behind the name
    have fin : ∀ (nm : V) (dn : PyData) (H3 : Hp), But p H2 H3 → DeckAt H3 p wa → Thing K (hid [p] H3) nm dn → R_law_7 K g E D' [some (.ref a), v1, some (.ref p), v3, some (.ref N), some (.ref Od), some nm, v7, v8, v9, v10, v11, v12, v13, v14] H3 := by
      intro nm dn H3 b3 d3 tn
      have hO3 := hid_but b3 _ _ hO2
      refine ⟨_, _, .inl (SqL.of (hid_sub _ _ hO3)), atI_nat (j := 1) rfl, p, wa, o1, rfl, d3, fun St its H4 d4 b4 n4 e4 hi li => ?_⟩
      have hN4 := hid_but (b3.trans b4) _ _ hN2
      have hO4 := hid_but b4 _ _ hO3
      show R_law_8 K g E D' [some (.ref a), v1, some (.ref p), v3, some (.ref N), some (.ref Od), some nm, some (.ref St), v8, v9, v10, v11, v12, v13, v14] H4
      refine ⟨5, rfl, N, _, rfl, SqL.of (hid_sub _ _ hN4), fun N5 hN5 => ?_⟩
      rw [show cutV (ns.map V.str) none (some 5) = (ns.map V.str).take 5 from cut_take (ns.map V.str) 5]
      have s5 := Same.put (o := .lst ((ns.map V.str).take 5)) hN5
      have p5 : N5 ≠ p := d4.ne hN5
      have hO5 := same_hidp s5 _ _ hO4
      refine ⟨_, _, .inl (SqL.of (hid_sub _ _ hO5)), atI_nat (j := 2) rfl, _, _, .inl (SqL.of (hid_sub _ _ hO5)), atI_nat (j := 3) rfl, p, wa, N5, (ns.map V.str).take 5, o2, o3, rfl, d4.same s5, hid_put p5 upd_same, fun v hv => mkN v (List.mem_of_mem_take hv), ?_, fun M ms H6 d6 b6 n6 e6 hm lm => ?_⟩
      · rw [List.length_take]
        omega
      have b46 : But p H4 H6 := (But.same s5).trans b6
      exact st9 T d6 ((tn.same (hid_but b4)).same (hid_but b46)) (hid_but b46 _ _ e4) e6 (fun q m => (hi q m).same (hid_but b46)) li hm lm v1 v3 _ _ v9 v10 v11 v12 v13 v14
        fun σ vs H' b d e l => hD σ vs H' ((((b1.trans b2).trans (b3.trans b4)).trans b46).trans b) d e l
    refine ⟨_, _, .inl (SqL.of (hid_sub _ _ hO2)), atI_nat (j := 0) rfl, ?_⟩
    cases o0 with
    | true =>
      refine ⟨show 0 ≤ sizeLine by decide, fun l hl => ?_⟩
      have s3 := Same.put (o := .lst []) hl
      have e3 := upd_same (H := H2) (a := l) (o := .lst [])
      have pl := d2.ne hl
      have d3 := d2.same s3
      generalize upd H2 l (.lst []) = H3 at s3 e3 d3
      refine ⟨show 7 ≤ sizeLine by decide, fun W hW => ?_⟩
      have s4 := Same.put (o := .lst [.non, .int 7, .str "", .str "A", .str "none", .ref l, .bl true]) hW
      refine ⟨p, wa, W, _, rfl, d3.same s4, .inl (SqL.of upd_same), d3.ne hW, by simp, (show 7 ≤ 1000000 by decide), fun j x H5 hx d5 b5 => ?_⟩
      have b25 : But p H2 H5 := (But.same (s3.trans s4)).trans b5
      have lit : ∀ z ∈ (["", "A", "none", "abcdefghi"] : List Str), Thing K (hid [p] H5) (.str z) (.str z) := fun z hz => by
        obtain ⟨a1, a2, a3⟩ := lit_odd z hz
        exact th_str a1 a2 a3
      rcases seven_of hx with rfl | rfl | rfl | rfl | rfl | rfl | rfl
      · exact fin _ _ H5 b25 d5 th_non
      · exact fin _ _ H5 b25 d5 (th_int (by decide) (by decide))
      · exact fin _ _ H5 b25 d5 (lit "" (by simp))
      · exact fin _ _ H5 b25 d5 (lit "A" (by simp))
      · exact fin _ _ H5 b25 d5 (lit "none" (by simp))
      · exact fin _ _ H5 b25 d5 (th_lst0 (hid_put pl (b5 _ _ (s4 _ _ e3) pl)))
      · exact fin _ _ H5 b25 d5 (th_bl true)
    | false =>
      have l5 : 5 < ns.length := by omega
      have e5 : (ns.map V.str)[5]? = some (.str ns[5]) := by rw [List.getElem?_map, List.getElem?_eq_getElem l5]; rfl
      obtain ⟨dn, tn, _⟩ := mkN (H' := hid [p] H2) (.str ns[5]) (List.mem_of_getElem? e5)
      exact ⟨_, _, .inl (SqL.of (hid_sub _ _ hN2)), atI_nat (j := 5) e5, fin _ dn H2 (fun _ _ e _ => e) d2 tn⟩
theorem twelve_ {vs : List (Option V)} (h : vs.length = 12) : ∃ v3 v4 v5 v6 v7 v8 v9 v10 v11 v12 v13 v14, vs = [v3, v4, v5, v6, v7, v8, v9, v10, v11, v12, v13, v14] := by
  match vs, h with
  | [v3, v4, v5, v6, v7, v8, v9, v10, v11, v12, v13, v14], _ => exact ⟨v3, v4, v5, v6, v7, v8, v9, v10, v11, v12, v13, v14, rfl⟩
theorem st2 (T : Txt K mg g) {H : Hp} {a : Addr} {ns : List Int} {t : Int} (hS : SqL K H a (ns.map V.int)) (hl : ns.length ≤ 63) (ht : 0 ≤ t) (hD : ∀ σ vs H', Same H H' → σ = some (V.ref a) :: vs → vs.length = 14 → D'.nx σ H')
    (v2 v3 v4 v5 v6 v7 v8 v9 v10 v11 v12 v13 v14 : Option V) : R_law_2 K g E D' [some (.ref a), some (.int t), v2, v3, v4, v5, v6, v7, v8, v9, v10, v11, v12, v13, v14] H := by
  refine ⟨a, ns, t, rfl, hS, hl, ht, fun p wa H1 np nw s1 d1 => ?_⟩
  have out : ∀ {H'}, But p H1 H' → Same H H' := fun b => mk_out np s1 b
  refine ⟨4, rfl, by decide, by decide, for_z (walk_range (lo := 0) (n := 4)) (fun i σ H' => But p H1 H' ∧ DeckAt H' p wa ∧ ∃ vs, σ = some (V.ref a) :: some (.int t) :: some (.ref p) :: vs ∧ vs.length = 12) ⟨fun _ _ e _ => e, d1, _, rfl, rfl⟩ (fun _ _ _ _ _ => trivial) ?_ ?_⟩
  · rintro i x σ H2 H3 hi ⟨b2, d2, vs, rfl, lv⟩ ⟨rfl, rfl⟩
    obtain ⟨v3, v4, v5, v6, v7, v8, v9, v10, v11, v12, v13, v14, rfl⟩ := twelve_ lv
    refine st4 T d2 _ _ v4 v5 v6 v7 v8 v9 v10 v11 v12 v13 v14 ?_
    exact fun σ vs H' b d e l => ⟨b2.trans b, d, vs, e, l⟩
  · rintro σ H2 ⟨b2, d2, vs, rfl, lv⟩
    exact hD _ (some (.int t) :: some (.ref p) :: vs) H2 (out b2) rfl (by simp [lv])
end
end Z
namespace Z
open PySem PySem.Spec PyProof.Rows L2
def szB : PyData := .list [.int 1]
def szM : PyData := .tuple [.int 16, .int 4]
theorem szb_ok : PyData.eqv szB szB = true ∧ SeqAt.shaped szB = true ∧ PyData.eqv szM szM = true ∧ SeqAt.shaped szM = true ∧ PyData.eqv (.tuple []) (.tuple []) = true ∧ SeqAt.shaped (.tuple []) = true := by decide +kernel
theorem hand_new0 {K : PySem.W.Frag} {g : Ads} {H : Hp} {Q : VK} {E : XK} {nm : V} {tp : Addr} {vs : List V} (h : sp_Hand_new K g H nm tp vs Q E) : NewS g.c_Handler 1 (sp_Handler_init K g) (fun _ => [.ref tp]) E (nm :: vs) [] H Q := hand_new h
theorem pl_ref {g : Ads} {H : Hp} {a d : Addr} (e : H a = some (.ins g.c_Refuse d [])) : PlS g H (.ref a) := ⟨a, d, rfl, .inl e⟩
theorem hnd_a1 : hndO (.str "a") [false, true, true] [] [] = .bs 1 := by
  unfold hndO
  rw [if_pos (show isNameV (.str "a") = true by decide +kernel)]
  rfl
theorem hnd_a0 : hndO (.str "a") [] [] [] = .ok := by
  unfold hndO
  rw [if_pos (show isNameV (.str "a") = true by decide +kernel)]
  rfl
section
variable {K : PySem.W.Frag} {mg : Str → Option Value} {g : Ads} {E : XK} {Q : VK}
theorem hand_bad (T : Txt K mg g) {H : Hp} {r : Addr} (hr : PlS g H (.ref r)) {E' : XK} (he : ∀ H' dd, Same H H' → H dd = none → H' dd = some (.xd [("index", .int 1)]) → E' (.ref g.c_BadStep) (some dd) H') {Q' : VK} : sp_Hand_new K g H (.str "a") g.t_Handler_init_params [.ref r, .int 5, .non] Q' E' := by
  refine ⟨[false, true, true], [], [], (show ("a" : Str).length ≤ 1000 by decide), .inl (T.kt_Handler_init_params H), ⟨by simp, .cons (thg_pls T hr) (.cons ⟨_, fun _ _ => .base (.int _), by rw [T.kb_Step_int]; rfl⟩ (.cons ⟨_, fun _ _ => .base .non, by rw [T.kb_Step_NoneType]; rfl⟩ .nil)), by simp, fun v hv => (by cases hv), fun e => nomatch (show firstT [false, true, true] = some 1 from rfl).symm.trans e⟩, fun C f v e H' dd s n x => ?_, fun e => ?_⟩
  · rw [hnd_a1] at e
    cases e
    exact he H' dd s n x
  · rw [hnd_a1] at e
    cases e
theorem hand_nil (T : Txt K mg g) {H : Hp} {E' : XK} {Q' : VK} (q : ∀ o H', Same H H' → H o = none → HandAt K g H' o (.str "a") [] → Q' (.ref o) H') : sp_Hand_new K g H (.str "a") g.t_Handler_init_params [] Q' E' := by
  refine ⟨[], [], [], (show ("a" : Str).length ≤ 1000 by decide), .inl (T.kt_Handler_init_params H), ⟨by simp, .nil, by simp, fun v hv => (by cases hv), fun _ => ⟨rfl, trivial, by decide, by decide⟩⟩, fun C f v e H' dd s n x => ?_, fun _ => q⟩
  rw [hnd_a0] at e
  cases e
theorem law_end (T : Txt K mg g) (q : ∀ H', Q (.bl true) H') (a : Addr) (v1 v2 v3 v4 v5 v6 v7 v8 v9 v10 v11 v12 v13 v14 : Option V) (H : Hp) :
    R_law_13 K g E { nx := fun _ H' => Q .non H', rt := Q } [some (.ref a), v1, v2, v3, v4, v5, v6, v7, v8, v9, v10, v11, v12, v13, v14] H := by
  obtain ⟨z1, z2, z3, z4, z5, z6⟩ := szb_ok
  refine fun r1 d1 m1 m1' ne1 => ?_
  have s2 := (mk_same (C := g.c_Refuse) m1 m1' ne1).1
  have e2 := upd_same (H := upd H d1 (.own r1)) (a := r1) (o := .ins g.c_Refuse d1 [])
  generalize upd (upd H d1 (.own r1)) r1 (.ins g.c_Refuse d1 []) = H2 at s2 e2
  refine ⟨rfl, hand_new0 (hand_bad T (pl_ref e2) fun H3 dd s3 n3 x3 => ?_)⟩
  refine ⟨T.h_BadStep, fun e he => ?_⟩
  have sX := Same.put (o := ExV (.ref g.c_BadStep) (some dd) e) he
  have eX := upd_same (H := H3) (a := e) (o := ExV (.ref g.c_BadStep) (some dd) e)
  have xX := sX _ _ x3
  generalize upd H3 e (ExV (.ref g.c_BadStep) (some dd) e) = H4 at sX eX xX
  refine ⟨e, [("index", .int 1)], .int 1, rfl, ⟨dd, eX, xX⟩, rfl, (show 1 ≤ sizeLine by decide), fun L hL => ?_⟩
  have sL := Same.put (o := .lst [.int 1]) hL
  have eL := upd_same (H := H4) (a := L) (o := .lst [.int 1])
  show R_law_17 K g E { nx := fun _ H' => Q .non H', rt := Q } [some (.ref a), v1, v2, v3, v4, v5, v6, v7, v8, v9, v10, v11, some (.ref L), none, v14] (upd H4 L (.lst [.int 1]))
  generalize upd H4 L (.lst [.int 1]) = H5 at sL eL ⊢
  refine ⟨show 1 ≤ sizeLine by decide, fun Y hY => .inr ⟨szB, szB, .lst (SqL.of ((Same.put hY) _ _ eL)) (.cons (.int 1) .nil), .lst (SqL.of upd_same) (.cons (.int 1) .nil), z2, z2, ?_⟩⟩
  rw [z1]
  obtain ⟨um, cm⟩ := T.cv_Handler_MOST
  obtain ⟨ud, cd⟩ := T.cv_Handler_DEEPEST
  refine ⟨g.c_Handler, _, _, um, rfl, T.cr_Handler, cm, g.c_Handler, _, _, ud, rfl, T.cr_Handler, cd, (show 2 ≤ sizeLine by decide), fun t1 h1 => ⟨show 2 ≤ sizeLine by decide, fun t2 h2 => .inr ⟨szM, szM, .tup (SqT.of ((Same.put h2) _ _ upd_same)) (.cons (.int 16) (.cons (.int 4) .nil)), .tup (SqT.of upd_same) (.cons (.int 16) (.cons (.int 4) .nil)), z4, z4, ?_⟩⟩⟩
  rw [z3]
  refine ⟨rfl, hand_new0 (hand_nil T fun o H6 s6 n6 ⟨dx, tp, sp, st, eo, ht⟩ => ?_)⟩
  refine ⟨o, g.c_Handler, dx, _, .ref tp, rfl, eo, T.cl_Handler, T.na_Handler_params, rfl, (show 0 ≤ sizeLine by decide), fun W hW => .inr ⟨.tuple [], .tuple [], .tup (Z.Same.tup (Same.put hW) ht) .nil, .tup (SqT.of upd_same) .nil, z6, z6, ?_⟩⟩
  rw [z5]
  exact q _
theorem fourteen {vs : List (Option V)} (h : vs.length = 14) : ∃ v1 v2 v3 v4 v5 v6 v7 v8 v9 v10 v11 v12 v13 v14, vs = [v1, v2, v3, v4, v5, v6, v7, v8, v9, v10, v11, v12, v13, v14] := by
  match vs, h with
  | [v1, v2, v3, v4, v5, v6, v7, v8, v9, v10, v11, v12, v13, v14], _ => exact ⟨v1, v2, v3, v4, v5, v6, v7, v8, v9, v10, v11, v12, v13, v14, rfl⟩
theorem pf_law (T : Txt K mg g) (vs : List V) (H : Hp) (Q : VK) (E : XK) (h : spLaw K vs H Q E) : rw_law K g vs H Q E := by
  obtain ⟨a, ns, rfl, hS, hl, q⟩ := h
  refine ⟨rfl, _, .inl hS, _, rfl, ?_, ?_, for_z walk_range (fun i σ H' => Same H H' ∧ ∃ vs, σ = some (V.ref a) :: vs ∧ vs.length = 14) ⟨Same.refl H, _, rfl, rfl⟩ (fun _ _ _ _ _ => trivial)
    (fun i x σ H1 H1' hi ⟨s1, vs, e1, l1⟩ yy => ?_) (fun σ H1 ⟨s1, vs, e1, l1⟩ => ?_)⟩
  · split <;> split <;> omega
  · rw [List.length_map]; split <;> split <;> omega
  · obtain ⟨rfl, rfl⟩ := yy
    subst e1
    obtain ⟨v1, v2, v3, v4, v5, v6, v7, v8, v9, v10, v11, v12, v13, v14, rfl⟩ := fourteen l1
    refine st2 T (s1.seq hS) hl (by omega) ?_ v2 v3 v4 v5 v6 v7 v8 v9 v10 v11 v12 v13 v14
    exact fun σ vs H' s e l => ⟨s1.trans s, vs, e, l⟩
  · subst e1
    obtain ⟨v1, v2, v3, v4, v5, v6, v7, v8, v9, v10, v11, v12, v13, v14, rfl⟩ := fourteen l1
    exact law_end T (fun H' => q H') a v1 v2 v3 v4 v5 v6 v7 v8 v9 v10 v11 v12 v13 v14 H1
end
theorem ok_law {P : Program} [SupP P] {w : World} {K : PySem.W.Frag} {mg : Str → Option Value} {base : Heap} {g : Ads} (T : Txt K mg g) : FnG true P w K mg base 16 g.f_law g.d_law ["script"] (spLaw K) := (raw_law T).imp (pf_law T)
end Z
namespace Z
open PySem PySem.Spec PyProof.Rows L2
theorem kt_of {K : PySem.W.Frag} {C : Addr} {T : String} (ht : PySem.W.typeIn K (.ref C) = some (.type "type")) (hm : PySem.W.mroIn K C (.type "object") = some true) (hs : PySem.W.subIn K (.type T) (.ref C) = some false) :
    PySem.W.kitOne K (.type T) (.ref C) = some false := by
  have hc : (PySem.W.clsIn K C).isSome = true := by
    unfold PySem.W.mroIn at hm
    cases e : PySem.W.clsIn K C with
    | none => rw [e] at hm; cases hm
    | some d => rfl
  have hn : ((Value.type T) == Value.ref C) = false := by
    rw [beq_eq_false_iff_ne]
    exact fun h => nomatch h
  unfold PySem.W.kitOne PySem.W.kitCls
  rw [hn]
  simp [hc, ht, hs]
theorem all_mk {P : Program} [SupP P] {w : World} {K : PySem.W.Frag} {h : Heap} {mg : Str → Option Value} {fa : Addr} (X : K.In h) (G : h.Ns mainGlobals mg) (hfa : mg "law" = some (.ref fa))
    {f_BadName_init : Addr} {od_BadName_init an_BadName_init : Option Addr} {sl_BadName_init : Array (Option Value)} {oc_BadName_init kV_BadName_init dc_BadName_init pm_BadName_init cd_BadName_init ct_BadName_init : Value}
    {f_BadValue_init : Addr} {od_BadValue_init an_BadValue_init : Option Addr} {sl_BadValue_init : Array (Option Value)} {oc_BadValue_init kV_BadValue_init dc_BadValue_init pm_BadValue_init cd_BadValue_init ct_BadValue_init : Value}
    {f_BadTest_init : Addr} {od_BadTest_init an_BadTest_init : Option Addr} {sl_BadTest_init : Array (Option Value)} {oc_BadTest_init kV_BadTest_init dc_BadTest_init pm_BadTest_init cd_BadTest_init ct_BadTest_init : Value}
    {f_BadStep_init : Addr} {od_BadStep_init an_BadStep_init : Option Addr} {sl_BadStep_init : Array (Option Value)} {oc_BadStep_init kV_BadStep_init dc_BadStep_init pm_BadStep_init cd_BadStep_init ct_BadStep_init : Value}
    {f_Twice_init : Addr} {od_Twice_init an_Twice_init : Option Addr} {sl_Twice_init : Array (Option Value)} {oc_Twice_init kV_Twice_init dc_Twice_init pm_Twice_init cd_Twice_init ct_Twice_init : Value}
    {f_TooMany_init : Addr} {od_TooMany_init an_TooMany_init : Option Addr} {sl_TooMany_init : Array (Option Value)} {oc_TooMany_init kV_TooMany_init dc_TooMany_init pm_TooMany_init cd_TooMany_init ct_TooMany_init : Value}
    {f_is_name : Addr} {od_is_name an_is_name : Option Addr} {sl_is_name : Array (Option Value)} {oc_is_name kV_is_name dc_is_name pm_is_name cd_is_name ct_is_name : Value}
    {f_is_int : Addr} {od_is_int an_is_int : Option Addr} {sl_is_int : Array (Option Value)} {oc_is_int kV_is_int dc_is_int pm_is_int cd_is_int ct_is_int : Value}
    {f_check_name : Addr} {od_check_name an_check_name : Option Addr} {sl_check_name : Array (Option Value)} {oc_check_name kV_check_name dc_check_name pm_check_name cd_check_name ct_check_name : Value}
    {f_check_operand : Addr} {od_check_operand an_check_operand : Option Addr} {sl_check_operand : Array (Option Value)} {oc_check_operand kV_check_operand dc_check_operand pm_check_operand cd_check_operand ct_check_operand : Value}
    {f_Step_inner : Addr} {od_Step_inner an_Step_inner : Option Addr} {sl_Step_inner : Array (Option Value)} {oc_Step_inner kV_Step_inner dc_Step_inner pm_Step_inner cd_Step_inner ct_Step_inner : Value}
    {f_Let_init : Addr} {od_Let_init an_Let_init : Option Addr} {sl_Let_init : Array (Option Value)} {oc_Let_init kV_Let_init dc_Let_init pm_Let_init cd_Let_init ct_Let_init : Value}
    {f_Has_init : Addr} {od_Has_init an_Has_init : Option Addr} {sl_Has_init : Array (Option Value)} {oc_Has_init kV_Has_init dc_Has_init pm_Has_init cd_Has_init ct_Has_init : Value}
    {f_Block_init : Addr} {od_Block_init an_Block_init : Option Addr} {sl_Block_init : Array (Option Value)} {oc_Block_init dc_Block_init pm_Block_init cd_Block_init ct_Block_init : Value}
    {kD_Block_init : Addr}
    {kt_Block_init_otherwise : Addr} {kx_Block_init_otherwise : Option Addr} {kq_Block_init_otherwise : Nat} {kw_Block_init_otherwise : Array (Option Value)}
    {f_Block_inner : Addr} {od_Block_inner an_Block_inner : Option Addr} {sl_Block_inner : Array (Option Value)} {oc_Block_inner kV_Block_inner dc_Block_inner pm_Block_inner cd_Block_inner ct_Block_inner : Value}
    {f_When_init : Addr} {od_When_init an_When_init : Option Addr} {sl_When_init : Array (Option Value)} {oc_When_init dc_When_init pm_When_init ct_When_init : Value}
    {co_When_init clc_When_init : Addr} {cx_When_init clx_When_init : Option Addr} {cv_When_init : Array Value} {cs_When_init cls_When_init : Array (Option Value)} {tkf_When_init : Tok}
    {kD_When_init : Addr}
    {kt_When_init_otherwise : Addr} {kx_When_init_otherwise : Option Addr} {kq_When_init_otherwise : Nat} {kw_When_init_otherwise : Array (Option Value)}
    {f_When_made : Addr} {od_When_made an_When_made : Option Addr} {sl_When_made : Array (Option Value)} {oc_When_made kV_When_made dc_When_made pm_When_made cd_When_made ct_When_made : Value}
    {p_When_made : Addr} {rs_When_made : List Value}
    {dT_When_made : Addr} {dx_When_made : Option Addr} {dq_When_made : Nat} {dw_When_made : Array (Option Value)}
    {kt_When_made_otherwise : Addr} {kx_When_made_otherwise : Option Addr} {kq_When_made_otherwise : Nat} {kw_When_made_otherwise : Array (Option Value)}
    {f_Attempt_made : Addr} {od_Attempt_made an_Attempt_made : Option Addr} {sl_Attempt_made : Array (Option Value)} {oc_Attempt_made kV_Attempt_made dc_Attempt_made pm_Attempt_made cd_Attempt_made ct_Attempt_made : Value}
    {p_Attempt_made : Addr} {rs_Attempt_made : List Value}
    {dT_Attempt_made : Addr} {dx_Attempt_made : Option Addr} {dq_Attempt_made : Nat} {dw_Attempt_made : Array (Option Value)}
    {kt_Attempt_made_otherwise : Addr} {kx_Attempt_made_otherwise : Option Addr} {kq_Attempt_made_otherwise : Nat} {kw_Attempt_made_otherwise : Array (Option Value)}
    {f_many_of : Addr} {od_many_of an_many_of : Option Addr} {sl_many_of : Array (Option Value)} {oc_many_of kV_many_of dc_many_of pm_many_of cd_many_of ct_many_of : Value}
    {f_check_unlike : Addr} {od_check_unlike an_check_unlike : Option Addr} {sl_check_unlike : Array (Option Value)} {oc_check_unlike kV_check_unlike dc_check_unlike pm_check_unlike cd_check_unlike ct_check_unlike : Value}
    {f_depth_of : Addr} {od_depth_of an_depth_of : Option Addr} {sl_depth_of : Array (Option Value)} {oc_depth_of kV_depth_of dc_depth_of pm_depth_of cd_depth_of ct_depth_of : Value}
    {f_Handler_init : Addr} {od_Handler_init an_Handler_init : Option Addr} {sl_Handler_init : Array (Option Value)} {oc_Handler_init dc_Handler_init pm_Handler_init cd_Handler_init ct_Handler_init : Value}
    {kD_Handler_init : Addr}
    {kt_Handler_init_params : Addr} {kx_Handler_init_params : Option Addr} {kq_Handler_init_params : Nat} {kw_Handler_init_params : Array (Option Value)}
    {f_Handler_made : Addr} {od_Handler_made an_Handler_made : Option Addr} {sl_Handler_made : Array (Option Value)} {oc_Handler_made kV_Handler_made dc_Handler_made pm_Handler_made cd_Handler_made ct_Handler_made : Value}
    {p_Handler_made : Addr} {rs_Handler_made : List Value}
    {dT_Handler_made : Addr} {dx_Handler_made : Option Addr} {dq_Handler_made : Nat} {dw_Handler_made : Array (Option Value)}
    {kt_Handler_made_params : Addr} {kx_Handler_made_params : Option Addr} {kq_Handler_made_params : Nat} {kw_Handler_made_params : Array (Option Value)}
    {f_law_deck : Addr} {od_law_deck an_law_deck : Option Addr} {sl_law_deck : Array (Option Value)} {oc_law_deck kV_law_deck dc_law_deck pm_law_deck cd_law_deck ct_law_deck : Value}
    {f_law_draw : Addr} {od_law_draw an_law_draw : Option Addr} {sl_law_draw : Array (Option Value)} {oc_law_draw kV_law_draw dc_law_draw pm_law_draw cd_law_draw ct_law_draw : Value}
    {f_law_of : Addr} {od_law_of an_law_of : Option Addr} {sl_law_of : Array (Option Value)} {oc_law_of kV_law_of dc_law_of pm_law_of cd_law_of ct_law_of : Value}
    {f_law_names : Addr} {od_law_names an_law_names : Option Addr} {sl_law_names : Array (Option Value)} {oc_law_names kV_law_names dc_law_names pm_law_names cd_law_names ct_law_names : Value}
    {f_law_nest : Addr} {od_law_nest an_law_nest : Option Addr} {sl_law_nest : Array (Option Value)} {oc_law_nest kV_law_nest dc_law_nest pm_law_nest cd_law_nest ct_law_nest : Value}
    {f_law_inside : Addr} {od_law_inside an_law_inside : Option Addr} {sl_law_inside : Array (Option Value)} {oc_law_inside kV_law_inside dc_law_inside pm_law_inside cd_law_inside ct_law_inside : Value}
    {f_law_steps : Addr} {od_law_steps an_law_steps : Option Addr} {sl_law_steps : Array (Option Value)} {oc_law_steps kV_law_steps dc_law_steps pm_law_steps cd_law_steps ct_law_steps : Value}
    {f_law_marks : Addr} {od_law_marks an_law_marks : Option Addr} {sl_law_marks : Array (Option Value)} {oc_law_marks kV_law_marks dc_law_marks pm_law_marks cd_law_marks ct_law_marks : Value}
    {f_law_is_name : Addr} {od_law_is_name an_law_is_name : Option Addr} {sl_law_is_name : Array (Option Value)} {oc_law_is_name kV_law_is_name dc_law_is_name pm_law_is_name cd_law_is_name ct_law_is_name : Value}
    {f_law_due : Addr} {od_law_due an_law_due : Option Addr} {sl_law_due : Array (Option Value)} {oc_law_due kV_law_due dc_law_due pm_law_due cd_law_due ct_law_due : Value}
    {f_law_told : Addr} {od_law_told an_law_told : Option Addr} {sl_law_told : Array (Option Value)} {oc_law_told kV_law_told dc_law_told pm_law_told cd_law_told ct_law_told : Value}
    {f_law : Addr} {od_law an_law : Option Addr} {sl_law : Array (Option Value)} {oc_law kV_law dc_law pm_law cd_law ct_law : Value}
    {c_BadName : Addr}
    {nm_BadName q_BadName : Str} {N_BadName : Addr} {bs_BadName : List Value} {sn_BadName : List Str} {sub_BadName : List Value} {ab_BadName : Bool} {col_BadName : Option Bool} {dd_BadName : Option Addr} {m0_BadName m1_BadName m2_BadName m3_BadName m5_BadName : Option Value}
    {c_BadValue : Addr}
    {nm_BadValue q_BadValue : Str} {N_BadValue : Addr} {bs_BadValue : List Value} {sn_BadValue : List Str} {sub_BadValue : List Value} {ab_BadValue : Bool} {col_BadValue : Option Bool} {dd_BadValue : Option Addr} {m0_BadValue m1_BadValue m2_BadValue m3_BadValue m5_BadValue : Option Value}
    {c_BadTest : Addr}
    {nm_BadTest q_BadTest : Str} {N_BadTest : Addr} {bs_BadTest : List Value} {sn_BadTest : List Str} {sub_BadTest : List Value} {ab_BadTest : Bool} {col_BadTest : Option Bool} {dd_BadTest : Option Addr} {m0_BadTest m1_BadTest m2_BadTest m3_BadTest m5_BadTest : Option Value}
    {c_BadStep : Addr}
    {nm_BadStep q_BadStep : Str} {N_BadStep : Addr} {bs_BadStep : List Value} {sn_BadStep : List Str} {sub_BadStep : List Value} {ab_BadStep : Bool} {col_BadStep : Option Bool} {dd_BadStep : Option Addr} {m0_BadStep m1_BadStep m2_BadStep m3_BadStep m5_BadStep : Option Value}
    {c_Twice : Addr}
    {nm_Twice q_Twice : Str} {N_Twice : Addr} {bs_Twice : List Value} {sn_Twice : List Str} {sub_Twice : List Value} {ab_Twice : Bool} {col_Twice : Option Bool} {dd_Twice : Option Addr} {m0_Twice m1_Twice m2_Twice m3_Twice m5_Twice : Option Value}
    {c_TooMany : Addr}
    {nm_TooMany q_TooMany : Str} {N_TooMany : Addr} {bs_TooMany : List Value} {sn_TooMany : List Str} {sub_TooMany : List Value} {ab_TooMany : Bool} {col_TooMany : Option Bool} {dd_TooMany : Option Addr} {m0_TooMany m1_TooMany m2_TooMany m3_TooMany m5_TooMany : Option Value}
    {c_Step : Addr}
    {c_Let : Addr}
    {c_Refuse : Addr}
    {c_Has : Addr}
    {c_Typed : Addr}
    {c_Holds : Addr}
    {c_Block : Addr}
    {c_When : Addr}
    {c_Attempt : Addr}
    {c_Handler : Addr}
    {tv_Handler_MOST : Tok}
    {tv_Handler_DEEPEST : Tok}
    {tk_LETTERS : Tok}
    {tk_MOST_SIGNS : Tok}
    {tk_MOST_OPERANDS : Tok}
    {tk_BEYOND : Tok}
    {tk_MOST_PARAMS : Tok}
    (a_BadName_init : PySem.W.findIn K (.ref c_BadName) "__init__" = some (some (.ref f_BadName_init)))
    (t_BadName_init : PySem.W.typeIn K (.ref f_BadName_init) = some (.type "function"))
    (l_BadName_init : K.lookup f_BadName_init = some ⟨oc_BadName_init, od_BadName_init, .func (PySem.W.fnOf "__init__" "BadName.__init__" (defArgs s_BadName_init) (defBody s_BadName_init) (defScope s_BadName_init) .none kV_BadName_init dc_BadName_init pm_BadName_init an_BadName_init cd_BadName_init ct_BadName_init), sl_BadName_init⟩)
    (cc_BadName_init : PySem.W.codeIn K cd_BadName_init "BadName.__init__" = true)
    (k_BadName_init : PySem.W.keepIn K (.ref f_BadName_init) = true)
    (a_BadValue_init : PySem.W.findIn K (.ref c_BadValue) "__init__" = some (some (.ref f_BadValue_init)))
    (t_BadValue_init : PySem.W.typeIn K (.ref f_BadValue_init) = some (.type "function"))
    (l_BadValue_init : K.lookup f_BadValue_init = some ⟨oc_BadValue_init, od_BadValue_init, .func (PySem.W.fnOf "__init__" "BadValue.__init__" (defArgs s_BadValue_init) (defBody s_BadValue_init) (defScope s_BadValue_init) .none kV_BadValue_init dc_BadValue_init pm_BadValue_init an_BadValue_init cd_BadValue_init ct_BadValue_init), sl_BadValue_init⟩)
    (cc_BadValue_init : PySem.W.codeIn K cd_BadValue_init "BadValue.__init__" = true)
    (k_BadValue_init : PySem.W.keepIn K (.ref f_BadValue_init) = true)
    (a_BadTest_init : PySem.W.findIn K (.ref c_BadTest) "__init__" = some (some (.ref f_BadTest_init)))
    (t_BadTest_init : PySem.W.typeIn K (.ref f_BadTest_init) = some (.type "function"))
    (l_BadTest_init : K.lookup f_BadTest_init = some ⟨oc_BadTest_init, od_BadTest_init, .func (PySem.W.fnOf "__init__" "BadTest.__init__" (defArgs s_BadTest_init) (defBody s_BadTest_init) (defScope s_BadTest_init) .none kV_BadTest_init dc_BadTest_init pm_BadTest_init an_BadTest_init cd_BadTest_init ct_BadTest_init), sl_BadTest_init⟩)
    (cc_BadTest_init : PySem.W.codeIn K cd_BadTest_init "BadTest.__init__" = true)
    (k_BadTest_init : PySem.W.keepIn K (.ref f_BadTest_init) = true)
    (a_BadStep_init : PySem.W.findIn K (.ref c_BadStep) "__init__" = some (some (.ref f_BadStep_init)))
    (t_BadStep_init : PySem.W.typeIn K (.ref f_BadStep_init) = some (.type "function"))
    (l_BadStep_init : K.lookup f_BadStep_init = some ⟨oc_BadStep_init, od_BadStep_init, .func (PySem.W.fnOf "__init__" "BadStep.__init__" (defArgs s_BadStep_init) (defBody s_BadStep_init) (defScope s_BadStep_init) .none kV_BadStep_init dc_BadStep_init pm_BadStep_init an_BadStep_init cd_BadStep_init ct_BadStep_init), sl_BadStep_init⟩)
    (cc_BadStep_init : PySem.W.codeIn K cd_BadStep_init "BadStep.__init__" = true)
    (k_BadStep_init : PySem.W.keepIn K (.ref f_BadStep_init) = true)
    (a_Twice_init : PySem.W.findIn K (.ref c_Twice) "__init__" = some (some (.ref f_Twice_init)))
    (t_Twice_init : PySem.W.typeIn K (.ref f_Twice_init) = some (.type "function"))
    (l_Twice_init : K.lookup f_Twice_init = some ⟨oc_Twice_init, od_Twice_init, .func (PySem.W.fnOf "__init__" "Twice.__init__" (defArgs s_Twice_init) (defBody s_Twice_init) (defScope s_Twice_init) .none kV_Twice_init dc_Twice_init pm_Twice_init an_Twice_init cd_Twice_init ct_Twice_init), sl_Twice_init⟩)
    (cc_Twice_init : PySem.W.codeIn K cd_Twice_init "Twice.__init__" = true)
    (k_Twice_init : PySem.W.keepIn K (.ref f_Twice_init) = true)
    (a_TooMany_init : PySem.W.findIn K (.ref c_TooMany) "__init__" = some (some (.ref f_TooMany_init)))
    (t_TooMany_init : PySem.W.typeIn K (.ref f_TooMany_init) = some (.type "function"))
    (l_TooMany_init : K.lookup f_TooMany_init = some ⟨oc_TooMany_init, od_TooMany_init, .func (PySem.W.fnOf "__init__" "TooMany.__init__" (defArgs s_TooMany_init) (defBody s_TooMany_init) (defScope s_TooMany_init) .none kV_TooMany_init dc_TooMany_init pm_TooMany_init an_TooMany_init cd_TooMany_init ct_TooMany_init), sl_TooMany_init⟩)
    (cc_TooMany_init : PySem.W.codeIn K cd_TooMany_init "TooMany.__init__" = true)
    (k_TooMany_init : PySem.W.keepIn K (.ref f_TooMany_init) = true)
    (a_is_name : PySem.W.nsIn K mainGlobals "is_name" = some (some (.ref f_is_name)))
    (l_is_name : K.lookup f_is_name = some ⟨oc_is_name, od_is_name, .func (PySem.W.fnOf "is_name" "is_name" (defArgs s_is_name) (defBody s_is_name) (defScope s_is_name) .none kV_is_name dc_is_name pm_is_name an_is_name cd_is_name ct_is_name), sl_is_name⟩)
    (cc_is_name : PySem.W.codeIn K cd_is_name "is_name" = true)
    (k_is_name : PySem.W.keepIn K (.ref f_is_name) = true)
    (a_is_int : PySem.W.nsIn K mainGlobals "is_int" = some (some (.ref f_is_int)))
    (l_is_int : K.lookup f_is_int = some ⟨oc_is_int, od_is_int, .func (PySem.W.fnOf "is_int" "is_int" (defArgs s_is_int) (defBody s_is_int) (defScope s_is_int) .none kV_is_int dc_is_int pm_is_int an_is_int cd_is_int ct_is_int), sl_is_int⟩)
    (cc_is_int : PySem.W.codeIn K cd_is_int "is_int" = true)
    (k_is_int : PySem.W.keepIn K (.ref f_is_int) = true)
    (a_check_name : PySem.W.nsIn K mainGlobals "check_name" = some (some (.ref f_check_name)))
    (l_check_name : K.lookup f_check_name = some ⟨oc_check_name, od_check_name, .func (PySem.W.fnOf "check_name" "check_name" (defArgs s_check_name) (defBody s_check_name) (defScope s_check_name) .none kV_check_name dc_check_name pm_check_name an_check_name cd_check_name ct_check_name), sl_check_name⟩)
    (cc_check_name : PySem.W.codeIn K cd_check_name "check_name" = true)
    (k_check_name : PySem.W.keepIn K (.ref f_check_name) = true)
    (a_check_operand : PySem.W.nsIn K mainGlobals "check_operand" = some (some (.ref f_check_operand)))
    (l_check_operand : K.lookup f_check_operand = some ⟨oc_check_operand, od_check_operand, .func (PySem.W.fnOf "check_operand" "check_operand" (defArgs s_check_operand) (defBody s_check_operand) (defScope s_check_operand) .none kV_check_operand dc_check_operand pm_check_operand an_check_operand cd_check_operand ct_check_operand), sl_check_operand⟩)
    (cc_check_operand : PySem.W.codeIn K cd_check_operand "check_operand" = true)
    (k_check_operand : PySem.W.keepIn K (.ref f_check_operand) = true)
    (a_Step_inner : PySem.W.findIn K (.ref c_Step) "inner" = some (some (.ref f_Step_inner)))
    (i_Step_inner : PySem.W.isFn K (.ref f_Step_inner) = true)
    (l_Step_inner : K.lookup f_Step_inner = some ⟨oc_Step_inner, od_Step_inner, .func (PySem.W.fnOf "inner" "Step.inner" (defArgs s_Step_inner) (defBody s_Step_inner) (defScope s_Step_inner) .none kV_Step_inner dc_Step_inner pm_Step_inner an_Step_inner cd_Step_inner ct_Step_inner), sl_Step_inner⟩)
    (cc_Step_inner : PySem.W.codeIn K cd_Step_inner "Step.inner" = true)
    (k_Step_inner : PySem.W.keepIn K (.ref f_Step_inner) = true)
    (a_Let_init : PySem.W.findIn K (.ref c_Let) "__init__" = some (some (.ref f_Let_init)))
    (i_Let_init : PySem.W.isFn K (.ref f_Let_init) = true)
    (l_Let_init : K.lookup f_Let_init = some ⟨oc_Let_init, od_Let_init, .func (PySem.W.fnOf "__init__" "Let.__init__" (defArgs s_Let_init) (defBody s_Let_init) (defScope s_Let_init) .none kV_Let_init dc_Let_init pm_Let_init an_Let_init cd_Let_init ct_Let_init), sl_Let_init⟩)
    (cc_Let_init : PySem.W.codeIn K cd_Let_init "Let.__init__" = true)
    (k_Let_init : PySem.W.keepIn K (.ref f_Let_init) = true)
    (a_Has_init : PySem.W.findIn K (.ref c_Has) "__init__" = some (some (.ref f_Has_init)))
    (i_Has_init : PySem.W.isFn K (.ref f_Has_init) = true)
    (l_Has_init : K.lookup f_Has_init = some ⟨oc_Has_init, od_Has_init, .func (PySem.W.fnOf "__init__" "Has.__init__" (defArgs s_Has_init) (defBody s_Has_init) (defScope s_Has_init) .none kV_Has_init dc_Has_init pm_Has_init an_Has_init cd_Has_init ct_Has_init), sl_Has_init⟩)
    (cc_Has_init : PySem.W.codeIn K cd_Has_init "Has.__init__" = true)
    (k_Has_init : PySem.W.keepIn K (.ref f_Has_init) = true)
    (a_Block_init : PySem.W.findIn K (.ref c_Block) "__init__" = some (some (.ref f_Block_init)))
    (i_Block_init : PySem.W.isFn K (.ref f_Block_init) = true)
    (l_Block_init : K.lookup f_Block_init = some ⟨oc_Block_init, od_Block_init, .func (PySem.W.fnOf "__init__" "Block.__init__" (defArgs s_Block_init) (defBody s_Block_init) (defScope s_Block_init) .none (.ref kD_Block_init) dc_Block_init pm_Block_init an_Block_init cd_Block_init ct_Block_init), sl_Block_init⟩)
    (kn_Block_init_otherwise : PySem.W.nsIn K kD_Block_init "otherwise" = some (some (.ref kt_Block_init_otherwise)))
    (kl_Block_init_otherwise : K.lookup kt_Block_init_otherwise = some ⟨.type "tuple", kx_Block_init_otherwise, .seq #[] kq_Block_init_otherwise, kw_Block_init_otherwise⟩)
    (cc_Block_init : PySem.W.codeIn K cd_Block_init "Block.__init__" = true)
    (k_Block_init : PySem.W.keepIn K (.ref f_Block_init) = true)
    (a_Block_inner : PySem.W.findIn K (.ref c_Block) "inner" = some (some (.ref f_Block_inner)))
    (i_Block_inner : PySem.W.isFn K (.ref f_Block_inner) = true)
    (l_Block_inner : K.lookup f_Block_inner = some ⟨oc_Block_inner, od_Block_inner, .func (PySem.W.fnOf "inner" "Block.inner" (defArgs s_Block_inner) (defBody s_Block_inner) (defScope s_Block_inner) .none kV_Block_inner dc_Block_inner pm_Block_inner an_Block_inner cd_Block_inner ct_Block_inner), sl_Block_inner⟩)
    (cc_Block_inner : PySem.W.codeIn K cd_Block_inner "Block.inner" = true)
    (k_Block_inner : PySem.W.keepIn K (.ref f_Block_inner) = true)
    (a_When_init : PySem.W.findIn K (.ref c_When) "__init__" = some (some (.ref f_When_init)))
    (i_When_init : PySem.W.isFn K (.ref f_When_init) = true)
    (l_When_init : K.lookup f_When_init = some ⟨oc_When_init, od_When_init, .func (PySem.W.fnX "__init__" "When.__init__" (defArgs s_When_init) (defBody s_When_init) (defScope s_When_init) [("__class__", clc_When_init)] .none (.ref kD_When_init) dc_When_init pm_When_init an_When_init (.ref co_When_init) ct_When_init), sl_When_init⟩)
    (cof_When_init : K.lookup co_When_init = some ⟨.type "code", cx_When_init, .fields cv_When_init, cs_When_init⟩)
    (cvf_When_init : cv_When_init[2]? = some (.str supFile tkf_When_init))
    (clk_When_init : K.lookup clc_When_init = some ⟨.type "cell", clx_When_init, .cell (some (.ref c_When)), cls_When_init⟩)
    (cdk_When_init : (PySem.W.clsIn K c_When).isSome = true)
    (spa_When_init : PySem.W.ks_superIn K c_When c_When "__init__" = some (some (.ref f_Block_init)))
    (spt_When_init : PySem.W.typeIn K (.ref f_Block_init) = some (.type "function"))
    (spf_When_init : PySem.W.fnIn K f_Block_init = true)
    (spn_When_init : PySem.W.nsIn K cStatics "thirdparty.any" = some none)
    (spm_When_init : PySem.W.mroIn K c_When (.ref c_When) = some true)
    (kn_When_init_otherwise : PySem.W.nsIn K kD_When_init "otherwise" = some (some (.ref kt_When_init_otherwise)))
    (kl_When_init_otherwise : K.lookup kt_When_init_otherwise = some ⟨.type "tuple", kx_When_init_otherwise, .seq #[] kq_When_init_otherwise, kw_When_init_otherwise⟩)
    (cc_When_init : PySem.W.codeIn K (.ref co_When_init) "When.__init__" = true)
    (k_When_init : PySem.W.keepIn K (.ref f_When_init) = true)
    (at_When_made : PySem.W.findCls K (.ref c_When) (.type "type") "made" = some (.get (.builtin "classmethod.__get__") (.ref p_When_made) .none (.ref c_When)))
    (rc_When_made : PySem.W.recIn K p_When_made "classmethod" = some (.ref f_When_made :: rs_When_made))
    (fi_When_made : PySem.W.fnIn K f_When_made = true)
    (l_When_made : K.lookup f_When_made = some ⟨oc_When_made, od_When_made, .func (PySem.W.fnOf "made" "When.made" (defArgs s_When_made) (defBody s_When_made) (defScope s_When_made) (.ref dT_When_made) kV_When_made dc_When_made pm_When_made an_When_made cd_When_made ct_When_made), sl_When_made⟩)
    (dl_When_made : K.lookup dT_When_made = some ⟨.type "tuple", dx_When_made, .seq #[.ref kt_When_made_otherwise] dq_When_made, dw_When_made⟩)
    (kl_When_made_otherwise : K.lookup kt_When_made_otherwise = some ⟨.type "tuple", kx_When_made_otherwise, .seq #[] kq_When_made_otherwise, kw_When_made_otherwise⟩)
    (cc_When_made : PySem.W.codeIn K cd_When_made "When.made" = true)
    (k_When_made : PySem.W.keepIn K (.ref f_When_made) = true)
    (at_Attempt_made : PySem.W.findCls K (.ref c_Attempt) (.type "type") "made" = some (.get (.builtin "classmethod.__get__") (.ref p_Attempt_made) .none (.ref c_Attempt)))
    (rc_Attempt_made : PySem.W.recIn K p_Attempt_made "classmethod" = some (.ref f_Attempt_made :: rs_Attempt_made))
    (fi_Attempt_made : PySem.W.fnIn K f_Attempt_made = true)
    (l_Attempt_made : K.lookup f_Attempt_made = some ⟨oc_Attempt_made, od_Attempt_made, .func (PySem.W.fnOf "made" "Attempt.made" (defArgs s_Attempt_made) (defBody s_Attempt_made) (defScope s_Attempt_made) (.ref dT_Attempt_made) kV_Attempt_made dc_Attempt_made pm_Attempt_made an_Attempt_made cd_Attempt_made ct_Attempt_made), sl_Attempt_made⟩)
    (dl_Attempt_made : K.lookup dT_Attempt_made = some ⟨.type "tuple", dx_Attempt_made, .seq #[.ref kt_Attempt_made_otherwise] dq_Attempt_made, dw_Attempt_made⟩)
    (kl_Attempt_made_otherwise : K.lookup kt_Attempt_made_otherwise = some ⟨.type "tuple", kx_Attempt_made_otherwise, .seq #[] kq_Attempt_made_otherwise, kw_Attempt_made_otherwise⟩)
    (cc_Attempt_made : PySem.W.codeIn K cd_Attempt_made "Attempt.made" = true)
    (k_Attempt_made : PySem.W.keepIn K (.ref f_Attempt_made) = true)
    (a_many_of : PySem.W.nsIn K mainGlobals "many_of" = some (some (.ref f_many_of)))
    (l_many_of : K.lookup f_many_of = some ⟨oc_many_of, od_many_of, .func (PySem.W.fnOf "many_of" "many_of" (defArgs s_many_of) (defBody s_many_of) (defScope s_many_of) .none kV_many_of dc_many_of pm_many_of an_many_of cd_many_of ct_many_of), sl_many_of⟩)
    (cc_many_of : PySem.W.codeIn K cd_many_of "many_of" = true)
    (k_many_of : PySem.W.keepIn K (.ref f_many_of) = true)
    (a_check_unlike : PySem.W.nsIn K mainGlobals "check_unlike" = some (some (.ref f_check_unlike)))
    (l_check_unlike : K.lookup f_check_unlike = some ⟨oc_check_unlike, od_check_unlike, .func (PySem.W.fnOf "check_unlike" "check_unlike" (defArgs s_check_unlike) (defBody s_check_unlike) (defScope s_check_unlike) .none kV_check_unlike dc_check_unlike pm_check_unlike an_check_unlike cd_check_unlike ct_check_unlike), sl_check_unlike⟩)
    (cc_check_unlike : PySem.W.codeIn K cd_check_unlike "check_unlike" = true)
    (k_check_unlike : PySem.W.keepIn K (.ref f_check_unlike) = true)
    (a_depth_of : PySem.W.nsIn K mainGlobals "depth_of" = some (some (.ref f_depth_of)))
    (l_depth_of : K.lookup f_depth_of = some ⟨oc_depth_of, od_depth_of, .func (PySem.W.fnOf "depth_of" "depth_of" (defArgs s_depth_of) (defBody s_depth_of) (defScope s_depth_of) .none kV_depth_of dc_depth_of pm_depth_of an_depth_of cd_depth_of ct_depth_of), sl_depth_of⟩)
    (cc_depth_of : PySem.W.codeIn K cd_depth_of "depth_of" = true)
    (k_depth_of : PySem.W.keepIn K (.ref f_depth_of) = true)
    (a_Handler_init : PySem.W.findIn K (.ref c_Handler) "__init__" = some (some (.ref f_Handler_init)))
    (i_Handler_init : PySem.W.isFn K (.ref f_Handler_init) = true)
    (l_Handler_init : K.lookup f_Handler_init = some ⟨oc_Handler_init, od_Handler_init, .func (PySem.W.fnOf "__init__" "Handler.__init__" (defArgs s_Handler_init) (defBody s_Handler_init) (defScope s_Handler_init) .none (.ref kD_Handler_init) dc_Handler_init pm_Handler_init an_Handler_init cd_Handler_init ct_Handler_init), sl_Handler_init⟩)
    (kn_Handler_init_params : PySem.W.nsIn K kD_Handler_init "params" = some (some (.ref kt_Handler_init_params)))
    (kl_Handler_init_params : K.lookup kt_Handler_init_params = some ⟨.type "tuple", kx_Handler_init_params, .seq #[] kq_Handler_init_params, kw_Handler_init_params⟩)
    (cc_Handler_init : PySem.W.codeIn K cd_Handler_init "Handler.__init__" = true)
    (k_Handler_init : PySem.W.keepIn K (.ref f_Handler_init) = true)
    (at_Handler_made : PySem.W.findCls K (.ref c_Handler) (.type "type") "made" = some (.get (.builtin "classmethod.__get__") (.ref p_Handler_made) .none (.ref c_Handler)))
    (rc_Handler_made : PySem.W.recIn K p_Handler_made "classmethod" = some (.ref f_Handler_made :: rs_Handler_made))
    (fi_Handler_made : PySem.W.fnIn K f_Handler_made = true)
    (l_Handler_made : K.lookup f_Handler_made = some ⟨oc_Handler_made, od_Handler_made, .func (PySem.W.fnOf "made" "Handler.made" (defArgs s_Handler_made) (defBody s_Handler_made) (defScope s_Handler_made) (.ref dT_Handler_made) kV_Handler_made dc_Handler_made pm_Handler_made an_Handler_made cd_Handler_made ct_Handler_made), sl_Handler_made⟩)
    (dl_Handler_made : K.lookup dT_Handler_made = some ⟨.type "tuple", dx_Handler_made, .seq #[.ref kt_Handler_made_params] dq_Handler_made, dw_Handler_made⟩)
    (kl_Handler_made_params : K.lookup kt_Handler_made_params = some ⟨.type "tuple", kx_Handler_made_params, .seq #[] kq_Handler_made_params, kw_Handler_made_params⟩)
    (cc_Handler_made : PySem.W.codeIn K cd_Handler_made "Handler.made" = true)
    (k_Handler_made : PySem.W.keepIn K (.ref f_Handler_made) = true)
    (a_law_deck : PySem.W.nsIn K mainGlobals "_law_deck" = some (some (.ref f_law_deck)))
    (l_law_deck : K.lookup f_law_deck = some ⟨oc_law_deck, od_law_deck, .func (PySem.W.fnOf "_law_deck" "_law_deck" (defArgs s_law_deck) (defBody s_law_deck) (defScope s_law_deck) .none kV_law_deck dc_law_deck pm_law_deck an_law_deck cd_law_deck ct_law_deck), sl_law_deck⟩)
    (cc_law_deck : PySem.W.codeIn K cd_law_deck "_law_deck" = true)
    (k_law_deck : PySem.W.keepIn K (.ref f_law_deck) = true)
    (a_law_draw : PySem.W.nsIn K mainGlobals "_law_draw" = some (some (.ref f_law_draw)))
    (l_law_draw : K.lookup f_law_draw = some ⟨oc_law_draw, od_law_draw, .func (PySem.W.fnOf "_law_draw" "_law_draw" (defArgs s_law_draw) (defBody s_law_draw) (defScope s_law_draw) .none kV_law_draw dc_law_draw pm_law_draw an_law_draw cd_law_draw ct_law_draw), sl_law_draw⟩)
    (cc_law_draw : PySem.W.codeIn K cd_law_draw "_law_draw" = true)
    (k_law_draw : PySem.W.keepIn K (.ref f_law_draw) = true)
    (a_law_of : PySem.W.nsIn K mainGlobals "_law_of" = some (some (.ref f_law_of)))
    (l_law_of : K.lookup f_law_of = some ⟨oc_law_of, od_law_of, .func (PySem.W.fnOf "_law_of" "_law_of" (defArgs s_law_of) (defBody s_law_of) (defScope s_law_of) .none kV_law_of dc_law_of pm_law_of an_law_of cd_law_of ct_law_of), sl_law_of⟩)
    (cc_law_of : PySem.W.codeIn K cd_law_of "_law_of" = true)
    (k_law_of : PySem.W.keepIn K (.ref f_law_of) = true)
    (a_law_names : PySem.W.nsIn K mainGlobals "_law_names" = some (some (.ref f_law_names)))
    (l_law_names : K.lookup f_law_names = some ⟨oc_law_names, od_law_names, .func (PySem.W.fnOf "_law_names" "_law_names" (defArgs s_law_names) (defBody s_law_names) (defScope s_law_names) .none kV_law_names dc_law_names pm_law_names an_law_names cd_law_names ct_law_names), sl_law_names⟩)
    (cc_law_names : PySem.W.codeIn K cd_law_names "_law_names" = true)
    (k_law_names : PySem.W.keepIn K (.ref f_law_names) = true)
    (a_law_nest : PySem.W.nsIn K mainGlobals "_law_nest" = some (some (.ref f_law_nest)))
    (l_law_nest : K.lookup f_law_nest = some ⟨oc_law_nest, od_law_nest, .func (PySem.W.fnOf "_law_nest" "_law_nest" (defArgs s_law_nest) (defBody s_law_nest) (defScope s_law_nest) .none kV_law_nest dc_law_nest pm_law_nest an_law_nest cd_law_nest ct_law_nest), sl_law_nest⟩)
    (cc_law_nest : PySem.W.codeIn K cd_law_nest "_law_nest" = true)
    (k_law_nest : PySem.W.keepIn K (.ref f_law_nest) = true)
    (a_law_inside : PySem.W.nsIn K mainGlobals "_law_inside" = some (some (.ref f_law_inside)))
    (l_law_inside : K.lookup f_law_inside = some ⟨oc_law_inside, od_law_inside, .func (PySem.W.fnOf "_law_inside" "_law_inside" (defArgs s_law_inside) (defBody s_law_inside) (defScope s_law_inside) .none kV_law_inside dc_law_inside pm_law_inside an_law_inside cd_law_inside ct_law_inside), sl_law_inside⟩)
    (cc_law_inside : PySem.W.codeIn K cd_law_inside "_law_inside" = true)
    (k_law_inside : PySem.W.keepIn K (.ref f_law_inside) = true)
    (a_law_steps : PySem.W.nsIn K mainGlobals "_law_steps" = some (some (.ref f_law_steps)))
    (l_law_steps : K.lookup f_law_steps = some ⟨oc_law_steps, od_law_steps, .func (PySem.W.fnOf "_law_steps" "_law_steps" (defArgs s_law_steps) (defBody s_law_steps) (defScope s_law_steps) .none kV_law_steps dc_law_steps pm_law_steps an_law_steps cd_law_steps ct_law_steps), sl_law_steps⟩)
    (cc_law_steps : PySem.W.codeIn K cd_law_steps "_law_steps" = true)
    (k_law_steps : PySem.W.keepIn K (.ref f_law_steps) = true)
    (a_law_marks : PySem.W.nsIn K mainGlobals "_law_marks" = some (some (.ref f_law_marks)))
    (l_law_marks : K.lookup f_law_marks = some ⟨oc_law_marks, od_law_marks, .func (PySem.W.fnOf "_law_marks" "_law_marks" (defArgs s_law_marks) (defBody s_law_marks) (defScope s_law_marks) .none kV_law_marks dc_law_marks pm_law_marks an_law_marks cd_law_marks ct_law_marks), sl_law_marks⟩)
    (cc_law_marks : PySem.W.codeIn K cd_law_marks "_law_marks" = true)
    (k_law_marks : PySem.W.keepIn K (.ref f_law_marks) = true)
    (a_law_is_name : PySem.W.nsIn K mainGlobals "_law_is_name" = some (some (.ref f_law_is_name)))
    (l_law_is_name : K.lookup f_law_is_name = some ⟨oc_law_is_name, od_law_is_name, .func (PySem.W.fnOf "_law_is_name" "_law_is_name" (defArgs s_law_is_name) (defBody s_law_is_name) (defScope s_law_is_name) .none kV_law_is_name dc_law_is_name pm_law_is_name an_law_is_name cd_law_is_name ct_law_is_name), sl_law_is_name⟩)
    (cc_law_is_name : PySem.W.codeIn K cd_law_is_name "_law_is_name" = true)
    (k_law_is_name : PySem.W.keepIn K (.ref f_law_is_name) = true)
    (a_law_due : PySem.W.nsIn K mainGlobals "_law_due" = some (some (.ref f_law_due)))
    (l_law_due : K.lookup f_law_due = some ⟨oc_law_due, od_law_due, .func (PySem.W.fnOf "_law_due" "_law_due" (defArgs s_law_due) (defBody s_law_due) (defScope s_law_due) .none kV_law_due dc_law_due pm_law_due an_law_due cd_law_due ct_law_due), sl_law_due⟩)
    (cc_law_due : PySem.W.codeIn K cd_law_due "_law_due" = true)
    (k_law_due : PySem.W.keepIn K (.ref f_law_due) = true)
    (a_law_told : PySem.W.nsIn K mainGlobals "_law_told" = some (some (.ref f_law_told)))
    (l_law_told : K.lookup f_law_told = some ⟨oc_law_told, od_law_told, .func (PySem.W.fnOf "_law_told" "_law_told" (defArgs s_law_told) (defBody s_law_told) (defScope s_law_told) .none kV_law_told dc_law_told pm_law_told an_law_told cd_law_told ct_law_told), sl_law_told⟩)
    (cc_law_told : PySem.W.codeIn K cd_law_told "_law_told" = true)
    (k_law_told : PySem.W.keepIn K (.ref f_law_told) = true)
    (a_law : PySem.W.nsIn K mainGlobals "law" = some (some (.ref f_law)))
    (l_law : K.lookup f_law = some ⟨oc_law, od_law, .func (PySem.W.fnOf "law" "law" (defArgs s_law) (defBody s_law) (defScope s_law) .none kV_law dc_law pm_law an_law cd_law ct_law), sl_law⟩)
    (cc_law : PySem.W.codeIn K cd_law "law" = true)
    (k_law : PySem.W.keepIn K (.ref f_law) = true)
    (n_BadName : PySem.W.nsIn K mainGlobals "BadName" = some (some (.ref c_BadName)))
    (x_BadName : K.lookup c_BadName = some (excClassObj nm_BadName q_BadName c_BadName N_BadName bs_BadName [.type "ValueError", .type "Exception", .type "BaseException", .type "object"] true sn_BadName sub_BadName ab_BadName col_BadName dd_BadName m0_BadName m1_BadName m2_BadName m3_BadName m5_BadName "ValueError.__new__"))
    (sa_BadName : PySem.W.findIn K (.ref c_BadName) "__setattr__" = some (some (.builtin "object.__setattr__")))
    (ga_BadName : PySem.W.findIn K (.ref c_BadName) "__getattribute__" = some (some (.builtin "BaseException.__getattribute__")))
    (gg_BadName : PySem.W.findIn K (.ref c_BadName) "__getattr__" = some none)
    (eC_BadName : PySem.W.subIn K (.ref c_BadName) (.type "BaseException") = some true)
    (tC_BadName : PySem.W.typeIn K (.ref c_BadName) = some (.type "type"))
    (kC_BadName : PySem.W.keepIn K (.ref c_BadName) = true)
    (hC_BadName : PySem.W.hasDictIn K c_BadName = true)
    (iC_BadName : PySem.W.isClsIn K c_BadName = true)
    (sC_BadName : PySem.W.subIn K (.ref c_BadName) (.ref c_BadName) = some true)
    (va_BadName : PySem.W.findIn K (.ref c_BadName) "__class__" = some (some (.builtin "object.__class__")))
    (vn_BadName : PySem.W.specialIn K (.builtin "object.__class__") "__get__" = some (some (.builtin "getset_descriptor.__get__")))
    (vt_BadName : PySem.W.takesIn K (.builtin "object.__class__") = some true)
    (vm_BadName : PySem.W.mroIn K c_BadName (.type "object") = some true)
    (z_BadName_name : PySem.W.findIn K (.ref c_BadName) "name" = some none)
    (n_BadValue : PySem.W.nsIn K mainGlobals "BadValue" = some (some (.ref c_BadValue)))
    (x_BadValue : K.lookup c_BadValue = some (excClassObj nm_BadValue q_BadValue c_BadValue N_BadValue bs_BadValue [.type "ValueError", .type "Exception", .type "BaseException", .type "object"] true sn_BadValue sub_BadValue ab_BadValue col_BadValue dd_BadValue m0_BadValue m1_BadValue m2_BadValue m3_BadValue m5_BadValue "ValueError.__new__"))
    (sa_BadValue : PySem.W.findIn K (.ref c_BadValue) "__setattr__" = some (some (.builtin "object.__setattr__")))
    (ga_BadValue : PySem.W.findIn K (.ref c_BadValue) "__getattribute__" = some (some (.builtin "BaseException.__getattribute__")))
    (gg_BadValue : PySem.W.findIn K (.ref c_BadValue) "__getattr__" = some none)
    (eC_BadValue : PySem.W.subIn K (.ref c_BadValue) (.type "BaseException") = some true)
    (tC_BadValue : PySem.W.typeIn K (.ref c_BadValue) = some (.type "type"))
    (kC_BadValue : PySem.W.keepIn K (.ref c_BadValue) = true)
    (hC_BadValue : PySem.W.hasDictIn K c_BadValue = true)
    (iC_BadValue : PySem.W.isClsIn K c_BadValue = true)
    (sC_BadValue : PySem.W.subIn K (.ref c_BadValue) (.ref c_BadValue) = some true)
    (z_BadValue_value : PySem.W.findIn K (.ref c_BadValue) "value" = some none)
    (n_BadTest : PySem.W.nsIn K mainGlobals "BadTest" = some (some (.ref c_BadTest)))
    (x_BadTest : K.lookup c_BadTest = some (excClassObj nm_BadTest q_BadTest c_BadTest N_BadTest bs_BadTest [.type "ValueError", .type "Exception", .type "BaseException", .type "object"] true sn_BadTest sub_BadTest ab_BadTest col_BadTest dd_BadTest m0_BadTest m1_BadTest m2_BadTest m3_BadTest m5_BadTest "ValueError.__new__"))
    (sa_BadTest : PySem.W.findIn K (.ref c_BadTest) "__setattr__" = some (some (.builtin "object.__setattr__")))
    (ga_BadTest : PySem.W.findIn K (.ref c_BadTest) "__getattribute__" = some (some (.builtin "BaseException.__getattribute__")))
    (gg_BadTest : PySem.W.findIn K (.ref c_BadTest) "__getattr__" = some none)
    (eC_BadTest : PySem.W.subIn K (.ref c_BadTest) (.type "BaseException") = some true)
    (tC_BadTest : PySem.W.typeIn K (.ref c_BadTest) = some (.type "type"))
    (kC_BadTest : PySem.W.keepIn K (.ref c_BadTest) = true)
    (hC_BadTest : PySem.W.hasDictIn K c_BadTest = true)
    (iC_BadTest : PySem.W.isClsIn K c_BadTest = true)
    (sC_BadTest : PySem.W.subIn K (.ref c_BadTest) (.ref c_BadTest) = some true)
    (z_BadTest_test : PySem.W.findIn K (.ref c_BadTest) "test" = some none)
    (n_BadStep : PySem.W.nsIn K mainGlobals "BadStep" = some (some (.ref c_BadStep)))
    (x_BadStep : K.lookup c_BadStep = some (excClassObj nm_BadStep q_BadStep c_BadStep N_BadStep bs_BadStep [.type "ValueError", .type "Exception", .type "BaseException", .type "object"] true sn_BadStep sub_BadStep ab_BadStep col_BadStep dd_BadStep m0_BadStep m1_BadStep m2_BadStep m3_BadStep m5_BadStep "ValueError.__new__"))
    (sa_BadStep : PySem.W.findIn K (.ref c_BadStep) "__setattr__" = some (some (.builtin "object.__setattr__")))
    (ga_BadStep : PySem.W.findIn K (.ref c_BadStep) "__getattribute__" = some (some (.builtin "BaseException.__getattribute__")))
    (gg_BadStep : PySem.W.findIn K (.ref c_BadStep) "__getattr__" = some none)
    (eC_BadStep : PySem.W.subIn K (.ref c_BadStep) (.type "BaseException") = some true)
    (tC_BadStep : PySem.W.typeIn K (.ref c_BadStep) = some (.type "type"))
    (kC_BadStep : PySem.W.keepIn K (.ref c_BadStep) = true)
    (hC_BadStep : PySem.W.hasDictIn K c_BadStep = true)
    (iC_BadStep : PySem.W.isClsIn K c_BadStep = true)
    (sC_BadStep : PySem.W.subIn K (.ref c_BadStep) (.ref c_BadStep) = some true)
    (va_BadStep : PySem.W.findIn K (.ref c_BadStep) "__class__" = some (some (.builtin "object.__class__")))
    (vn_BadStep : PySem.W.specialIn K (.builtin "object.__class__") "__get__" = some (some (.builtin "getset_descriptor.__get__")))
    (vt_BadStep : PySem.W.takesIn K (.builtin "object.__class__") = some true)
    (vm_BadStep : PySem.W.mroIn K c_BadStep (.type "object") = some true)
    (xs_BadStep_BadName : PySem.W.subIn K (.ref c_BadStep) (.ref c_BadName) = some false)
    (z_BadStep_index : PySem.W.findIn K (.ref c_BadStep) "index" = some none)
    (n_Twice : PySem.W.nsIn K mainGlobals "Twice" = some (some (.ref c_Twice)))
    (x_Twice : K.lookup c_Twice = some (excClassObj nm_Twice q_Twice c_Twice N_Twice bs_Twice [.type "ValueError", .type "Exception", .type "BaseException", .type "object"] true sn_Twice sub_Twice ab_Twice col_Twice dd_Twice m0_Twice m1_Twice m2_Twice m3_Twice m5_Twice "ValueError.__new__"))
    (sa_Twice : PySem.W.findIn K (.ref c_Twice) "__setattr__" = some (some (.builtin "object.__setattr__")))
    (ga_Twice : PySem.W.findIn K (.ref c_Twice) "__getattribute__" = some (some (.builtin "BaseException.__getattribute__")))
    (gg_Twice : PySem.W.findIn K (.ref c_Twice) "__getattr__" = some none)
    (eC_Twice : PySem.W.subIn K (.ref c_Twice) (.type "BaseException") = some true)
    (tC_Twice : PySem.W.typeIn K (.ref c_Twice) = some (.type "type"))
    (kC_Twice : PySem.W.keepIn K (.ref c_Twice) = true)
    (hC_Twice : PySem.W.hasDictIn K c_Twice = true)
    (iC_Twice : PySem.W.isClsIn K c_Twice = true)
    (sC_Twice : PySem.W.subIn K (.ref c_Twice) (.ref c_Twice) = some true)
    (va_Twice : PySem.W.findIn K (.ref c_Twice) "__class__" = some (some (.builtin "object.__class__")))
    (vn_Twice : PySem.W.specialIn K (.builtin "object.__class__") "__get__" = some (some (.builtin "getset_descriptor.__get__")))
    (vt_Twice : PySem.W.takesIn K (.builtin "object.__class__") = some true)
    (vm_Twice : PySem.W.mroIn K c_Twice (.type "object") = some true)
    (xs_Twice_BadName : PySem.W.subIn K (.ref c_Twice) (.ref c_BadName) = some false)
    (xs_Twice_BadStep : PySem.W.subIn K (.ref c_Twice) (.ref c_BadStep) = some false)
    (z_Twice_name : PySem.W.findIn K (.ref c_Twice) "name" = some none)
    (n_TooMany : PySem.W.nsIn K mainGlobals "TooMany" = some (some (.ref c_TooMany)))
    (x_TooMany : K.lookup c_TooMany = some (excClassObj nm_TooMany q_TooMany c_TooMany N_TooMany bs_TooMany [.type "OverflowError", .type "ArithmeticError", .type "Exception", .type "BaseException", .type "object"] true sn_TooMany sub_TooMany ab_TooMany col_TooMany dd_TooMany m0_TooMany m1_TooMany m2_TooMany m3_TooMany m5_TooMany "OverflowError.__new__"))
    (sa_TooMany : PySem.W.findIn K (.ref c_TooMany) "__setattr__" = some (some (.builtin "object.__setattr__")))
    (ga_TooMany : PySem.W.findIn K (.ref c_TooMany) "__getattribute__" = some (some (.builtin "BaseException.__getattribute__")))
    (gg_TooMany : PySem.W.findIn K (.ref c_TooMany) "__getattr__" = some none)
    (eC_TooMany : PySem.W.subIn K (.ref c_TooMany) (.type "BaseException") = some true)
    (tC_TooMany : PySem.W.typeIn K (.ref c_TooMany) = some (.type "type"))
    (kC_TooMany : PySem.W.keepIn K (.ref c_TooMany) = true)
    (hC_TooMany : PySem.W.hasDictIn K c_TooMany = true)
    (iC_TooMany : PySem.W.isClsIn K c_TooMany = true)
    (sC_TooMany : PySem.W.subIn K (.ref c_TooMany) (.ref c_TooMany) = some true)
    (va_TooMany : PySem.W.findIn K (.ref c_TooMany) "__class__" = some (some (.builtin "object.__class__")))
    (vn_TooMany : PySem.W.specialIn K (.builtin "object.__class__") "__get__" = some (some (.builtin "getset_descriptor.__get__")))
    (vt_TooMany : PySem.W.takesIn K (.builtin "object.__class__") = some true)
    (vm_TooMany : PySem.W.mroIn K c_TooMany (.type "object") = some true)
    (xs_TooMany_BadName : PySem.W.subIn K (.ref c_TooMany) (.ref c_BadName) = some false)
    (xs_TooMany_BadStep : PySem.W.subIn K (.ref c_TooMany) (.ref c_BadStep) = some false)
    (xs_TooMany_Twice : PySem.W.subIn K (.ref c_TooMany) (.ref c_Twice) = some false)
    (z_TooMany_limit : PySem.W.findIn K (.ref c_TooMany) "limit" = some none)
    (n_Step : PySem.W.nsIn K mainGlobals "Step" = some (some (.ref c_Step)))
    (pg_Step : PySem.W.plainGet K c_Step Str.empty = true)
    (hd_Step : PySem.W.hasDictIn K c_Step = true)
    (po_Step : PySem.W.plainOver K c_Step = true)
    (sa_Step : PySem.W.findIn K (.ref c_Step) "__setattr__" = some (some (.builtin "object.__setattr__")))
    (ha_Step : PySem.W.findIn K (.ref c_Step) "__class__" = some (some (.builtin "object.__class__")))
    (hn_Step : PySem.W.specialIn K (.builtin "object.__class__") "__get__" = some (some (.builtin "getset_descriptor.__get__")))
    (ht_Step : PySem.W.takesIn K (.builtin "object.__class__") = some true)
    (hm_Step : PySem.W.mroIn K c_Step (.type "object") = some true)
    (ka_Step_NoneType : PySem.W.subIn K (.type "NoneType") (.ref c_Step) = some false)
    (ty_Step : PySem.W.typeIn K (.ref c_Step) = some (.type "type"))
    (ka_Step_int : PySem.W.subIn K (.type "int") (.ref c_Step) = some false)
    (ka_Step_bool : PySem.W.subIn K (.type "bool") (.ref c_Step) = some false)
    (ka_Step_str : PySem.W.subIn K (.type "str") (.ref c_Step) = some false)
    (ka_Step_list : PySem.W.subIn K (.type "list") (.ref c_Step) = some false)
    (ka_Step_tuple : PySem.W.subIn K (.type "tuple") (.ref c_Step) = some false)
    (n_Let : PySem.W.nsIn K mainGlobals "Let" = some (some (.ref c_Let)))
    (pg_Let : PySem.W.plainGet K c_Let Str.empty = true)
    (hd_Let : PySem.W.hasDictIn K c_Let = true)
    (po_Let : PySem.W.plainOver K c_Let = true)
    (sa_Let : PySem.W.findIn K (.ref c_Let) "__setattr__" = some (some (.builtin "object.__setattr__")))
    (ha_Let : PySem.W.findIn K (.ref c_Let) "__class__" = some (some (.builtin "object.__class__")))
    (hn_Let : PySem.W.specialIn K (.builtin "object.__class__") "__get__" = some (some (.builtin "getset_descriptor.__get__")))
    (ht_Let : PySem.W.takesIn K (.builtin "object.__class__") = some true)
    (hm_Let : PySem.W.mroIn K c_Let (.type "object") = some true)
    (sb_Let_Step : PySem.W.subIn K (.ref c_Let) (.ref c_Step) = some true)
    (sc_Let_Step : PySem.W.isClsIn K c_Step = true)
    (st_Let_Step : PySem.W.typeIn K (.ref c_Step) = some (.type "type"))
    (ka_Let_NoneType : PySem.W.subIn K (.type "NoneType") (.ref c_Let) = some false)
    (ty_Let : PySem.W.typeIn K (.ref c_Let) = some (.type "type"))
    (ka_Let_int : PySem.W.subIn K (.type "int") (.ref c_Let) = some false)
    (ka_Let_bool : PySem.W.subIn K (.type "bool") (.ref c_Let) = some false)
    (ka_Let_str : PySem.W.subIn K (.type "str") (.ref c_Let) = some false)
    (ka_Let_list : PySem.W.subIn K (.type "list") (.ref c_Let) = some false)
    (ka_Let_tuple : PySem.W.subIn K (.type "tuple") (.ref c_Let) = some false)
    (ih_Let_inner : PySem.W.findIn K (.ref c_Let) "inner" = some (some (.ref f_Step_inner)))
    (ss_Let : PySem.W.subIn K (.ref c_Let) (.ref c_Let) = some true)
    (nb_Let_Refuse : PySem.W.subIn K (.ref c_Let) (.ref c_Refuse) = some false)
    (ic_Refuse : PySem.W.isClsIn K c_Refuse = true)
    (it_Refuse : PySem.W.typeIn K (.ref c_Refuse) = some (.type "type"))
    (nb_Let_Block : PySem.W.subIn K (.ref c_Let) (.ref c_Block) = some false)
    (ic_Block : PySem.W.isClsIn K c_Block = true)
    (it_Block : PySem.W.typeIn K (.ref c_Block) = some (.type "type"))
    (nb_Let_Attempt : PySem.W.subIn K (.ref c_Let) (.ref c_Attempt) = some false)
    (ic_Attempt : PySem.W.isClsIn K c_Attempt = true)
    (it_Attempt : PySem.W.typeIn K (.ref c_Attempt) = some (.type "type"))
    (nb_Let_When : PySem.W.subIn K (.ref c_Let) (.ref c_When) = some false)
    (ic_When : PySem.W.isClsIn K c_When = true)
    (it_When : PySem.W.typeIn K (.ref c_When) = some (.type "type"))
    (na_Let_into : PySem.W.findIn K (.ref c_Let) "into" = some none)
    (na_Let_value : PySem.W.findIn K (.ref c_Let) "value" = some none)
    (mk_Let : PySem.W.makesIn K c_Let = true)
    (kc_Let : PySem.W.keepIn K (.ref c_Let) = true)
    (n_Refuse : PySem.W.nsIn K mainGlobals "Refuse" = some (some (.ref c_Refuse)))
    (pg_Refuse : PySem.W.plainGet K c_Refuse Str.empty = true)
    (hd_Refuse : PySem.W.hasDictIn K c_Refuse = true)
    (po_Refuse : PySem.W.plainOver K c_Refuse = true)
    (sa_Refuse : PySem.W.findIn K (.ref c_Refuse) "__setattr__" = some (some (.builtin "object.__setattr__")))
    (ha_Refuse : PySem.W.findIn K (.ref c_Refuse) "__class__" = some (some (.builtin "object.__class__")))
    (hn_Refuse : PySem.W.specialIn K (.builtin "object.__class__") "__get__" = some (some (.builtin "getset_descriptor.__get__")))
    (ht_Refuse : PySem.W.takesIn K (.builtin "object.__class__") = some true)
    (hm_Refuse : PySem.W.mroIn K c_Refuse (.type "object") = some true)
    (sb_Refuse_Step : PySem.W.subIn K (.ref c_Refuse) (.ref c_Step) = some true)
    (sc_Refuse_Step : PySem.W.isClsIn K c_Step = true)
    (st_Refuse_Step : PySem.W.typeIn K (.ref c_Step) = some (.type "type"))
    (ka_Refuse_NoneType : PySem.W.subIn K (.type "NoneType") (.ref c_Refuse) = some false)
    (ty_Refuse : PySem.W.typeIn K (.ref c_Refuse) = some (.type "type"))
    (ka_Refuse_int : PySem.W.subIn K (.type "int") (.ref c_Refuse) = some false)
    (ka_Refuse_bool : PySem.W.subIn K (.type "bool") (.ref c_Refuse) = some false)
    (ka_Refuse_str : PySem.W.subIn K (.type "str") (.ref c_Refuse) = some false)
    (ka_Refuse_list : PySem.W.subIn K (.type "list") (.ref c_Refuse) = some false)
    (ka_Refuse_tuple : PySem.W.subIn K (.type "tuple") (.ref c_Refuse) = some false)
    (ih_Refuse_inner : PySem.W.findIn K (.ref c_Refuse) "inner" = some (some (.ref f_Step_inner)))
    (ss_Refuse : PySem.W.subIn K (.ref c_Refuse) (.ref c_Refuse) = some true)
    (nb_Refuse_Block : PySem.W.subIn K (.ref c_Refuse) (.ref c_Block) = some false)
    (nb_Refuse_Attempt : PySem.W.subIn K (.ref c_Refuse) (.ref c_Attempt) = some false)
    (nb_Refuse_When : PySem.W.subIn K (.ref c_Refuse) (.ref c_When) = some false)
    (mk_Refuse : PySem.W.makesIn K c_Refuse = true)
    (kc_Refuse : PySem.W.keepIn K (.ref c_Refuse) = true)
    (zi_Refuse : PySem.W.findIn K (.ref c_Refuse) "__init__" = some (some (.builtin "object.__init__")))
    (n_Has : PySem.W.nsIn K mainGlobals "Has" = some (some (.ref c_Has)))
    (pg_Has : PySem.W.plainGet K c_Has Str.empty = true)
    (hd_Has : PySem.W.hasDictIn K c_Has = true)
    (po_Has : PySem.W.plainOver K c_Has = true)
    (sa_Has : PySem.W.findIn K (.ref c_Has) "__setattr__" = some (some (.builtin "object.__setattr__")))
    (ha_Has : PySem.W.findIn K (.ref c_Has) "__class__" = some (some (.builtin "object.__class__")))
    (hn_Has : PySem.W.specialIn K (.builtin "object.__class__") "__get__" = some (some (.builtin "getset_descriptor.__get__")))
    (ht_Has : PySem.W.takesIn K (.builtin "object.__class__") = some true)
    (hm_Has : PySem.W.mroIn K c_Has (.type "object") = some true)
    (ss_Has : PySem.W.subIn K (.ref c_Has) (.ref c_Has) = some true)
    (nb_Has_Step : PySem.W.subIn K (.ref c_Has) (.ref c_Step) = some false)
    (ic_Step : PySem.W.isClsIn K c_Step = true)
    (it_Step : PySem.W.typeIn K (.ref c_Step) = some (.type "type"))
    (nb_Has_Refuse : PySem.W.subIn K (.ref c_Has) (.ref c_Refuse) = some false)
    (nb_Has_Let : PySem.W.subIn K (.ref c_Has) (.ref c_Let) = some false)
    (ic_Let : PySem.W.isClsIn K c_Let = true)
    (it_Let : PySem.W.typeIn K (.ref c_Let) = some (.type "type"))
    (nb_Has_Attempt : PySem.W.subIn K (.ref c_Has) (.ref c_Attempt) = some false)
    (nb_Has_When : PySem.W.subIn K (.ref c_Has) (.ref c_When) = some false)
    (na_Has_value : PySem.W.findIn K (.ref c_Has) "value" = some none)
    (mk_Has : PySem.W.makesIn K c_Has = true)
    (kc_Has : PySem.W.keepIn K (.ref c_Has) = true)
    (n_Typed : PySem.W.nsIn K mainGlobals "Typed" = some (some (.ref c_Typed)))
    (pg_Typed : PySem.W.plainGet K c_Typed Str.empty = true)
    (hd_Typed : PySem.W.hasDictIn K c_Typed = true)
    (po_Typed : PySem.W.plainOver K c_Typed = true)
    (sa_Typed : PySem.W.findIn K (.ref c_Typed) "__setattr__" = some (some (.builtin "object.__setattr__")))
    (ha_Typed : PySem.W.findIn K (.ref c_Typed) "__class__" = some (some (.builtin "object.__class__")))
    (hn_Typed : PySem.W.specialIn K (.builtin "object.__class__") "__get__" = some (some (.builtin "getset_descriptor.__get__")))
    (ht_Typed : PySem.W.takesIn K (.builtin "object.__class__") = some true)
    (hm_Typed : PySem.W.mroIn K c_Typed (.type "object") = some true)
    (n_Holds : PySem.W.nsIn K mainGlobals "Holds" = some (some (.ref c_Holds)))
    (pg_Holds : PySem.W.plainGet K c_Holds Str.empty = true)
    (hd_Holds : PySem.W.hasDictIn K c_Holds = true)
    (po_Holds : PySem.W.plainOver K c_Holds = true)
    (sa_Holds : PySem.W.findIn K (.ref c_Holds) "__setattr__" = some (some (.builtin "object.__setattr__")))
    (ha_Holds : PySem.W.findIn K (.ref c_Holds) "__class__" = some (some (.builtin "object.__class__")))
    (hn_Holds : PySem.W.specialIn K (.builtin "object.__class__") "__get__" = some (some (.builtin "getset_descriptor.__get__")))
    (ht_Holds : PySem.W.takesIn K (.builtin "object.__class__") = some true)
    (hm_Holds : PySem.W.mroIn K c_Holds (.type "object") = some true)
    (n_Block : PySem.W.nsIn K mainGlobals "Block" = some (some (.ref c_Block)))
    (pg_Block : PySem.W.plainGet K c_Block Str.empty = true)
    (hd_Block : PySem.W.hasDictIn K c_Block = true)
    (po_Block : PySem.W.plainOver K c_Block = true)
    (sa_Block : PySem.W.findIn K (.ref c_Block) "__setattr__" = some (some (.builtin "object.__setattr__")))
    (ha_Block : PySem.W.findIn K (.ref c_Block) "__class__" = some (some (.builtin "object.__class__")))
    (hn_Block : PySem.W.specialIn K (.builtin "object.__class__") "__get__" = some (some (.builtin "getset_descriptor.__get__")))
    (ht_Block : PySem.W.takesIn K (.builtin "object.__class__") = some true)
    (hm_Block : PySem.W.mroIn K c_Block (.type "object") = some true)
    (na_Block_body : PySem.W.findIn K (.ref c_Block) "body" = some none)
    (na_Block_otherwise : PySem.W.findIn K (.ref c_Block) "otherwise" = some none)
    (mk_Block : PySem.W.makesIn K c_Block = true)
    (kc_Block : PySem.W.keepIn K (.ref c_Block) = true)
    (n_When : PySem.W.nsIn K mainGlobals "When" = some (some (.ref c_When)))
    (pg_When : PySem.W.plainGet K c_When Str.empty = true)
    (hd_When : PySem.W.hasDictIn K c_When = true)
    (po_When : PySem.W.plainOver K c_When = true)
    (sa_When : PySem.W.findIn K (.ref c_When) "__setattr__" = some (some (.builtin "object.__setattr__")))
    (ha_When : PySem.W.findIn K (.ref c_When) "__class__" = some (some (.builtin "object.__class__")))
    (hn_When : PySem.W.specialIn K (.builtin "object.__class__") "__get__" = some (some (.builtin "getset_descriptor.__get__")))
    (ht_When : PySem.W.takesIn K (.builtin "object.__class__") = some true)
    (hm_When : PySem.W.mroIn K c_When (.type "object") = some true)
    (sb_When_Step : PySem.W.subIn K (.ref c_When) (.ref c_Step) = some true)
    (sc_When_Step : PySem.W.isClsIn K c_Step = true)
    (st_When_Step : PySem.W.typeIn K (.ref c_Step) = some (.type "type"))
    (sb_When_Block : PySem.W.subIn K (.ref c_When) (.ref c_Block) = some true)
    (sc_When_Block : PySem.W.isClsIn K c_Block = true)
    (st_When_Block : PySem.W.typeIn K (.ref c_Block) = some (.type "type"))
    (ka_When_NoneType : PySem.W.subIn K (.type "NoneType") (.ref c_When) = some false)
    (ty_When : PySem.W.typeIn K (.ref c_When) = some (.type "type"))
    (ka_When_int : PySem.W.subIn K (.type "int") (.ref c_When) = some false)
    (ka_When_bool : PySem.W.subIn K (.type "bool") (.ref c_When) = some false)
    (ka_When_str : PySem.W.subIn K (.type "str") (.ref c_When) = some false)
    (ka_When_list : PySem.W.subIn K (.type "list") (.ref c_When) = some false)
    (ka_When_tuple : PySem.W.subIn K (.type "tuple") (.ref c_When) = some false)
    (ih_When_inner : PySem.W.findIn K (.ref c_When) "inner" = some (some (.ref f_Block_inner)))
    (ss_When : PySem.W.subIn K (.ref c_When) (.ref c_When) = some true)
    (nb_When_Refuse : PySem.W.subIn K (.ref c_When) (.ref c_Refuse) = some false)
    (nb_When_Let : PySem.W.subIn K (.ref c_When) (.ref c_Let) = some false)
    (nb_When_Attempt : PySem.W.subIn K (.ref c_When) (.ref c_Attempt) = some false)
    (na_When_test : PySem.W.findIn K (.ref c_When) "test" = some none)
    (na_When_body : PySem.W.findIn K (.ref c_When) "body" = some none)
    (na_When_otherwise : PySem.W.findIn K (.ref c_When) "otherwise" = some none)
    (mk_When : PySem.W.makesIn K c_When = true)
    (kc_When : PySem.W.keepIn K (.ref c_When) = true)
    (rd_When : PySem.W.readsIn K c_When (.type "type") = true)
    (gq_When : PySem.W.specialIn K (.ref c_When) "__getattribute__" = some (some (.builtin "type.__getattribute__")))
    (n_Attempt : PySem.W.nsIn K mainGlobals "Attempt" = some (some (.ref c_Attempt)))
    (pg_Attempt : PySem.W.plainGet K c_Attempt Str.empty = true)
    (hd_Attempt : PySem.W.hasDictIn K c_Attempt = true)
    (po_Attempt : PySem.W.plainOver K c_Attempt = true)
    (sa_Attempt : PySem.W.findIn K (.ref c_Attempt) "__setattr__" = some (some (.builtin "object.__setattr__")))
    (ha_Attempt : PySem.W.findIn K (.ref c_Attempt) "__class__" = some (some (.builtin "object.__class__")))
    (hn_Attempt : PySem.W.specialIn K (.builtin "object.__class__") "__get__" = some (some (.builtin "getset_descriptor.__get__")))
    (ht_Attempt : PySem.W.takesIn K (.builtin "object.__class__") = some true)
    (hm_Attempt : PySem.W.mroIn K c_Attempt (.type "object") = some true)
    (sb_Attempt_Step : PySem.W.subIn K (.ref c_Attempt) (.ref c_Step) = some true)
    (sc_Attempt_Step : PySem.W.isClsIn K c_Step = true)
    (st_Attempt_Step : PySem.W.typeIn K (.ref c_Step) = some (.type "type"))
    (sb_Attempt_Block : PySem.W.subIn K (.ref c_Attempt) (.ref c_Block) = some true)
    (sc_Attempt_Block : PySem.W.isClsIn K c_Block = true)
    (st_Attempt_Block : PySem.W.typeIn K (.ref c_Block) = some (.type "type"))
    (ka_Attempt_NoneType : PySem.W.subIn K (.type "NoneType") (.ref c_Attempt) = some false)
    (ty_Attempt : PySem.W.typeIn K (.ref c_Attempt) = some (.type "type"))
    (ka_Attempt_int : PySem.W.subIn K (.type "int") (.ref c_Attempt) = some false)
    (ka_Attempt_bool : PySem.W.subIn K (.type "bool") (.ref c_Attempt) = some false)
    (ka_Attempt_str : PySem.W.subIn K (.type "str") (.ref c_Attempt) = some false)
    (ka_Attempt_list : PySem.W.subIn K (.type "list") (.ref c_Attempt) = some false)
    (ka_Attempt_tuple : PySem.W.subIn K (.type "tuple") (.ref c_Attempt) = some false)
    (ih_Attempt_inner : PySem.W.findIn K (.ref c_Attempt) "inner" = some (some (.ref f_Block_inner)))
    (ss_Attempt : PySem.W.subIn K (.ref c_Attempt) (.ref c_Attempt) = some true)
    (nb_Attempt_Refuse : PySem.W.subIn K (.ref c_Attempt) (.ref c_Refuse) = some false)
    (nb_Attempt_Let : PySem.W.subIn K (.ref c_Attempt) (.ref c_Let) = some false)
    (na_Attempt_body : PySem.W.findIn K (.ref c_Attempt) "body" = some none)
    (na_Attempt_otherwise : PySem.W.findIn K (.ref c_Attempt) "otherwise" = some none)
    (mk_Attempt : PySem.W.makesIn K c_Attempt = true)
    (kc_Attempt : PySem.W.keepIn K (.ref c_Attempt) = true)
    (ai_Attempt : PySem.W.findIn K (.ref c_Attempt) "__init__" = some (some (.ref f_Block_init)))
    (rd_Attempt : PySem.W.readsIn K c_Attempt (.type "type") = true)
    (gq_Attempt : PySem.W.specialIn K (.ref c_Attempt) "__getattribute__" = some (some (.builtin "type.__getattribute__")))
    (n_Handler : PySem.W.nsIn K mainGlobals "Handler" = some (some (.ref c_Handler)))
    (pg_Handler : PySem.W.plainGet K c_Handler Str.empty = true)
    (hd_Handler : PySem.W.hasDictIn K c_Handler = true)
    (po_Handler : PySem.W.plainOver K c_Handler = true)
    (sa_Handler : PySem.W.findIn K (.ref c_Handler) "__setattr__" = some (some (.builtin "object.__setattr__")))
    (ha_Handler : PySem.W.findIn K (.ref c_Handler) "__class__" = some (some (.builtin "object.__class__")))
    (hn_Handler : PySem.W.specialIn K (.builtin "object.__class__") "__get__" = some (some (.builtin "getset_descriptor.__get__")))
    (ht_Handler : PySem.W.takesIn K (.builtin "object.__class__") = some true)
    (hm_Handler : PySem.W.mroIn K c_Handler (.type "object") = some true)
    (cv_Handler_MOST : PySem.W.findCls K (.ref c_Handler) (.type "type") "MOST" = some (.val (.int 16 tv_Handler_MOST)))
    (cv_Handler_DEEPEST : PySem.W.findCls K (.ref c_Handler) (.type "type") "DEEPEST" = some (.val (.int 4 tv_Handler_DEEPEST)))
    (na_Handler_name : PySem.W.findIn K (.ref c_Handler) "name" = some none)
    (na_Handler_params : PySem.W.findIn K (.ref c_Handler) "params" = some none)
    (na_Handler_body : PySem.W.findIn K (.ref c_Handler) "body" = some none)
    (na_Handler_steps : PySem.W.findIn K (.ref c_Handler) "steps" = some none)
    (mk_Handler : PySem.W.makesIn K c_Handler = true)
    (kc_Handler : PySem.W.keepIn K (.ref c_Handler) = true)
    (rd_Handler : PySem.W.readsIn K c_Handler (.type "type") = true)
    (gq_Handler : PySem.W.specialIn K (.ref c_Handler) "__getattribute__" = some (some (.builtin "type.__getattribute__")))
    (n_LETTERS : PySem.W.nsIn K mainGlobals "LETTERS" = some (some (.str "abcdefghijklmnopqrstuvwxyz" tk_LETTERS)))
    (n_MOST_SIGNS : PySem.W.nsIn K mainGlobals "MOST_SIGNS" = some (some (.int 8 tk_MOST_SIGNS)))
    (n_MOST_OPERANDS : PySem.W.nsIn K mainGlobals "MOST_OPERANDS" = some (some (.int 3 tk_MOST_OPERANDS)))
    (n_BEYOND : PySem.W.nsIn K mainGlobals "BEYOND" = some (some (.int 100000000000000000000 tk_BEYOND)))
    (n_MOST_PARAMS : PySem.W.nsIn K mainGlobals "MOST_PARAMS" = some (some (.int 3 tk_MOST_PARAMS)))
    (b_abs : PySem.W.nsIn K mainGlobals "abs" = some none)
    (b_all : PySem.W.nsIn K mainGlobals "all" = some none)
    (b_bool : PySem.W.nsIn K mainGlobals "bool" = some none)
    (b_enumerate : PySem.W.nsIn K mainGlobals "enumerate" = some none)
    (b_int : PySem.W.nsIn K mainGlobals "int" = some none)
    (b_isinstance : PySem.W.nsIn K mainGlobals "isinstance" = some none)
    (b_len : PySem.W.nsIn K mainGlobals "len" = some none)
    (b_list : PySem.W.nsIn K mainGlobals "list" = some none)
    (b_max : PySem.W.nsIn K mainGlobals "max" = some none)
    (b_min : PySem.W.nsIn K mainGlobals "min" = some none)
    (b_range : PySem.W.nsIn K mainGlobals "range" = some none)
    (b_repr : PySem.W.nsIn K mainGlobals "repr" = some none)
    (b_str : PySem.W.nsIn K mainGlobals "str" = some none)
    (b_sum : PySem.W.nsIn K mainGlobals "sum" = some none)
    (b_super : PySem.W.nsIn K mainGlobals "super" = some none)
    (b_tuple : PySem.W.nsIn K mainGlobals "tuple" = some none) :
    ∃ fd : FuncData, (∀ (s : Shared) (u : Value), BindsTo s fd ⟨[u], []⟩ [("script", u)]) ∧ ∀ base : Heap, K.In base → base.Ns mainGlobals mg → FnZ P w K mg base 16 fa fd ["script"] (spLaw K) := by
  have e := hfa.symm.trans (PySem.W.mg_of X G a_law)
  cases e
  have T : Txt K mg ⟨f_BadName_init, _, f_BadValue_init, _, f_BadTest_init, _, f_BadStep_init, _, f_Twice_init, _, f_TooMany_init, _, f_is_name, _, f_is_int, _, f_check_name, _, f_check_operand, _, f_Step_inner, _, f_Let_init, _, f_Has_init, _, f_Block_init, _, f_Block_inner, _, f_When_init, _, f_When_made, _, f_Attempt_made, _, f_many_of, _, f_check_unlike, _, f_depth_of, _, f_Handler_init, _, f_Handler_made, _, f_law_deck, _, f_law_draw, _, f_law_of, _, f_law_names, _, f_law_nest, _, f_law_inside, _, f_law_steps, _, f_law_marks, _, f_law_is_name, _, f_law_due, _, f_law_told, _, _, _, c_BadName, c_BadValue, c_BadTest, c_BadStep, c_Twice, c_TooMany, c_Step, c_Let, c_Refuse, c_Has, c_Typed, c_Holds, c_Block, c_When, p_When_made, c_Attempt, p_Attempt_made, c_Handler, p_Handler_made, kt_Block_init_otherwise, kt_When_init_otherwise, kt_When_made_otherwise, kt_Attempt_made_otherwise, kt_Handler_init_params, kt_Handler_made_params⟩ := {
    f_BadName_init := fun_mk (st := s_BadName_init) l_BadName_init cc_BadName_init k_BadName_init,
    e_BadName_init := (fun_mk (st := s_BadName_init) l_BadName_init cc_BadName_init k_BadName_init).binds (ps := ["self", "name"]) fun _ _ _ _ _ _ us hl => match us, hl with | [_, _], _ => rfl,
    f_BadValue_init := fun_mk (st := s_BadValue_init) l_BadValue_init cc_BadValue_init k_BadValue_init,
    e_BadValue_init := (fun_mk (st := s_BadValue_init) l_BadValue_init cc_BadValue_init k_BadValue_init).binds (ps := ["self", "value"]) fun _ _ _ _ _ _ us hl => match us, hl with | [_, _], _ => rfl,
    f_BadTest_init := fun_mk (st := s_BadTest_init) l_BadTest_init cc_BadTest_init k_BadTest_init,
    e_BadTest_init := (fun_mk (st := s_BadTest_init) l_BadTest_init cc_BadTest_init k_BadTest_init).binds (ps := ["self", "test"]) fun _ _ _ _ _ _ us hl => match us, hl with | [_, _], _ => rfl,
    f_BadStep_init := fun_mk (st := s_BadStep_init) l_BadStep_init cc_BadStep_init k_BadStep_init,
    e_BadStep_init := (fun_mk (st := s_BadStep_init) l_BadStep_init cc_BadStep_init k_BadStep_init).binds (ps := ["self", "index"]) fun _ _ _ _ _ _ us hl => match us, hl with | [_, _], _ => rfl,
    f_Twice_init := fun_mk (st := s_Twice_init) l_Twice_init cc_Twice_init k_Twice_init,
    e_Twice_init := (fun_mk (st := s_Twice_init) l_Twice_init cc_Twice_init k_Twice_init).binds (ps := ["self", "name"]) fun _ _ _ _ _ _ us hl => match us, hl with | [_, _], _ => rfl,
    f_TooMany_init := fun_mk (st := s_TooMany_init) l_TooMany_init cc_TooMany_init k_TooMany_init,
    e_TooMany_init := (fun_mk (st := s_TooMany_init) l_TooMany_init cc_TooMany_init k_TooMany_init).binds (ps := ["self", "limit"]) fun _ _ _ _ _ _ us hl => match us, hl with | [_, _], _ => rfl,
    f_is_name := fun_mk (st := s_is_name) l_is_name cc_is_name k_is_name,
    e_is_name := (fun_mk (st := s_is_name) l_is_name cc_is_name k_is_name).binds (ps := ["thing"]) fun _ _ _ _ _ _ us hl => match us, hl with | [_], _ => rfl,
    g_is_name := PySem.W.mg_of X G a_is_name,
    k_is_name := k_is_name,
    f_is_int := fun_mk (st := s_is_int) l_is_int cc_is_int k_is_int,
    e_is_int := (fun_mk (st := s_is_int) l_is_int cc_is_int k_is_int).binds (ps := ["thing"]) fun _ _ _ _ _ _ us hl => match us, hl with | [_], _ => rfl,
    g_is_int := PySem.W.mg_of X G a_is_int,
    k_is_int := k_is_int,
    f_check_name := fun_mk (st := s_check_name) l_check_name cc_check_name k_check_name,
    e_check_name := (fun_mk (st := s_check_name) l_check_name cc_check_name k_check_name).binds (ps := ["thing"]) fun _ _ _ _ _ _ us hl => match us, hl with | [_], _ => rfl,
    g_check_name := PySem.W.mg_of X G a_check_name,
    k_check_name := k_check_name,
    f_check_operand := fun_mk (st := s_check_operand) l_check_operand cc_check_operand k_check_operand,
    e_check_operand := (fun_mk (st := s_check_operand) l_check_operand cc_check_operand k_check_operand).binds (ps := ["thing"]) fun _ _ _ _ _ _ us hl => match us, hl with | [_], _ => rfl,
    g_check_operand := PySem.W.mg_of X G a_check_operand,
    k_check_operand := k_check_operand,
    f_Step_inner := fun_mk (st := s_Step_inner) l_Step_inner cc_Step_inner k_Step_inner,
    e_Step_inner := (fun_mk (st := s_Step_inner) l_Step_inner cc_Step_inner k_Step_inner).binds (ps := ["self"]) fun _ _ _ _ _ _ us hl => match us, hl with | [_], _ => rfl,
    f_Let_init := fun_mk (st := s_Let_init) l_Let_init cc_Let_init k_Let_init,
    e_Let_init := (fun_mk (st := s_Let_init) l_Let_init cc_Let_init k_Let_init).binds (ps := ["self", "into", "value"]) fun _ _ _ _ _ _ us hl => match us, hl with | [_, _, _], _ => rfl,
    f_Has_init := fun_mk (st := s_Has_init) l_Has_init cc_Has_init k_Has_init,
    e_Has_init := (fun_mk (st := s_Has_init) l_Has_init cc_Has_init k_Has_init).binds (ps := ["self", "value"]) fun _ _ _ _ _ _ us hl => match us, hl with | [_, _], _ => rfl,
    kt_Block_init_otherwise := fun H => .inr ⟨_, #[], _, kl_Block_init_otherwise, rfl, rfl, by decide, .nil⟩,
    sb_Block_init := by
      refine ⟨fun s u1 rest ws X h1 h2 => ?_, fun r => r, fun zs h => h⟩
      match u1, h1, ws, h2 with
      | [u0], _, [w0], _ => cases rest <;> exact BStar.of rfl,
    sb0_Block_init := by
      refine ⟨fun s u1 rest ws X h1 h2 => ?_, fun _ => (.cons rfl .nil), fun zs h => rfl⟩
      have hk : ∀ q ∈ ([("otherwise", .ref kt_Block_init_otherwise)] : List (Str × Value)), PySem.W.nsIn K kD_Block_init q.1 = some (some q.2) := by
        intro q hq
        simp only [List.mem_cons, List.not_mem_nil, or_false] at hq
        rcases hq with rfl
        · exact kn_Block_init_otherwise
      match u1, h1, ws, h2 with
      | [u0], _, [], _ => cases rest <;> exact BStar.kw (D := kD_Block_init) (l := [("otherwise", .ref kt_Block_init_otherwise)]) X hk ⟨_, _, _, _, _, _, rfl, rfl, rfl⟩,
    f_Block_init := fun_mk (st := s_Block_init) l_Block_init cc_Block_init k_Block_init,
    f_Block_inner := fun_mk (st := s_Block_inner) l_Block_inner cc_Block_inner k_Block_inner,
    e_Block_inner := (fun_mk (st := s_Block_inner) l_Block_inner cc_Block_inner k_Block_inner).binds (ps := ["self"]) fun _ _ _ _ _ _ us hl => match us, hl with | [_], _ => rfl,
    sup_When_init := ⟨spa_When_init, spt_When_init, spf_When_init, spn_When_init, spm_When_init⟩,
    kt_When_init_otherwise := fun H => .inr ⟨_, #[], _, kl_When_init_otherwise, rfl, rfl, by decide, .nil⟩,
    sb_When_init := by
      refine ⟨fun s u1 rest ws X h1 h2 => ?_, fun r => r, fun zs h => h⟩
      match u1, h1, ws, h2 with
      | [u0, u1], _, [w0], _ => cases rest <;> exact BStar.of rfl,
    sb0_When_init := by
      refine ⟨fun s u1 rest ws X h1 h2 => ?_, fun _ => (.cons rfl .nil), fun zs h => rfl⟩
      have hk : ∀ q ∈ ([("otherwise", .ref kt_When_init_otherwise)] : List (Str × Value)), PySem.W.nsIn K kD_When_init q.1 = some (some q.2) := by
        intro q hq
        simp only [List.mem_cons, List.not_mem_nil, or_false] at hq
        rcases hq with rfl
        · exact kn_When_init_otherwise
      match u1, h1, ws, h2 with
      | [u0, u1], _, [], _ => cases rest <;> exact BStar.kw (D := kD_When_init) (l := [("otherwise", .ref kt_When_init_otherwise)]) X hk ⟨_, _, _, _, _, _, rfl, rfl, rfl⟩,
    f_When_init := ⟨⟨_, _, _, _, _, _, _, _, _, clc_When_init, co_When_init, _, _, _, _, _, _, _, rfl, l_When_init, cc_When_init, cof_When_init, cvf_When_init, clk_When_init, cdk_When_init, rfl, rfl⟩, k_When_init⟩,
    ef_When_made := by
      intro s us X hl
      have hl2 : us.length = 4 := by simpa using hl
      match us, hl2 with
      | [u0, u1, u2, u3], _ => exact PySem.W.binds_K X rfl dl_When_made rfl rfl rfl,
    kt_When_made_otherwise := fun H => .inr ⟨_, #[], _, kl_When_made_otherwise, rfl, rfl, by decide, .nil⟩,
    e_When_made := by
      intro s us X hl
      have hl2 : us.length = 3 := by simpa using hl
      match us, hl2 with
      | [u0, u1, u2], _ => exact PySem.W.binds_K X rfl dl_When_made rfl rfl rfl,
    f_When_made := funA_mk (st := s_When_made) l_When_made cc_When_made,
    ef_Attempt_made := by
      intro s us X hl
      have hl2 : us.length = 3 := by simpa using hl
      match us, hl2 with
      | [u0, u1, u2], _ => exact PySem.W.binds_K X rfl dl_Attempt_made rfl rfl rfl,
    kt_Attempt_made_otherwise := fun H => .inr ⟨_, #[], _, kl_Attempt_made_otherwise, rfl, rfl, by decide, .nil⟩,
    e_Attempt_made := by
      intro s us X hl
      have hl2 : us.length = 2 := by simpa using hl
      match us, hl2 with
      | [u0, u1], _ => exact PySem.W.binds_K X rfl dl_Attempt_made rfl rfl rfl,
    f_Attempt_made := funA_mk (st := s_Attempt_made) l_Attempt_made cc_Attempt_made,
    f_many_of := fun_mk (st := s_many_of) l_many_of cc_many_of k_many_of,
    e_many_of := (fun_mk (st := s_many_of) l_many_of cc_many_of k_many_of).binds (ps := ["steps"]) fun _ _ _ _ _ _ us hl => match us, hl with | [_], _ => rfl,
    g_many_of := PySem.W.mg_of X G a_many_of,
    k_many_of := k_many_of,
    f_check_unlike := fun_mk (st := s_check_unlike) l_check_unlike cc_check_unlike k_check_unlike,
    e_check_unlike := (fun_mk (st := s_check_unlike) l_check_unlike cc_check_unlike k_check_unlike).binds (ps := ["names"]) fun _ _ _ _ _ _ us hl => match us, hl with | [_], _ => rfl,
    g_check_unlike := PySem.W.mg_of X G a_check_unlike,
    k_check_unlike := k_check_unlike,
    f_depth_of := fun_mk (st := s_depth_of) l_depth_of cc_depth_of k_depth_of,
    e_depth_of := (fun_mk (st := s_depth_of) l_depth_of cc_depth_of k_depth_of).binds (ps := ["steps"]) fun _ _ _ _ _ _ us hl => match us, hl with | [_], _ => rfl,
    g_depth_of := PySem.W.mg_of X G a_depth_of,
    k_depth_of := k_depth_of,
    kt_Handler_init_params := fun H => .inr ⟨_, #[], _, kl_Handler_init_params, rfl, rfl, by decide, .nil⟩,
    sb_Handler_init := by
      refine ⟨fun s u1 rest ws X h1 h2 => ?_, fun r => r, fun zs h => h⟩
      match u1, h1, ws, h2 with
      | [u0, u1], _, [w0], _ => cases rest <;> exact BStar.of rfl,
    sb0_Handler_init := by
      refine ⟨fun s u1 rest ws X h1 h2 => ?_, fun _ => (.cons rfl .nil), fun zs h => rfl⟩
      have hk : ∀ q ∈ ([("params", .ref kt_Handler_init_params)] : List (Str × Value)), PySem.W.nsIn K kD_Handler_init q.1 = some (some q.2) := by
        intro q hq
        simp only [List.mem_cons, List.not_mem_nil, or_false] at hq
        rcases hq with rfl
        · exact kn_Handler_init_params
      match u1, h1, ws, h2 with
      | [u0, u1], _, [], _ => cases rest <;> exact BStar.kw (D := kD_Handler_init) (l := [("params", .ref kt_Handler_init_params)]) X hk ⟨_, _, _, _, _, _, rfl, rfl, rfl⟩,
    f_Handler_init := fun_mk (st := s_Handler_init) l_Handler_init cc_Handler_init k_Handler_init,
    ef_Handler_made := by
      intro s us X hl
      have hl2 : us.length = 4 := by simpa using hl
      match us, hl2 with
      | [u0, u1, u2, u3], _ => exact PySem.W.binds_K X rfl dl_Handler_made rfl rfl rfl,
    kt_Handler_made_params := fun H => .inr ⟨_, #[], _, kl_Handler_made_params, rfl, rfl, by decide, .nil⟩,
    e_Handler_made := by
      intro s us X hl
      have hl2 : us.length = 3 := by simpa using hl
      match us, hl2 with
      | [u0, u1, u2], _ => exact PySem.W.binds_K X rfl dl_Handler_made rfl rfl rfl,
    kc_0 := by
      refine ⟨fun s us ws X h1 h2 => ?_, fun r1 r2 => r1.append r2⟩
      match us, ws, h1, h2 with
      | [u0, u1, u2], [w0], _, _ => exact PySem.W.binds_K X rfl dl_Handler_made rfl rfl rfl,
    f_Handler_made := funA_mk (st := s_Handler_made) l_Handler_made cc_Handler_made,
    f_law_deck := fun_mk (st := s_law_deck) l_law_deck cc_law_deck k_law_deck,
    e_law_deck := (fun_mk (st := s_law_deck) l_law_deck cc_law_deck k_law_deck).binds (ps := ["script", "turn"]) fun _ _ _ _ _ _ us hl => match us, hl with | [_, _], _ => rfl,
    g_law_deck := PySem.W.mg_of X G a_law_deck,
    k_law_deck := k_law_deck,
    f_law_draw := fun_mk (st := s_law_draw) l_law_draw cc_law_draw k_law_draw,
    e_law_draw := (fun_mk (st := s_law_draw) l_law_draw cc_law_draw k_law_draw).binds (ps := ["deck", "many"]) fun _ _ _ _ _ _ us hl => match us, hl with | [_, _], _ => rfl,
    g_law_draw := PySem.W.mg_of X G a_law_draw,
    k_law_draw := k_law_draw,
    f_law_of := fun_mk (st := s_law_of) l_law_of cc_law_of k_law_of,
    e_law_of := (fun_mk (st := s_law_of) l_law_of cc_law_of k_law_of).binds (ps := ["deck", "some"]) fun _ _ _ _ _ _ us hl => match us, hl with | [_, _], _ => rfl,
    g_law_of := PySem.W.mg_of X G a_law_of,
    k_law_of := k_law_of,
    f_law_names := fun_mk (st := s_law_names) l_law_names cc_law_names k_law_names,
    e_law_names := (fun_mk (st := s_law_names) l_law_names cc_law_names k_law_names).binds (ps := ["deck", "many"]) fun _ _ _ _ _ _ us hl => match us, hl with | [_, _], _ => rfl,
    g_law_names := PySem.W.mg_of X G a_law_names,
    k_law_names := k_law_names,
    f_law_nest := fun_mk (st := s_law_nest) l_law_nest cc_law_nest k_law_nest,
    e_law_nest := (fun_mk (st := s_law_nest) l_law_nest cc_law_nest k_law_nest).binds (ps := ["deck", "deep"]) fun _ _ _ _ _ _ us hl => match us, hl with | [_, _], _ => rfl,
    g_law_nest := PySem.W.mg_of X G a_law_nest,
    k_law_nest := k_law_nest,
    f_law_inside := fun_mk (st := s_law_inside) l_law_inside cc_law_inside k_law_inside,
    e_law_inside := (fun_mk (st := s_law_inside) l_law_inside cc_law_inside k_law_inside).binds (ps := ["step"]) fun _ _ _ _ _ _ us hl => match us, hl with | [_], _ => rfl,
    g_law_inside := PySem.W.mg_of X G a_law_inside,
    k_law_inside := k_law_inside,
    f_law_steps := fun_mk (st := s_law_steps) l_law_steps cc_law_steps k_law_steps,
    e_law_steps := (fun_mk (st := s_law_steps) l_law_steps cc_law_steps k_law_steps).binds (ps := ["deck", "is_odd"]) fun _ _ _ _ _ _ us hl => match us, hl with | [_, _], _ => rfl,
    g_law_steps := PySem.W.mg_of X G a_law_steps,
    k_law_steps := k_law_steps,
    f_law_marks := fun_mk (st := s_law_marks) l_law_marks cc_law_marks k_law_marks,
    e_law_marks := (fun_mk (st := s_law_marks) l_law_marks cc_law_marks k_law_marks).binds (ps := ["deck", "names", "is_odd", "is_twice"]) fun _ _ _ _ _ _ us hl => match us, hl with | [_, _, _, _], _ => rfl,
    g_law_marks := PySem.W.mg_of X G a_law_marks,
    k_law_marks := k_law_marks,
    f_law_is_name := fun_mk (st := s_law_is_name) l_law_is_name cc_law_is_name k_law_is_name,
    e_law_is_name := (fun_mk (st := s_law_is_name) l_law_is_name cc_law_is_name k_law_is_name).binds (ps := ["thing"]) fun _ _ _ _ _ _ us hl => match us, hl with | [_], _ => rfl,
    g_law_is_name := PySem.W.mg_of X G a_law_is_name,
    k_law_is_name := k_law_is_name,
    f_law_due := fun_mk (st := s_law_due) l_law_due cc_law_due k_law_due,
    e_law_due := (fun_mk (st := s_law_due) l_law_due cc_law_due k_law_due).binds (ps := ["name", "steps", "marks"]) fun _ _ _ _ _ _ us hl => match us, hl with | [_, _, _], _ => rfl,
    g_law_due := PySem.W.mg_of X G a_law_due,
    k_law_due := k_law_due,
    f_law_told := fun_mk (st := s_law_told) l_law_told cc_law_told k_law_told,
    e_law_told := (fun_mk (st := s_law_told) l_law_told cc_law_told k_law_told).binds (ps := ["name", "steps", "marks"]) fun _ _ _ _ _ _ us hl => match us, hl with | [_, _, _], _ => rfl,
    g_law_told := PySem.W.mg_of X G a_law_told,
    k_law_told := k_law_told,
    f_law := fun_mk (st := s_law) l_law cc_law k_law,
    e_law := (fun_mk (st := s_law) l_law cc_law k_law).binds (ps := ["script"]) fun _ _ _ _ _ _ us hl => match us, hl with | [_], _ => rfl,
    g_law := PySem.W.mg_of X G a_law,
    k_law := k_law,
    g_BadName := PySem.W.mg_of X G n_BadName,
    o_BadName := ⟨⟨_, _, _, _, _, _, _, _, _, _, _, _, _, _, _, _, _, _, _, PySem.F.excBase_ValueError, x_BadName, fun _ => rfl, PySem.F.store_ValueError.passes, by decide +kernel⟩, sa_BadName, eC_BadName, tC_BadName, kC_BadName⟩,
    x_BadName := ⟨ga_BadName, gg_BadName, eC_BadName, hC_BadName⟩,
    h_BadName := exm_own eC_BadName iC_BadName tC_BadName sC_BadName,
    i_BadName := a_BadName_init,
    t_BadName := t_BadName_init,
    xv_BadName := ⟨⟨ga_BadName, gg_BadName, eC_BadName, hC_BadName⟩, iC_BadName, va_BadName, vn_BadName, vt_BadName, vm_BadName⟩,
    a_BadName_name := z_BadName_name,
    g_BadValue := PySem.W.mg_of X G n_BadValue,
    o_BadValue := ⟨⟨_, _, _, _, _, _, _, _, _, _, _, _, _, _, _, _, _, _, _, PySem.F.excBase_ValueError, x_BadValue, fun _ => rfl, PySem.F.store_ValueError.passes, by decide +kernel⟩, sa_BadValue, eC_BadValue, tC_BadValue, kC_BadValue⟩,
    x_BadValue := ⟨ga_BadValue, gg_BadValue, eC_BadValue, hC_BadValue⟩,
    h_BadValue := exm_own eC_BadValue iC_BadValue tC_BadValue sC_BadValue,
    i_BadValue := a_BadValue_init,
    t_BadValue := t_BadValue_init,
    a_BadValue_value := z_BadValue_value,
    g_BadTest := PySem.W.mg_of X G n_BadTest,
    o_BadTest := ⟨⟨_, _, _, _, _, _, _, _, _, _, _, _, _, _, _, _, _, _, _, PySem.F.excBase_ValueError, x_BadTest, fun _ => rfl, PySem.F.store_ValueError.passes, by decide +kernel⟩, sa_BadTest, eC_BadTest, tC_BadTest, kC_BadTest⟩,
    x_BadTest := ⟨ga_BadTest, gg_BadTest, eC_BadTest, hC_BadTest⟩,
    h_BadTest := exm_own eC_BadTest iC_BadTest tC_BadTest sC_BadTest,
    i_BadTest := a_BadTest_init,
    t_BadTest := t_BadTest_init,
    a_BadTest_test := z_BadTest_test,
    g_BadStep := PySem.W.mg_of X G n_BadStep,
    o_BadStep := ⟨⟨_, _, _, _, _, _, _, _, _, _, _, _, _, _, _, _, _, _, _, PySem.F.excBase_ValueError, x_BadStep, fun _ => rfl, PySem.F.store_ValueError.passes, by decide +kernel⟩, sa_BadStep, eC_BadStep, tC_BadStep, kC_BadStep⟩,
    x_BadStep := ⟨ga_BadStep, gg_BadStep, eC_BadStep, hC_BadStep⟩,
    h_BadStep := exm_own eC_BadStep iC_BadStep tC_BadStep sC_BadStep,
    i_BadStep := a_BadStep_init,
    t_BadStep := t_BadStep_init,
    xv_BadStep := ⟨⟨ga_BadStep, gg_BadStep, eC_BadStep, hC_BadStep⟩, iC_BadStep, va_BadStep, vn_BadStep, vt_BadStep, vm_BadStep⟩,
    hx_BadStep_BadName := exm_other eC_BadName iC_BadName tC_BadName xs_BadStep_BadName,
    a_BadStep_index := z_BadStep_index,
    g_Twice := PySem.W.mg_of X G n_Twice,
    o_Twice := ⟨⟨_, _, _, _, _, _, _, _, _, _, _, _, _, _, _, _, _, _, _, PySem.F.excBase_ValueError, x_Twice, fun _ => rfl, PySem.F.store_ValueError.passes, by decide +kernel⟩, sa_Twice, eC_Twice, tC_Twice, kC_Twice⟩,
    x_Twice := ⟨ga_Twice, gg_Twice, eC_Twice, hC_Twice⟩,
    h_Twice := exm_own eC_Twice iC_Twice tC_Twice sC_Twice,
    i_Twice := a_Twice_init,
    t_Twice := t_Twice_init,
    xv_Twice := ⟨⟨ga_Twice, gg_Twice, eC_Twice, hC_Twice⟩, iC_Twice, va_Twice, vn_Twice, vt_Twice, vm_Twice⟩,
    hx_Twice_BadName := exm_other eC_BadName iC_BadName tC_BadName xs_Twice_BadName,
    hx_Twice_BadStep := exm_other eC_BadStep iC_BadStep tC_BadStep xs_Twice_BadStep,
    a_Twice_name := z_Twice_name,
    g_TooMany := PySem.W.mg_of X G n_TooMany,
    o_TooMany := ⟨⟨_, _, _, _, _, _, _, _, _, _, _, _, _, _, _, _, _, _, _, PySem.F.excBase_OverflowError, x_TooMany, fun _ => rfl, PySem.F.store_OverflowError.passes, by decide +kernel⟩, sa_TooMany, eC_TooMany, tC_TooMany, kC_TooMany⟩,
    x_TooMany := ⟨ga_TooMany, gg_TooMany, eC_TooMany, hC_TooMany⟩,
    h_TooMany := exm_own eC_TooMany iC_TooMany tC_TooMany sC_TooMany,
    i_TooMany := a_TooMany_init,
    t_TooMany := t_TooMany_init,
    xv_TooMany := ⟨⟨ga_TooMany, gg_TooMany, eC_TooMany, hC_TooMany⟩, iC_TooMany, va_TooMany, vn_TooMany, vt_TooMany, vm_TooMany⟩,
    hx_TooMany_BadName := exm_other eC_BadName iC_BadName tC_BadName xs_TooMany_BadName,
    hx_TooMany_BadStep := exm_other eC_BadStep iC_BadStep tC_BadStep xs_TooMany_BadStep,
    hx_TooMany_Twice := exm_other eC_Twice iC_Twice tC_Twice xs_TooMany_Twice,
    a_TooMany_limit := z_TooMany_limit,
    g_Step := PySem.W.mg_of X G n_Step,
    cl_Step := ⟨pg_Step, hd_Step, po_Step, sa_Step⟩,
    ci_Step := ⟨⟨pg_Step, hd_Step, po_Step, sa_Step⟩, ha_Step, hn_Step, ht_Step, hm_Step⟩,
    ka_Step_NoneType := ka_Step_NoneType,
    kb_Step_NoneType := kt_of ty_Step hm_Step ka_Step_NoneType,
    ka_Step_int := ka_Step_int,
    kb_Step_int := kt_of ty_Step hm_Step ka_Step_int,
    ka_Step_bool := ka_Step_bool,
    kb_Step_bool := kt_of ty_Step hm_Step ka_Step_bool,
    ka_Step_str := ka_Step_str,
    kb_Step_str := kt_of ty_Step hm_Step ka_Step_str,
    ka_Step_list := ka_Step_list,
    kb_Step_list := kt_of ty_Step hm_Step ka_Step_list,
    ka_Step_tuple := ka_Step_tuple,
    kb_Step_tuple := kt_of ty_Step hm_Step ka_Step_tuple,
    a_Step_inner := a_Step_inner,
    i_Step_inner := i_Step_inner,
    g_Let := PySem.W.mg_of X G n_Let,
    cl_Let := ⟨pg_Let, hd_Let, po_Let, sa_Let⟩,
    ci_Let := ⟨⟨pg_Let, hd_Let, po_Let, sa_Let⟩, ha_Let, hn_Let, ht_Let, hm_Let⟩,
    su_Let_Step := kit_subT sc_Let_Step st_Let_Step sb_Let_Step,
    ka_Let_NoneType := ka_Let_NoneType,
    kb_Let_NoneType := kt_of ty_Let hm_Let ka_Let_NoneType,
    ka_Let_int := ka_Let_int,
    kb_Let_int := kt_of ty_Let hm_Let ka_Let_int,
    ka_Let_bool := ka_Let_bool,
    kb_Let_bool := kt_of ty_Let hm_Let ka_Let_bool,
    ka_Let_str := ka_Let_str,
    kb_Let_str := kt_of ty_Let hm_Let ka_Let_str,
    ka_Let_list := ka_Let_list,
    kb_Let_list := kt_of ty_Let hm_Let ka_Let_list,
    ka_Let_tuple := ka_Let_tuple,
    kb_Let_tuple := kt_of ty_Let hm_Let ka_Let_tuple,
    ih_Let_inner := ih_Let_inner,
    nk_Let_Refuse := kit_subF ss_Let ic_Refuse it_Refuse nb_Let_Refuse,
    nk_Let_Block := kit_subF ss_Let ic_Block it_Block nb_Let_Block,
    nk_Let_Attempt := kit_subF ss_Let ic_Attempt it_Attempt nb_Let_Attempt,
    nk_Let_When := kit_subF ss_Let ic_When it_When nb_Let_When,
    na_Let_into := na_Let_into,
    na_Let_value := na_Let_value,
    m_Let := ⟨mk_Let, a_Let_init, i_Let_init, kc_Let⟩,
    g_Refuse := PySem.W.mg_of X G n_Refuse,
    cl_Refuse := ⟨pg_Refuse, hd_Refuse, po_Refuse, sa_Refuse⟩,
    ci_Refuse := ⟨⟨pg_Refuse, hd_Refuse, po_Refuse, sa_Refuse⟩, ha_Refuse, hn_Refuse, ht_Refuse, hm_Refuse⟩,
    su_Refuse_Step := kit_subT sc_Refuse_Step st_Refuse_Step sb_Refuse_Step,
    ka_Refuse_NoneType := ka_Refuse_NoneType,
    kb_Refuse_NoneType := kt_of ty_Refuse hm_Refuse ka_Refuse_NoneType,
    ka_Refuse_int := ka_Refuse_int,
    kb_Refuse_int := kt_of ty_Refuse hm_Refuse ka_Refuse_int,
    ka_Refuse_bool := ka_Refuse_bool,
    kb_Refuse_bool := kt_of ty_Refuse hm_Refuse ka_Refuse_bool,
    ka_Refuse_str := ka_Refuse_str,
    kb_Refuse_str := kt_of ty_Refuse hm_Refuse ka_Refuse_str,
    ka_Refuse_list := ka_Refuse_list,
    kb_Refuse_list := kt_of ty_Refuse hm_Refuse ka_Refuse_list,
    ka_Refuse_tuple := ka_Refuse_tuple,
    kb_Refuse_tuple := kt_of ty_Refuse hm_Refuse ka_Refuse_tuple,
    ih_Refuse_inner := ih_Refuse_inner,
    nk_Refuse_Block := kit_subF ss_Refuse ic_Block it_Block nb_Refuse_Block,
    nk_Refuse_Attempt := kit_subF ss_Refuse ic_Attempt it_Attempt nb_Refuse_Attempt,
    nk_Refuse_When := kit_subF ss_Refuse ic_When it_When nb_Refuse_When,
    m0_Refuse := ⟨mk_Refuse, zi_Refuse, kc_Refuse⟩,
    g_Has := PySem.W.mg_of X G n_Has,
    cl_Has := ⟨pg_Has, hd_Has, po_Has, sa_Has⟩,
    ci_Has := ⟨⟨pg_Has, hd_Has, po_Has, sa_Has⟩, ha_Has, hn_Has, ht_Has, hm_Has⟩,
    nk_Has_Step := kit_subF ss_Has ic_Step it_Step nb_Has_Step,
    nk_Has_Refuse := kit_subF ss_Has ic_Refuse it_Refuse nb_Has_Refuse,
    nk_Has_Let := kit_subF ss_Has ic_Let it_Let nb_Has_Let,
    nk_Has_Attempt := kit_subF ss_Has ic_Attempt it_Attempt nb_Has_Attempt,
    nk_Has_When := kit_subF ss_Has ic_When it_When nb_Has_When,
    na_Has_value := na_Has_value,
    m_Has := ⟨mk_Has, a_Has_init, i_Has_init, kc_Has⟩,
    g_Typed := PySem.W.mg_of X G n_Typed,
    cl_Typed := ⟨pg_Typed, hd_Typed, po_Typed, sa_Typed⟩,
    ci_Typed := ⟨⟨pg_Typed, hd_Typed, po_Typed, sa_Typed⟩, ha_Typed, hn_Typed, ht_Typed, hm_Typed⟩,
    g_Holds := PySem.W.mg_of X G n_Holds,
    cl_Holds := ⟨pg_Holds, hd_Holds, po_Holds, sa_Holds⟩,
    ci_Holds := ⟨⟨pg_Holds, hd_Holds, po_Holds, sa_Holds⟩, ha_Holds, hn_Holds, ht_Holds, hm_Holds⟩,
    g_Block := PySem.W.mg_of X G n_Block,
    cl_Block := ⟨pg_Block, hd_Block, po_Block, sa_Block⟩,
    ci_Block := ⟨⟨pg_Block, hd_Block, po_Block, sa_Block⟩, ha_Block, hn_Block, ht_Block, hm_Block⟩,
    na_Block_body := na_Block_body,
    na_Block_otherwise := na_Block_otherwise,
    m_Block := ⟨mk_Block, a_Block_init, i_Block_init, kc_Block⟩,
    a_Block_inner := a_Block_inner,
    i_Block_inner := i_Block_inner,
    g_When := PySem.W.mg_of X G n_When,
    cl_When := ⟨pg_When, hd_When, po_When, sa_When⟩,
    ci_When := ⟨⟨pg_When, hd_When, po_When, sa_When⟩, ha_When, hn_When, ht_When, hm_When⟩,
    su_When_Step := kit_subT sc_When_Step st_When_Step sb_When_Step,
    su_When_Block := kit_subT sc_When_Block st_When_Block sb_When_Block,
    ka_When_NoneType := ka_When_NoneType,
    kb_When_NoneType := kt_of ty_When hm_When ka_When_NoneType,
    ka_When_int := ka_When_int,
    kb_When_int := kt_of ty_When hm_When ka_When_int,
    ka_When_bool := ka_When_bool,
    kb_When_bool := kt_of ty_When hm_When ka_When_bool,
    ka_When_str := ka_When_str,
    kb_When_str := kt_of ty_When hm_When ka_When_str,
    ka_When_list := ka_When_list,
    kb_When_list := kt_of ty_When hm_When ka_When_list,
    ka_When_tuple := ka_When_tuple,
    kb_When_tuple := kt_of ty_When hm_When ka_When_tuple,
    ih_When_inner := ih_When_inner,
    nk_When_Refuse := kit_subF ss_When ic_Refuse it_Refuse nb_When_Refuse,
    nk_When_Let := kit_subF ss_When ic_Let it_Let nb_When_Let,
    nk_When_Attempt := kit_subF ss_When ic_Attempt it_Attempt nb_When_Attempt,
    na_When_test := na_When_test,
    na_When_body := na_When_body,
    na_When_otherwise := na_When_otherwise,
    m_When := ⟨mk_When, a_When_init, i_When_init, kc_When⟩,
    cm_When_made := ⟨at_When_made, ⟨_, rc_When_made⟩, fi_When_made⟩,
    cr_When := ⟨rd_When, gq_When⟩,
    g_Attempt := PySem.W.mg_of X G n_Attempt,
    cl_Attempt := ⟨pg_Attempt, hd_Attempt, po_Attempt, sa_Attempt⟩,
    ci_Attempt := ⟨⟨pg_Attempt, hd_Attempt, po_Attempt, sa_Attempt⟩, ha_Attempt, hn_Attempt, ht_Attempt, hm_Attempt⟩,
    su_Attempt_Step := kit_subT sc_Attempt_Step st_Attempt_Step sb_Attempt_Step,
    su_Attempt_Block := kit_subT sc_Attempt_Block st_Attempt_Block sb_Attempt_Block,
    ka_Attempt_NoneType := ka_Attempt_NoneType,
    kb_Attempt_NoneType := kt_of ty_Attempt hm_Attempt ka_Attempt_NoneType,
    ka_Attempt_int := ka_Attempt_int,
    kb_Attempt_int := kt_of ty_Attempt hm_Attempt ka_Attempt_int,
    ka_Attempt_bool := ka_Attempt_bool,
    kb_Attempt_bool := kt_of ty_Attempt hm_Attempt ka_Attempt_bool,
    ka_Attempt_str := ka_Attempt_str,
    kb_Attempt_str := kt_of ty_Attempt hm_Attempt ka_Attempt_str,
    ka_Attempt_list := ka_Attempt_list,
    kb_Attempt_list := kt_of ty_Attempt hm_Attempt ka_Attempt_list,
    ka_Attempt_tuple := ka_Attempt_tuple,
    kb_Attempt_tuple := kt_of ty_Attempt hm_Attempt ka_Attempt_tuple,
    ih_Attempt_inner := ih_Attempt_inner,
    nk_Attempt_Refuse := kit_subF ss_Attempt ic_Refuse it_Refuse nb_Attempt_Refuse,
    nk_Attempt_Let := kit_subF ss_Attempt ic_Let it_Let nb_Attempt_Let,
    na_Attempt_body := na_Attempt_body,
    na_Attempt_otherwise := na_Attempt_otherwise,
    cm_Attempt_made := ⟨at_Attempt_made, ⟨_, rc_Attempt_made⟩, fi_Attempt_made⟩,
    m_Attempt := ⟨mk_Attempt, ai_Attempt, i_Block_init, kc_Attempt⟩,
    cr_Attempt := ⟨rd_Attempt, gq_Attempt⟩,
    g_Handler := PySem.W.mg_of X G n_Handler,
    cl_Handler := ⟨pg_Handler, hd_Handler, po_Handler, sa_Handler⟩,
    ci_Handler := ⟨⟨pg_Handler, hd_Handler, po_Handler, sa_Handler⟩, ha_Handler, hn_Handler, ht_Handler, hm_Handler⟩,
    cv_Handler_MOST := ⟨_, cv_Handler_MOST, ⟨_, rfl⟩⟩,
    cv_Handler_DEEPEST := ⟨_, cv_Handler_DEEPEST, ⟨_, rfl⟩⟩,
    na_Handler_name := na_Handler_name,
    na_Handler_params := na_Handler_params,
    na_Handler_body := na_Handler_body,
    na_Handler_steps := na_Handler_steps,
    m_Handler := ⟨mk_Handler, a_Handler_init, i_Handler_init, kc_Handler⟩,
    cm_Handler_made := ⟨at_Handler_made, ⟨_, rc_Handler_made⟩, fi_Handler_made⟩,
    cr_Handler := ⟨rd_Handler, gq_Handler⟩,
    n_LETTERS := ⟨_, PySem.W.mg_of X G n_LETTERS⟩,
    n_MOST_SIGNS := ⟨_, PySem.W.mg_of X G n_MOST_SIGNS⟩,
    n_MOST_OPERANDS := ⟨_, PySem.W.mg_of X G n_MOST_OPERANDS⟩,
    n_BEYOND := ⟨_, PySem.W.mg_of X G n_BEYOND⟩,
    n_MOST_PARAMS := ⟨_, PySem.W.mg_of X G n_MOST_PARAMS⟩,
    b_abs := PySem.W.mg_none_of X G b_abs,
    b_all := PySem.W.mg_none_of X G b_all,
    b_bool := PySem.W.mg_none_of X G b_bool,
    b_enumerate := PySem.W.mg_none_of X G b_enumerate,
    b_int := PySem.W.mg_none_of X G b_int,
    b_isinstance := PySem.W.mg_none_of X G b_isinstance,
    b_len := PySem.W.mg_none_of X G b_len,
    b_list := PySem.W.mg_none_of X G b_list,
    b_max := PySem.W.mg_none_of X G b_max,
    b_min := PySem.W.mg_none_of X G b_min,
    b_range := PySem.W.mg_none_of X G b_range,
    b_repr := PySem.W.mg_none_of X G b_repr,
    b_str := PySem.W.mg_none_of X G b_str,
    b_sum := PySem.W.mg_none_of X G b_sum,
    b_super := PySem.W.mg_none_of X G b_super,
    b_tuple := PySem.W.mg_none_of X G b_tuple }
  exact ⟨_, fun _ _ => .of_eq rfl, fun base _ _ => ok_law T⟩
abbrev HR : PySem.W.OpenRow := PySem.W.OpenLaw.row PySem.Challenge.rw_falsedefaults_k05_handlers_refused
abbrev HQ : Program := PySem.W.view HR.prog [51]
def HN0 : List PySem.Str := ["BadName", "BadValue", "BadTest", "BadStep", "Twice", "TooMany", "LETTERS", "MOST_SIGNS", "MOST_OPERANDS", "BEYOND", "is_name", "is_int"]
def HN1 : List PySem.Str := ["check_name", "check_operand", "check_operands", "Step", "Read", "Let", "Work", "Put", "Keep", "Refuse", "Has", "Typed"]
def HN2 : List PySem.Str := ["Holds", "Block", "When", "Attempt", "Doing", "many_of", "MOST_PARAMS", "check_unlike", "depth_of", "Handler", "_law_deck", "_law_draw"]
def HN3 : List PySem.Str := ["_law_of", "_law_number", "_law_names", "_law_nest", "_law_inside", "_law_steps", "_law_marks", "_law_is_name", "_law_due", "_law_told"]
def HN : List PySem.Str := HN0 ++ HN1 ++ HN2 ++ HN3
theorem h_ob {K : Params → PySem.W.Frag} {as : List Addr} {e : ∀ P, as = (K P).map (·.1)} {ts : List Addr} (s : PySem.W.SharedT) : (as.map (HandSHeadRun.getT s), ts.map (HandSHeadRun.getT s)) = (PySem.W.kmHook K as e ts).obs s.abs := by
  show _ = (as.map s.abs.heap.get?, ts.map s.abs.heap.get?)
  rw [show HandSHeadRun.getT s = s.abs.heap.get? from funext (HandSHeadRun.getT_eq s)]
instance : SupP (PySem.W.OpenLaw.prog PySem.Challenge.rw_falsedefaults_k05_handlers_refused) := ⟨rfl, by first | rfl | kernel_rfl⟩
end Z
open PySem PySem.W PyProof.Rows
local macro_rules | `(tactic| o_head $H) => `(tactic| refine HandSHeadRun.head_any (r := Z.HR) (q := Z.HQ) (H := $H) (M := 16000) (loose := Z.HN) (kwd := []) (fun s => Z.h_ob s) (by kernel_rfl) (fun s => by kernel_rfl) (fun w os => by kernel_rfl) (by rfl) (by rfl) (by rfl) (by rfl) (by first | assumption | decide +kernel) (by decide +kernel) ⟨rfl, rfl, rfl, rfl, rfl, by decide +kernel⟩ ?hw ?hc)
set_option maxRecDepth 100000 in
set_option maxHeartbeats 0 in
theorem PySem.Challenge.cw_falsedefaults_k05_handlers_refused_holds : PySem.Challenge.rw_falsedefaults_k05_handlers_refused.Holds := by
  w_on; o_law; k_head; (case hw => w_witness2)
  k_fill
  refine Z.law_walk (l := PySem.Challenge.rw_falsedefaults_k05_handlers_refused) (k := 16) rfl rfl ⟨rfl, by decide, by decide⟩ (fun w h Y => PySem.W.km_in_of Y) ?F
  case F =>
    intro w mg fa h KX G hmg
    refine' Z.all_mk KX G hmg ?a_BadName_init ?t_BadName_init ?l_BadName_init ?cc_BadName_init ?k_BadName_init ?a_BadValue_init ?t_BadValue_init ?l_BadValue_init ?cc_BadValue_init ?k_BadValue_init ?a_BadTest_init ?t_BadTest_init ?l_BadTest_init ?cc_BadTest_init ?k_BadTest_init ?a_BadStep_init ?t_BadStep_init ?l_BadStep_init ?cc_BadStep_init ?k_BadStep_init ?a_Twice_init ?t_Twice_init ?l_Twice_init ?cc_Twice_init ?k_Twice_init ?a_TooMany_init ?t_TooMany_init ?l_TooMany_init ?cc_TooMany_init ?k_TooMany_init ?a_is_name ?l_is_name ?cc_is_name ?k_is_name ?a_is_int ?l_is_int ?cc_is_int ?k_is_int ?a_check_name ?l_check_name ?cc_check_name ?k_check_name ?a_check_operand ?l_check_operand ?cc_check_operand ?k_check_operand ?a_Step_inner ?i_Step_inner ?l_Step_inner ?cc_Step_inner ?k_Step_inner ?a_Let_init ?i_Let_init ?l_Let_init ?cc_Let_init ?k_Let_init ?a_Has_init ?i_Has_init ?l_Has_init ?cc_Has_init ?k_Has_init ?a_Block_init ?i_Block_init ?l_Block_init ?kn_Block_init_otherwise ?kl_Block_init_otherwise ?cc_Block_init ?k_Block_init ?a_Block_inner ?i_Block_inner ?l_Block_inner ?cc_Block_inner ?k_Block_inner ?a_When_init ?i_When_init ?l_When_init ?cof_When_init ?cvf_When_init ?clk_When_init ?cdk_When_init ?spa_When_init ?spt_When_init ?spf_When_init ?spn_When_init ?spm_When_init ?kn_When_init_otherwise ?kl_When_init_otherwise ?cc_When_init ?k_When_init ?at_When_made ?rc_When_made ?fi_When_made ?l_When_made ?dl_When_made ?kl_When_made_otherwise ?cc_When_made ?k_When_made ?at_Attempt_made ?rc_Attempt_made ?fi_Attempt_made ?l_Attempt_made ?dl_Attempt_made ?kl_Attempt_made_otherwise ?cc_Attempt_made ?k_Attempt_made ?a_many_of ?l_many_of ?cc_many_of ?k_many_of ?a_check_unlike ?l_check_unlike ?cc_check_unlike ?k_check_unlike ?a_depth_of ?l_depth_of ?cc_depth_of ?k_depth_of ?a_Handler_init ?i_Handler_init ?l_Handler_init ?kn_Handler_init_params ?kl_Handler_init_params ?cc_Handler_init ?k_Handler_init ?at_Handler_made ?rc_Handler_made ?fi_Handler_made ?l_Handler_made ?dl_Handler_made ?kl_Handler_made_params ?cc_Handler_made ?k_Handler_made ?a_law_deck ?l_law_deck ?cc_law_deck ?k_law_deck ?a_law_draw ?l_law_draw ?cc_law_draw ?k_law_draw ?a_law_of ?l_law_of ?cc_law_of ?k_law_of ?a_law_names ?l_law_names ?cc_law_names ?k_law_names ?a_law_nest ?l_law_nest ?cc_law_nest ?k_law_nest ?a_law_inside ?l_law_inside ?cc_law_inside ?k_law_inside ?a_law_steps ?l_law_steps ?cc_law_steps ?k_law_steps ?a_law_marks ?l_law_marks ?cc_law_marks ?k_law_marks ?a_law_is_name ?l_law_is_name ?cc_law_is_name ?k_law_is_name ?a_law_due ?l_law_due ?cc_law_due ?k_law_due ?a_law_told ?l_law_told ?cc_law_told ?k_law_told ?a_law ?l_law ?cc_law ?k_law ?n_BadName ?x_BadName ?sa_BadName ?ga_BadName ?gg_BadName ?eC_BadName ?tC_BadName ?kC_BadName ?hC_BadName ?iC_BadName ?sC_BadName ?va_BadName ?vn_BadName ?vt_BadName ?vm_BadName ?z_BadName_name ?n_BadValue ?x_BadValue ?sa_BadValue ?ga_BadValue ?gg_BadValue ?eC_BadValue ?tC_BadValue ?kC_BadValue ?hC_BadValue ?iC_BadValue ?sC_BadValue ?z_BadValue_value ?n_BadTest ?x_BadTest ?sa_BadTest ?ga_BadTest ?gg_BadTest ?eC_BadTest ?tC_BadTest ?kC_BadTest ?hC_BadTest ?iC_BadTest ?sC_BadTest ?z_BadTest_test ?n_BadStep ?x_BadStep ?sa_BadStep ?ga_BadStep ?gg_BadStep ?eC_BadStep ?tC_BadStep ?kC_BadStep ?hC_BadStep ?iC_BadStep ?sC_BadStep ?va_BadStep ?vn_BadStep ?vt_BadStep ?vm_BadStep ?xs_BadStep_BadName ?z_BadStep_index ?n_Twice ?x_Twice ?sa_Twice ?ga_Twice ?gg_Twice ?eC_Twice ?tC_Twice ?kC_Twice ?hC_Twice ?iC_Twice ?sC_Twice ?va_Twice ?vn_Twice ?vt_Twice ?vm_Twice ?xs_Twice_BadName ?xs_Twice_BadStep ?z_Twice_name ?n_TooMany ?x_TooMany ?sa_TooMany ?ga_TooMany ?gg_TooMany ?eC_TooMany ?tC_TooMany ?kC_TooMany ?hC_TooMany ?iC_TooMany ?sC_TooMany ?va_TooMany ?vn_TooMany ?vt_TooMany ?vm_TooMany ?xs_TooMany_BadName ?xs_TooMany_BadStep ?xs_TooMany_Twice ?z_TooMany_limit ?n_Step ?pg_Step ?hd_Step ?po_Step ?sa_Step ?ha_Step ?hn_Step ?ht_Step ?hm_Step ?ka_Step_NoneType ?ty_Step ?ka_Step_int ?ka_Step_bool ?ka_Step_str ?ka_Step_list ?ka_Step_tuple ?n_Let ?pg_Let ?hd_Let ?po_Let ?sa_Let ?ha_Let ?hn_Let ?ht_Let ?hm_Let ?sb_Let_Step ?sc_Let_Step ?st_Let_Step ?ka_Let_NoneType ?ty_Let ?ka_Let_int ?ka_Let_bool ?ka_Let_str ?ka_Let_list ?ka_Let_tuple ?ih_Let_inner ?ss_Let ?nb_Let_Refuse ?ic_Refuse ?it_Refuse ?nb_Let_Block ?ic_Block ?it_Block ?nb_Let_Attempt ?ic_Attempt ?it_Attempt ?nb_Let_When ?ic_When ?it_When ?na_Let_into ?na_Let_value ?mk_Let ?kc_Let ?n_Refuse ?pg_Refuse ?hd_Refuse ?po_Refuse ?sa_Refuse ?ha_Refuse ?hn_Refuse ?ht_Refuse ?hm_Refuse ?sb_Refuse_Step ?sc_Refuse_Step ?st_Refuse_Step ?ka_Refuse_NoneType ?ty_Refuse ?ka_Refuse_int ?ka_Refuse_bool ?ka_Refuse_str ?ka_Refuse_list ?ka_Refuse_tuple ?ih_Refuse_inner ?ss_Refuse ?nb_Refuse_Block ?nb_Refuse_Attempt ?nb_Refuse_When ?mk_Refuse ?kc_Refuse ?zi_Refuse ?n_Has ?pg_Has ?hd_Has ?po_Has ?sa_Has ?ha_Has ?hn_Has ?ht_Has ?hm_Has ?ss_Has ?nb_Has_Step ?ic_Step ?it_Step ?nb_Has_Refuse ?nb_Has_Let ?ic_Let ?it_Let ?nb_Has_Attempt ?nb_Has_When ?na_Has_value ?mk_Has ?kc_Has ?n_Typed ?pg_Typed ?hd_Typed ?po_Typed ?sa_Typed ?ha_Typed ?hn_Typed ?ht_Typed ?hm_Typed ?n_Holds ?pg_Holds ?hd_Holds ?po_Holds ?sa_Holds ?ha_Holds ?hn_Holds ?ht_Holds ?hm_Holds ?n_Block ?pg_Block ?hd_Block ?po_Block ?sa_Block ?ha_Block ?hn_Block ?ht_Block ?hm_Block ?na_Block_body ?na_Block_otherwise ?mk_Block ?kc_Block ?n_When ?pg_When ?hd_When ?po_When ?sa_When ?ha_When ?hn_When ?ht_When ?hm_When ?sb_When_Step ?sc_When_Step ?st_When_Step ?sb_When_Block ?sc_When_Block ?st_When_Block ?ka_When_NoneType ?ty_When ?ka_When_int ?ka_When_bool ?ka_When_str ?ka_When_list ?ka_When_tuple ?ih_When_inner ?ss_When ?nb_When_Refuse ?nb_When_Let ?nb_When_Attempt ?na_When_test ?na_When_body ?na_When_otherwise ?mk_When ?kc_When ?rd_When ?gq_When ?n_Attempt ?pg_Attempt ?hd_Attempt ?po_Attempt ?sa_Attempt ?ha_Attempt ?hn_Attempt ?ht_Attempt ?hm_Attempt ?sb_Attempt_Step ?sc_Attempt_Step ?st_Attempt_Step ?sb_Attempt_Block ?sc_Attempt_Block ?st_Attempt_Block ?ka_Attempt_NoneType ?ty_Attempt ?ka_Attempt_int ?ka_Attempt_bool ?ka_Attempt_str ?ka_Attempt_list ?ka_Attempt_tuple ?ih_Attempt_inner ?ss_Attempt ?nb_Attempt_Refuse ?nb_Attempt_Let ?na_Attempt_body ?na_Attempt_otherwise ?mk_Attempt ?kc_Attempt ?ai_Attempt ?rd_Attempt ?gq_Attempt ?n_Handler ?pg_Handler ?hd_Handler ?po_Handler ?sa_Handler ?ha_Handler ?hn_Handler ?ht_Handler ?hm_Handler ?cv_Handler_MOST ?cv_Handler_DEEPEST ?na_Handler_name ?na_Handler_params ?na_Handler_body ?na_Handler_steps ?mk_Handler ?kc_Handler ?rd_Handler ?gq_Handler ?n_LETTERS ?n_MOST_SIGNS ?n_MOST_OPERANDS ?n_BEYOND ?n_MOST_PARAMS ?b_abs ?b_all ?b_bool ?b_enumerate ?b_int ?b_isinstance ?b_len ?b_list ?b_max ?b_min ?b_range ?b_repr ?b_str ?b_sum ?b_super ?b_tuple
    (case n_BadName => k_is)
    (case n_BadValue => k_is)
    (case n_BadTest => k_is)
    (case n_BadStep => k_is)
    (case n_Twice => k_is)
    (case n_TooMany => k_is)
    (case n_Step => k_is)
    (case n_Let => k_is)
    (case n_Refuse => k_is)
    (case n_Has => k_is)
    (case n_Typed => k_is)
    (case n_Holds => k_is)
    (case n_Block => k_is)
    (case n_When => k_is)
    (case n_Attempt => k_is)
    (case n_Handler => k_is)
    (case a_BadName_init => k_is)
    (case t_BadName_init => k_is)
    (case l_BadName_init => k_is)
    (case cc_BadName_init => k_is)
    (case k_BadName_init => k_is)
    (case a_BadValue_init => k_is)
    (case t_BadValue_init => k_is)
    (case l_BadValue_init => k_is)
    (case cc_BadValue_init => k_is)
    (case k_BadValue_init => k_is)
    (case a_BadTest_init => k_is)
    (case t_BadTest_init => k_is)
    (case l_BadTest_init => k_is)
    (case cc_BadTest_init => k_is)
    (case k_BadTest_init => k_is)
    (case a_BadStep_init => k_is)
    (case t_BadStep_init => k_is)
    (case l_BadStep_init => k_is)
    (case cc_BadStep_init => k_is)
    (case k_BadStep_init => k_is)
    (case a_Twice_init => k_is)
    (case t_Twice_init => k_is)
    (case l_Twice_init => k_is)
    (case cc_Twice_init => k_is)
    (case k_Twice_init => k_is)
    (case a_TooMany_init => k_is)
    (case t_TooMany_init => k_is)
    (case l_TooMany_init => k_is)
    (case cc_TooMany_init => k_is)
    (case k_TooMany_init => k_is)
    (case a_is_name => k_is)
    (case l_is_name => k_is)
    (case cc_is_name => k_is)
    (case k_is_name => k_is)
    (case a_is_int => k_is)
    (case l_is_int => k_is)
    (case cc_is_int => k_is)
    (case k_is_int => k_is)
    (case a_check_name => k_is)
    (case l_check_name => k_is)
    (case cc_check_name => k_is)
    (case k_check_name => k_is)
    (case a_check_operand => k_is)
    (case l_check_operand => k_is)
    (case cc_check_operand => k_is)
    (case k_check_operand => k_is)
    (case a_Step_inner => k_is)
    (case i_Step_inner => k_is)
    (case l_Step_inner => k_is)
    (case cc_Step_inner => k_is)
    (case k_Step_inner => k_is)
    (case a_Let_init => k_is)
    (case i_Let_init => k_is)
    (case l_Let_init => k_is)
    (case cc_Let_init => k_is)
    (case k_Let_init => k_is)
    (case a_Has_init => k_is)
    (case i_Has_init => k_is)
    (case l_Has_init => k_is)
    (case cc_Has_init => k_is)
    (case k_Has_init => k_is)
    (case a_Block_init => k_is)
    (case i_Block_init => k_is)
    (case l_Block_init => k_is)
    (case kn_Block_init_otherwise => k_is)
    (case kl_Block_init_otherwise => k_is)
    (case cc_Block_init => k_is)
    (case k_Block_init => k_is)
    (case a_Block_inner => k_is)
    (case i_Block_inner => k_is)
    (case l_Block_inner => k_is)
    (case cc_Block_inner => k_is)
    (case k_Block_inner => k_is)
    (case a_When_init => k_is)
    (case i_When_init => k_is)
    (case l_When_init => k_is)
    (case cof_When_init => k_is)
    (case cvf_When_init => first | rfl | kernel_rfl)
    (case clk_When_init => k_is)
    (case cdk_When_init => first | k_is | kernel_rfl)
    (case spa_When_init => first | k_is | kernel_rfl)
    (case spt_When_init => k_is)
    (case spf_When_init => k_is)
    (case spn_When_init => k_is)
    (case spm_When_init => k_is)
    (case kn_When_init_otherwise => k_is)
    (case kl_When_init_otherwise => k_is)
    (case cc_When_init => k_is)
    (case k_When_init => k_is)
    (case at_When_made => k_is)
    (case rc_When_made => k_is)
    (case fi_When_made => k_is)
    (case l_When_made => k_is)
    (case dl_When_made => k_is)
    (case kl_When_made_otherwise => k_is)
    (case cc_When_made => k_is)
    (case k_When_made => k_is)
    (case at_Attempt_made => k_is)
    (case rc_Attempt_made => k_is)
    (case fi_Attempt_made => k_is)
    (case l_Attempt_made => k_is)
    (case dl_Attempt_made => k_is)
    (case kl_Attempt_made_otherwise => k_is)
    (case cc_Attempt_made => k_is)
    (case k_Attempt_made => k_is)
    (case a_many_of => k_is)
    (case l_many_of => k_is)
    (case cc_many_of => k_is)
    (case k_many_of => k_is)
    (case a_check_unlike => k_is)
    (case l_check_unlike => k_is)
    (case cc_check_unlike => k_is)
    (case k_check_unlike => k_is)
    (case a_depth_of => k_is)
    (case l_depth_of => k_is)
    (case cc_depth_of => k_is)
    (case k_depth_of => k_is)
    (case a_Handler_init => k_is)
    (case i_Handler_init => k_is)
    (case l_Handler_init => k_is)
    (case kn_Handler_init_params => k_is)
    (case kl_Handler_init_params => k_is)
    (case cc_Handler_init => k_is)
    (case k_Handler_init => k_is)
    (case at_Handler_made => k_is)
    (case rc_Handler_made => k_is)
    (case fi_Handler_made => k_is)
    (case l_Handler_made => k_is)
    (case dl_Handler_made => k_is)
    (case kl_Handler_made_params => k_is)
    (case cc_Handler_made => k_is)
    (case k_Handler_made => k_is)
    (case a_law_deck => k_is)
    (case l_law_deck => k_is)
    (case cc_law_deck => k_is)
    (case k_law_deck => k_is)
    (case a_law_draw => k_is)
    (case l_law_draw => k_is)
    (case cc_law_draw => k_is)
    (case k_law_draw => k_is)
    (case a_law_of => k_is)
    (case l_law_of => k_is)
    (case cc_law_of => k_is)
    (case k_law_of => k_is)
    (case a_law_names => k_is)
    (case l_law_names => k_is)
    (case cc_law_names => k_is)
    (case k_law_names => k_is)
    (case a_law_nest => k_is)
    (case l_law_nest => k_is)
    (case cc_law_nest => k_is)
    (case k_law_nest => k_is)
    (case a_law_inside => k_is)
    (case l_law_inside => k_is)
    (case cc_law_inside => k_is)
    (case k_law_inside => k_is)
    (case a_law_steps => k_is)
    (case l_law_steps => k_is)
    (case cc_law_steps => k_is)
    (case k_law_steps => k_is)
    (case a_law_marks => k_is)
    (case l_law_marks => k_is)
    (case cc_law_marks => k_is)
    (case k_law_marks => k_is)
    (case a_law_is_name => k_is)
    (case l_law_is_name => k_is)
    (case cc_law_is_name => k_is)
    (case k_law_is_name => k_is)
    (case a_law_due => k_is)
    (case l_law_due => k_is)
    (case cc_law_due => k_is)
    (case k_law_due => k_is)
    (case a_law_told => k_is)
    (case l_law_told => k_is)
    (case cc_law_told => k_is)
    (case k_law_told => k_is)
    (case a_law => k_is)
    (case l_law => k_is)
    (case cc_law => k_is)
    (case k_law => k_is)
    (case x_BadName => k_is)
    (case sa_BadName => k_is)
    (case ga_BadName => k_is)
    (case gg_BadName => k_is)
    (case eC_BadName => k_is)
    (case tC_BadName => k_is)
    (case kC_BadName => k_is)
    (case hC_BadName => k_is)
    (case iC_BadName => k_is)
    (case sC_BadName => first | rfl | k_is)
    (case va_BadName => k_is)
    (case vn_BadName => k_is)
    (case vt_BadName => k_is)
    (case vm_BadName => k_is)
    (case z_BadName_name => k_is)
    (case x_BadValue => k_is)
    (case sa_BadValue => k_is)
    (case ga_BadValue => k_is)
    (case gg_BadValue => k_is)
    (case eC_BadValue => k_is)
    (case tC_BadValue => k_is)
    (case kC_BadValue => k_is)
    (case hC_BadValue => k_is)
    (case iC_BadValue => k_is)
    (case sC_BadValue => first | rfl | k_is)
    (case z_BadValue_value => k_is)
    (case x_BadTest => k_is)
    (case sa_BadTest => k_is)
    (case ga_BadTest => k_is)
    (case gg_BadTest => k_is)
    (case eC_BadTest => k_is)
    (case tC_BadTest => k_is)
    (case kC_BadTest => k_is)
    (case hC_BadTest => k_is)
    (case iC_BadTest => k_is)
    (case sC_BadTest => first | rfl | k_is)
    (case z_BadTest_test => k_is)
    (case x_BadStep => k_is)
    (case sa_BadStep => k_is)
    (case ga_BadStep => k_is)
    (case gg_BadStep => k_is)
    (case eC_BadStep => k_is)
    (case tC_BadStep => k_is)
    (case kC_BadStep => k_is)
    (case hC_BadStep => k_is)
    (case iC_BadStep => k_is)
    (case sC_BadStep => first | rfl | k_is)
    (case va_BadStep => k_is)
    (case vn_BadStep => k_is)
    (case vt_BadStep => k_is)
    (case vm_BadStep => k_is)
    (case xs_BadStep_BadName => k_is)
    (case z_BadStep_index => k_is)
    (case x_Twice => k_is)
    (case sa_Twice => k_is)
    (case ga_Twice => k_is)
    (case gg_Twice => k_is)
    (case eC_Twice => k_is)
    (case tC_Twice => k_is)
    (case kC_Twice => k_is)
    (case hC_Twice => k_is)
    (case iC_Twice => k_is)
    (case sC_Twice => first | rfl | k_is)
    (case va_Twice => k_is)
    (case vn_Twice => k_is)
    (case vt_Twice => k_is)
    (case vm_Twice => k_is)
    (case xs_Twice_BadName => k_is)
    (case xs_Twice_BadStep => k_is)
    (case z_Twice_name => k_is)
    (case x_TooMany => k_is)
    (case sa_TooMany => k_is)
    (case ga_TooMany => k_is)
    (case gg_TooMany => k_is)
    (case eC_TooMany => k_is)
    (case tC_TooMany => k_is)
    (case kC_TooMany => k_is)
    (case hC_TooMany => k_is)
    (case iC_TooMany => k_is)
    (case sC_TooMany => first | rfl | k_is)
    (case va_TooMany => k_is)
    (case vn_TooMany => k_is)
    (case vt_TooMany => k_is)
    (case vm_TooMany => k_is)
    (case xs_TooMany_BadName => k_is)
    (case xs_TooMany_BadStep => k_is)
    (case xs_TooMany_Twice => k_is)
    (case z_TooMany_limit => k_is)
    (case pg_Step => k_is)
    (case hd_Step => k_is)
    (case po_Step => k_is)
    (case sa_Step => k_is)
    (case ha_Step => k_is)
    (case hn_Step => k_is)
    (case ht_Step => k_is)
    (case hm_Step => k_is)
    (case ka_Step_NoneType => k_is)
    (case ty_Step => k_is)
    (case ka_Step_int => k_is)
    (case ka_Step_bool => k_is)
    (case ka_Step_str => k_is)
    (case ka_Step_list => k_is)
    (case ka_Step_tuple => k_is)
    (case pg_Let => k_is)
    (case hd_Let => k_is)
    (case po_Let => k_is)
    (case sa_Let => k_is)
    (case ha_Let => k_is)
    (case hn_Let => k_is)
    (case ht_Let => k_is)
    (case hm_Let => k_is)
    (case sb_Let_Step => k_is)
    (case sc_Let_Step => k_is)
    (case st_Let_Step => k_is)
    (case ka_Let_NoneType => k_is)
    (case ty_Let => k_is)
    (case ka_Let_int => k_is)
    (case ka_Let_bool => k_is)
    (case ka_Let_str => k_is)
    (case ka_Let_list => k_is)
    (case ka_Let_tuple => k_is)
    (case ih_Let_inner => k_is)
    (case ss_Let => k_is)
    (case nb_Let_Refuse => k_is)
    (case ic_Refuse => k_is)
    (case it_Refuse => k_is)
    (case nb_Let_Block => k_is)
    (case ic_Block => k_is)
    (case it_Block => k_is)
    (case nb_Let_Attempt => k_is)
    (case ic_Attempt => k_is)
    (case it_Attempt => k_is)
    (case nb_Let_When => k_is)
    (case ic_When => k_is)
    (case it_When => k_is)
    (case na_Let_into => k_is)
    (case na_Let_value => k_is)
    (case mk_Let => k_is)
    (case kc_Let => k_is)
    (case pg_Refuse => k_is)
    (case hd_Refuse => k_is)
    (case po_Refuse => k_is)
    (case sa_Refuse => k_is)
    (case ha_Refuse => k_is)
    (case hn_Refuse => k_is)
    (case ht_Refuse => k_is)
    (case hm_Refuse => k_is)
    (case sb_Refuse_Step => k_is)
    (case sc_Refuse_Step => k_is)
    (case st_Refuse_Step => k_is)
    (case ka_Refuse_NoneType => k_is)
    (case ty_Refuse => k_is)
    (case ka_Refuse_int => k_is)
    (case ka_Refuse_bool => k_is)
    (case ka_Refuse_str => k_is)
    (case ka_Refuse_list => k_is)
    (case ka_Refuse_tuple => k_is)
    (case ih_Refuse_inner => k_is)
    (case ss_Refuse => k_is)
    (case nb_Refuse_Block => k_is)
    (case nb_Refuse_Attempt => k_is)
    (case nb_Refuse_When => k_is)
    (case mk_Refuse => k_is)
    (case kc_Refuse => k_is)
    (case zi_Refuse => k_is)
    (case pg_Has => k_is)
    (case hd_Has => k_is)
    (case po_Has => k_is)
    (case sa_Has => k_is)
    (case ha_Has => k_is)
    (case hn_Has => k_is)
    (case ht_Has => k_is)
    (case hm_Has => k_is)
    (case ss_Has => k_is)
    (case nb_Has_Step => k_is)
    (case ic_Step => k_is)
    (case it_Step => k_is)
    (case nb_Has_Refuse => k_is)
    (case nb_Has_Let => k_is)
    (case ic_Let => k_is)
    (case it_Let => k_is)
    (case nb_Has_Attempt => k_is)
    (case nb_Has_When => k_is)
    (case na_Has_value => k_is)
    (case mk_Has => k_is)
    (case kc_Has => k_is)
    (case pg_Typed => k_is)
    (case hd_Typed => k_is)
    (case po_Typed => k_is)
    (case sa_Typed => k_is)
    (case ha_Typed => k_is)
    (case hn_Typed => k_is)
    (case ht_Typed => k_is)
    (case hm_Typed => k_is)
    (case pg_Holds => k_is)
    (case hd_Holds => k_is)
    (case po_Holds => k_is)
    (case sa_Holds => k_is)
    (case ha_Holds => k_is)
    (case hn_Holds => k_is)
    (case ht_Holds => k_is)
    (case hm_Holds => k_is)
    (case pg_Block => k_is)
    (case hd_Block => k_is)
    (case po_Block => k_is)
    (case sa_Block => k_is)
    (case ha_Block => k_is)
    (case hn_Block => k_is)
    (case ht_Block => k_is)
    (case hm_Block => k_is)
    (case na_Block_body => k_is)
    (case na_Block_otherwise => k_is)
    (case mk_Block => k_is)
    (case kc_Block => k_is)
    (case pg_When => k_is)
    (case hd_When => k_is)
    (case po_When => k_is)
    (case sa_When => k_is)
    (case ha_When => k_is)
    (case hn_When => k_is)
    (case ht_When => k_is)
    (case hm_When => k_is)
    (case sb_When_Step => k_is)
    (case sc_When_Step => k_is)
    (case st_When_Step => k_is)
    (case sb_When_Block => k_is)
    (case sc_When_Block => k_is)
    (case st_When_Block => k_is)
    (case ka_When_NoneType => k_is)
    (case ty_When => k_is)
    (case ka_When_int => k_is)
    (case ka_When_bool => k_is)
    (case ka_When_str => k_is)
    (case ka_When_list => k_is)
    (case ka_When_tuple => k_is)
    (case ih_When_inner => k_is)
    (case ss_When => k_is)
    (case nb_When_Refuse => k_is)
    (case nb_When_Let => k_is)
    (case nb_When_Attempt => k_is)
    (case na_When_test => k_is)
    (case na_When_body => k_is)
    (case na_When_otherwise => k_is)
    (case mk_When => k_is)
    (case kc_When => k_is)
    (case rd_When => k_is)
    (case gq_When => k_is)
    (case pg_Attempt => k_is)
    (case hd_Attempt => k_is)
    (case po_Attempt => k_is)
    (case sa_Attempt => k_is)
    (case ha_Attempt => k_is)
    (case hn_Attempt => k_is)
    (case ht_Attempt => k_is)
    (case hm_Attempt => k_is)
    (case sb_Attempt_Step => k_is)
    (case sc_Attempt_Step => k_is)
    (case st_Attempt_Step => k_is)
    (case sb_Attempt_Block => k_is)
    (case sc_Attempt_Block => k_is)
    (case st_Attempt_Block => k_is)
    (case ka_Attempt_NoneType => k_is)
    (case ty_Attempt => k_is)
    (case ka_Attempt_int => k_is)
    (case ka_Attempt_bool => k_is)
    (case ka_Attempt_str => k_is)
    (case ka_Attempt_list => k_is)
    (case ka_Attempt_tuple => k_is)
    (case ih_Attempt_inner => k_is)
    (case ss_Attempt => k_is)
    (case nb_Attempt_Refuse => k_is)
    (case nb_Attempt_Let => k_is)
    (case na_Attempt_body => k_is)
    (case na_Attempt_otherwise => k_is)
    (case mk_Attempt => k_is)
    (case kc_Attempt => k_is)
    (case ai_Attempt => k_is)
    (case rd_Attempt => k_is)
    (case gq_Attempt => k_is)
    (case pg_Handler => k_is)
    (case hd_Handler => k_is)
    (case po_Handler => k_is)
    (case sa_Handler => k_is)
    (case ha_Handler => k_is)
    (case hn_Handler => k_is)
    (case ht_Handler => k_is)
    (case hm_Handler => k_is)
    (case cv_Handler_MOST => k_is)
    (case cv_Handler_DEEPEST => k_is)
    (case na_Handler_name => k_is)
    (case na_Handler_params => k_is)
    (case na_Handler_body => k_is)
    (case na_Handler_steps => k_is)
    (case mk_Handler => k_is)
    (case kc_Handler => k_is)
    (case rd_Handler => k_is)
    (case gq_Handler => k_is)
    (case n_LETTERS => k_is)
    (case n_MOST_SIGNS => k_is)
    (case n_MOST_OPERANDS => k_is)
    (case n_BEYOND => k_is)
    (case n_MOST_PARAMS => k_is)
    (case b_abs => k_is)
    (case b_all => k_is)
    (case b_bool => k_is)
    (case b_enumerate => k_is)
    (case b_int => k_is)
    (case b_isinstance => k_is)
    (case b_len => k_is)
    (case b_list => k_is)
    (case b_max => k_is)
    (case b_min => k_is)
    (case b_range => k_is)
    (case b_repr => k_is)
    (case b_str => k_is)
    (case b_sum => k_is)
    (case b_super => k_is)
    (case b_tuple => k_is)
