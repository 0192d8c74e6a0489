import PyProof.Rows.All
import Wide.All
import OpenK.AllK
import Wide.FinOn
import HandS.ForMost
import HandS.ForExc
import HandS.IsInst
import HandS.ExcInit
import HandS.ExcField
import HandS.Wide
import HandS.Flow
import HandS.Style
import HandS.More
import HandS.Star
import HandS.ClsMeth
import HandS.OwnEq
import HandS.FStr
import HandS.SetKeys
import HandS.SetBool
import HandS.Conv
import HandS.DictComp
import HandS.Walk
import HandS.Ends
import KE.GoesMore
import KE.GoesEnum
import HandS.Zip
import HandS.CallLocal
import HandS.Small
import HandS.Text
import HandS.Codes
import KE.DataCmp
import KE.SortData
import PySem.Challenge.RW_falsedefaults_k43_pairs_in_order
set_option Elab.async false
set_option linter.all false
set_option maxRecDepth 100000
set_option maxHeartbeats 4000000
set_option maxHeartbeats 1000000
set_option maxHeartbeats 2000000
namespace Z
open PySem PySem.Spec PyProof.Rows L2
abbrev St := L2.St

/-! ### operators, whatever the kinds -/
def zAdd : R2 := fun x y H Q => match x, y with
  | .int i, .int j => Q (.int (i + j)) H
  | .str i, .str j => i.length + j.length ≤ sizeLine ∧ Q (.str (i ++ j)) H
  | .ref l, .ref b => ∃ xs zs, H l = some (.lst xs) ∧ H b = some (.lst zs) ∧ xs.length + zs.length ≤ sizeLine ∧ ∀ p, H p = none → Q (.ref p) (upd H p (.lst (xs ++ zs)))
  | _, _ => False
def zSub : R2 := fun x y H Q => match x, y with
  | .int i, .int j => Q (.int (i - j)) H
  | _, _ => False
def zMul : R2 := fun x y H Q => match x, y with
  | .int i, .int j => CMul i j ∧ Q (.int (i * j)) H
  | .str x, .int n => MulOk x n ∧ Q (.str (Txt.mul x n)) H
  | .ref l, .int k => ∃ xs, H l = some (.lst xs) ∧ -(2 ^ 63) ≤ k ∧ k < 2 ^ 63 ∧ xs.length * k.toNat ≤ sizeLine ∧ ∀ p, H p = none → Q (.ref p) (upd H p (.lst (List.replicate k.toNat xs).flatten))
  | _, _ => False
def zMod : R2 := fun x y H Q => match x, y with
  | .int i, .int j => 0 < j ∧ Q (.int (i % j)) H
  | _, _ => False
def zFdiv : R2 := fun x y H Q => match x, y with
  | .int i, .int j => CDivW i j ∧ Q (.int (i / j)) H
  | _, _ => False
def zPow : R2 := fun x y H Q => match x, y with
  | .int i, .int j => CPow i j ∧ Q (.int (i ^ j.toNat)) H
  | _, _ => False
def zLt : R2 := fun x y H Q => match x, y with
  | .int i, .int j => Q (.bl (decide (i < j))) H
  | _, _ => False
def zLe : R2 := fun x y H Q => match x, y with
  | .int i, .int j => Q (.bl (decide (i ≤ j))) H
  | _, _ => False
def zGt : R2 := fun x y H Q => match x, y with
  | .int i, .int j => Q (.bl (decide (j < i))) H
  | _, _ => False
def zGe : R2 := fun x y H Q => match x, y with
  | .int i, .int j => Q (.bl (decide (j ≤ i))) H
  | _, _ => False
def zIs : R2 := fun x y H Q => y = .non ∧ Q (.bl (decide (x = .non))) H
def zIsnt : R2 := fun x y H Q => y = .non ∧ Q (.bl (!decide (x = .non))) H
/-- == of scalars of any kinds; else of data -/
def zEq (K : PySem.W.Frag) : R2 := fun x y H Q => (scal x y = true ∧ Q (.bl (decide (x = y))) H) ∨ rEqD K x y H Q
def zNe (K : PySem.W.Frag) : R2 := fun x y H Q => (scal x y = true ∧ Q (.bl (!decide (x = y))) H) ∨ rNeD K x y H Q
/-- in: one sign in a text; a flat thing in a list or a tuple -/
def zIn (K : PySem.W.Frag) : R2 := fun x y H Q => (∃ (c : Nat) (z : Str), x = .str ⟨#[c]⟩ ∧ y = .str z ∧ Q (.bl (decide (c ∈ z.cps.toList))) H) ∨ rIn K false x y H Q
def zNin (K : PySem.W.Frag) : R2 := fun x y H Q => (∃ (c : Nat) (z : Str), x = .str ⟨#[c]⟩ ∧ y = .str z ∧ Q (.bl (!decide (c ∈ z.cps.toList))) H) ∨ rIn K true x y H Q
def zIx (K : PySem.W.Frag) : R2 := fun x y H Q => match x, y with
  | .ref p, .int i => ∃ xs v, (SqL K H p xs ∨ SqT K H p xs) ∧ atI xs i = some v ∧ Q v H
  | .str z, .int i => z.length ≤ sizeLine ∧ ∃ c, atI z.cps.toList i = some c ∧ Q (.str ⟨#[c]⟩) H
  | _, _ => False
section
variable {X : Cx}
theorem op_zAdd : OpR X (binaryOp .Add) zAdd := by
  intro pins s σ H x y v u Q I rx ry h
  unfold zAdd at h
  split at h
  · exact op_add pins s σ H _ _ v u Q I rx ry ⟨_, _, rfl, rfl, h⟩
  · exact op_add_str pins s σ H _ _ v u Q I rx ry ⟨_, _, rfl, rfl, h⟩
  · obtain ⟨xs, zs, h1, h2, h3, h4⟩ := h
    exact op_cat pins s σ H _ _ v u Q I rx ry ⟨_, _, _, _, rfl, rfl, h1, h2, h3, h4⟩
  · exact h.elim
theorem op_zSub : OpR X (binaryOp .Sub) zSub := by
  intro pins s σ H x y v u Q I rx ry h
  unfold zSub at h
  split at h
  · exact op_sub pins s σ H _ _ v u Q I rx ry ⟨_, _, rfl, rfl, h⟩
  · exact h.elim
theorem op_zMul : OpR X (binaryOp .Mult) zMul := by
  intro pins s σ H x y v u Q I rx ry h
  unfold zMul at h
  split at h
  · exact op_mul pins s σ H _ _ v u Q I rx ry ⟨_, _, rfl, rfl, h.1, h.2⟩
  · obtain ⟨t, rfl⟩ := rx
    obtain ⟨t', rfl⟩ := ry
    exact SB.mul h.1 fun t2 k => ⟨.str _, H, I.tok _, ⟨_, rfl⟩, h.2⟩
  · obtain ⟨xs, h1, h2, h3, h4, h5⟩ := h
    exact op_rep pins s σ H _ _ v u Q I rx ry ⟨_, _, _, rfl, rfl, h1, h2, h3, h4, h5⟩
  · exact h.elim
theorem op_zMod : OpR X (binaryOp .Mod) zMod := by
  intro pins s σ H x y v u Q I rx ry h
  unfold zMod at h
  split at h
  · exact op_mod pins s σ H _ _ v u Q I rx ry ⟨_, _, rfl, rfl, h.1, h.2⟩
  · exact h.elim
theorem op_zFdiv : OpR X (binaryOp .FloorDiv) zFdiv := by
  intro pins s σ H x y v u Q I rx ry h
  unfold zFdiv at h
  split at h
  · exact op_fdivW pins s σ H _ _ v u Q I rx ry ⟨_, _, rfl, rfl, h.1, h.2⟩
  · exact h.elim
theorem op_zPow : OpR X (binaryOp .Pow) zPow := by
  intro pins s σ H x y v u Q I rx ry h
  unfold zPow at h
  split at h
  · exact op_pow pins s σ H _ _ v u Q I rx ry ⟨_, _, rfl, rfl, h.1, h.2⟩
  · exact h.elim
theorem op_zLt : OpR X (compareOp .Lt) zLt := by
  intro pins s σ H x y v u Q I rx ry h
  unfold zLt at h
  split at h
  · exact op_lt pins s σ H _ _ v u Q I rx ry ⟨_, _, rfl, rfl, h⟩
  · exact h.elim
theorem op_zLe : OpR X (compareOp .LtE) zLe := by
  intro pins s σ H x y v u Q I rx ry h
  unfold zLe at h
  split at h
  · exact op_le pins s σ H _ _ v u Q I rx ry ⟨_, _, rfl, rfl, h⟩
  · exact h.elim
theorem op_zGt : OpR X (compareOp .Gt) zGt := by
  intro pins s σ H x y v u Q I rx ry h
  unfold zGt at h
  split at h
  · exact op_gt pins s σ H _ _ v u Q I rx ry ⟨_, _, rfl, rfl, h⟩
  · exact h.elim
theorem op_zGe : OpR X (compareOp .GtE) zGe := by
  intro pins s σ H x y v u Q I rx ry h
  unfold zGe at h
  split at h
  · exact op_ge pins s σ H _ _ v u Q I rx ry ⟨_, _, rfl, rfl, h⟩
  · exact h.elim
theorem op_zIs : OpR X (compareOp .Is) zIs := op_isN
theorem op_zIsnt : OpR X (compareOp .IsNot) zIsnt := op_notN
theorem op_zEq (hu : X.A.units + 64 < cLine) : OpR X (compareOp .Eq) (zEq X.K) := OpR.or op_eq (op_eqD hu)
theorem op_zNe (hu : X.A.units + 64 < cLine) : OpR X (compareOp .NotEq) (zNe X.K) := OpR.or op_ne (op_neD hu)
theorem op_zIn : OpR X (compareOp .In) (zIn X.K) := OpR.or op_in_sign op_in_seq
theorem op_zNin : OpR X (compareOp .NotIn) (zNin X.K) := OpR.or op_notIn_sign op_notIn_seq
theorem ix_z : IxR X (zIx X.K) := by
  intro e1 e2 pins s σ H x y v u Q I rx ry h hs
  unfold zIx at h
  split at h
  · obtain ⟨xs, w, hq, ha, q⟩ := h
    rcases hq with hq | hq
    · exact ix_seq e1 e2 pins s σ H _ _ v u Q I rx ry (.inl ⟨_, _, _, _, rfl, rfl, hq, ha, q⟩) hs
    · exact ix_seq e1 e2 pins s σ H _ _ v u Q I rx ry (.inr (.inl ⟨_, _, _, _, rfl, rfl, hq, ha, q⟩)) hs
  · obtain ⟨hz, c, ha, q⟩ := h
    exact ix_seq e1 e2 pins s σ H _ _ v u Q I rx ry (.inr (.inr ⟨_, _, _, rfl, rfl, hz, ha, q⟩)) hs
  · exact h.elim
end
end Z
namespace Z
open PySem PySem.Spec PyProof.Rows L2

/-! ### a def's promise where no repr is running around it; anything may be raised -/
structure FnG (gd : Bool) (P : Program) (w : World) (K : PySem.W.Frag) (mg : Str → Option Value) (base : Heap)
    (k : Nat) (f : Addr) (fd : FuncData) (ps : List Str) (sp : Sp) : Prop where
  len : ∀ vs H Q E, sp vs H Q E → vs.length = ps.length
  run : ∀ (A : Around) (outer : List Env) (s : Shared) (H : Hp) (args : Args) (us : List Value)
    (vs : List V) (Q : VK) (E : XK), Room k A → (gd = true → A.guards = some []) →
    Env0 P w K mg base A outer s H → BindsTo s fd args (ps.zip us) → Vals vs us → sp vs H Q E →
    codeAny (model P w) A (.call (.ref f) args) (CR (L2.CX P w) outer P w H s Q E) s
abbrev FnZ := FnG true
section
variable {gd : Bool} {P : Program} {w : World} {K : PySem.W.Frag} {mg : Str → Option Value} {base : Heap} {f : Addr} {fd : FuncData} {ps : List Str} {sp sp' : Sp}
theorem FnG.mono {j k : Nat} (F : FnG gd P w K mg base j f fd ps sp) (h : j ≤ k) : FnG gd P w K mg base k f fd ps sp :=
  ⟨F.len, fun A outer s H args us vs Q E hr => F.run A outer s H args us vs Q E (hr.mono h)⟩
theorem FnG.imp {k : Nat} (F : FnG gd P w K mg base k f fd ps sp) (h : ∀ vs H Q E, sp' vs H Q E → sp vs H Q E) : FnG gd P w K mg base k f fd ps sp' :=
  ⟨fun vs H Q E q => F.len vs H Q E (h _ _ _ _ q), fun A outer s H args us vs Q E hr hg he hb hv hs =>
    F.run A outer s H args us vs Q E hr hg he hb hv (h _ _ _ _ hs)⟩
/-- without a word on guards it is a promise for any of the hand layer's rules -/
theorem FnG.raw {k : Nat} (F : FnG false P w K mg base k f fd ps sp) (hb : Binds K fd ps []) : FnR P w K mg base (L2.CX P w) k f sp := by
  intro A outer s H us vs Q E hr e0 r h
  have KX : K.In s.heap := e0.mod.kin.keeps fun b o z => (e0.bs b o z).1
  have hl : us.length = ps.length := r.length.symm.trans (F.len _ _ _ _ h)
  have b := hb s us KX (by rw [List.append_nil]; exact hl)
  rw [List.append_nil] at b
  exact F.run A outer s H ⟨us, []⟩ us vs Q E hr (fun z => nomatch z) e0 b r h
/-- and one that holds even so -/
theorem FnG.up {k : Nat} (F : FnG false P w K mg base k f fd ps sp) : FnG gd P w K mg base k f fd ps sp := ⟨F.len, fun A outer s H args us vs Q E hr _ => F.run A outer s H args us vs Q E hr fun z => nomatch z⟩
end
theorem guards_make {A : Around} {C : Addr} {us : List Value} {kw : List (Str × Value)} (h : A.guards = some []) :
    (A.under (.builtin "type.__call__" ⟨.ref C :: us, kw⟩)).guards = some [] := by
  simp [Around.under, Code.guards, Code.isGuard, guardIds, pushGuards, h]

section
variable {gd : Bool} {P : Program} {w : World} {K : PySem.W.Frag} {mg : Str → Option Value} {base : Heap}
/-- a def by its body -/
theorem okZ {x qual : Str} {st : Stmt} {f : Addr} {fd : FuncData} {N ps : List Str} {k : Nat} {sp : Sp} (F : Fun K x qual st f fd)
    (S : FnScope N ps (defScope st)) (len : ∀ vs H Q E, sp vs H Q E → vs.length = ps.length)
    (hbody : ∀ (cdv : Value) (A : Around) (outer : List Env) (s : Shared) (H : Hp) (vs : List V) (Q : VK) (E : XK),
      Room k (A.deeper (envOfC qual (defScope st) s.heap.objs.size f cdv)) →
      (gd = true → (A.deeper (envOfC qual (defScope st) s.heap.objs.size f cdv)).guards = some []) → sp vs H Q E →
      ∃ t, PSs (cxOf (L2.CX P w) P w K mg base N qual (defScope st) f cdv A outer s H E) (defBody st) t ∧
        t { nx := fun _ H' => Q .non H', rt := Q } (start N vs) H) :
    FnG gd P w K mg base (k + 1) f fd ps sp := by
  obtain ⟨oc, od, kV, doc, pm, an, cdv, ct, osl, rfl, lk, hcd⟩ := F.ex
  refine ⟨len, fun A outer s H args us vs Q E hr hgu e0 hb r hsp => ?_⟩
  have hl := len _ _ _ _ hsp
  have KX : K.In s.heap := e0.mod.kin.keeps fun b o z => (e0.bs b o z).1
  have lim : s.heap.NoLimit := e0.mod.nolimit.keeps fun b o z => (e0.bs b o z).1
  have hkind : ∀ y ∈ ps.zip us, (defScope st).names.lookup y.1 = some .local ∨
      ((defScope st).names.lookup y.1 = some .cell ∧ ((cellsFrom (s.heap.objs.size + 1) (defScope st).names []).lookup y.1).isSome = true) := by
    intro y hy
    obtain ⟨n, v⟩ := y
    rcases S.par n (List.of_mem_zip hy).1 with q | q
    · exact .inl q
    · exact .inr ⟨q, PySem.W.cellsFrom_some _ _ _ (.inl q)⟩
  refine codeAny_call_function hr.depth (KX _ _ lk) rfl S.co S.gen rfl (PySem.W.codeRec_of KX hcd) (hb _ _ _ _ ?_)
  refine wpAny_newFunctionEnv_cells S.kind hkind fun env he s1 x => ?_
  subst he
  refine ⟨lim.keeps x.toInCall.keep, codeAny_func ?_⟩
  obtain ⟨t, ht, hq⟩ := hbody cdv A outer s H vs Q E (hr.deeper _) hgu hsp
  have I := inv_start (CX := L2.CX P w) (E := E) S hr.hd e0 hl r x
  refine wpAny_mono (ht.run [] s1 (start N vs) H _ I hq) (fun fl s' hs => ?_) fun e s' hs => hs
  cases fl with
  | ret u =>
    obtain ⟨v, σ', H', J, rv, q⟩ := hs
    exact ⟨v, H', J.os, J.bare, J.base, J.hok, rv, q⟩
  | next =>
    obtain ⟨σ', H', J, q⟩ := hs
    exact ⟨V.non, H', J.os, J.bare, J.base, J.hok, rfl, q⟩
  | brk => exact False.elim hs.choose_spec.choose_spec.2
  | cont => exact False.elim hs.choose_spec.choose_spec.2
end

/-! ### calls of such defs -/
theorem passE0 {X : Cx} (σ : St) : PassesAt (L2.CX X.prog X.w) X σ E0 := fun pins H s e s' I h => passL pins σ H s e s' I h
def zCall (sp : Sp) (dvs : List V) (E : St → XK) (t : TA) : TE := fun σ H Q => t σ H fun vs H1 => sp (vs ++ dvs) H1 Q (E σ)
def zMeth (C : Addr) (m : Str) (sp : Sp) (dvs : List V) (E : St → XK) (ta : TE) (t : TA) : TE := fun σ H Q =>
  ta σ H fun x H1 => ∃ a dx fs, x = .ref a ∧ H1 a = some (.ins C dx fs) ∧ fs.lookup m = none ∧
    t σ H1 fun vs H2 => sp (x :: (vs ++ dvs)) H2 Q (E σ)
def zMake (C : Addr) (sp : Sp) (dvs : List V) (E : St → XK) (t : TA) : TE := fun σ H Q =>
  t σ H fun vs H1 => ∀ x dx, H1 x = none → H1 dx = none → dx ≠ x →
    sp (.ref x :: (vs ++ dvs)) (upd (upd H1 dx (.own x)) x (.ins C dx [])) (fun v H2 => v = .non ∧ Q (.ref x) H2) (E σ)
section
variable {gd : Bool} {X : Cx} {k : Nat} {f C : Addr} {fd : FuncData} {ps : List Str} {sp : Sp} {dvs : List V} {ds : List Value} {E : St → XK} {x m : Str}
  {p pos apos : Pos} {e o : Expr} {es : List Expr} {ta : TE} {t : TA}
theorem run_fnZ {pins : List (Addr × Obj)} {σ : St} {H : Hp} {s : Shared} {Q : VK} {us : List Value} {vs : List V}
    (F : FnG gd X.prog X.w X.K X.mg X.base k f fd ps sp) (hr : Room k X.A) (hgu : gd = true → X.A.guards = some []) (hb : Binds X.K fd ps ds) (hd : Vals dvs ds)
    (hx : PassesAt (L2.CX X.prog X.w) X σ (E σ)) (I : Inv X pins σ H s) (r : Vals vs us) (h : sp (vs ++ dvs) H Q (E σ)) :
    wpAny (model X.prog X.w) X.A (call (.ref f) us) (EP X pins σ Q) X.xe s := by
  have r2 : Vals (vs ++ dvs) (us ++ ds) := r.append hd
  have hl : (us ++ ds).length = ps.length := r2.length.symm.trans (F.len _ _ _ _ h)
  refine wpAny_call (codeAny_mono (F.run X.A X.stack s H ⟨us, []⟩ (us ++ ds) (vs ++ dvs) Q (E σ) hr hgu I.env0 (hb s us I.kIn hl) r2 h) fun r s' hq => ?_)
  rcases r with er | fl
  · exact hx pins H s er s' I hq
  · cases fl with
    | ret u => exact I.after hq
    | next => exact hq.elim
    | brk => exact hq.elim
    | cont => exact hq.elim
/-- f(e, ..) -/
theorem pe_callZ (F : FnG gd X.prog X.w X.K X.mg X.base k f fd ps sp) (hr : Room k X.A) (hgu : gd = true → X.A.guards = some []) (hg : Gl X x) (hm : X.mg x = some (.ref f))
    (hk : PySem.W.keepIn X.K (.ref f) = true) (hb : Binds X.K fd ps ds) (hd : Vals dvs ds) (hx : ∀ σ, PassesAt (L2.CX X.prog X.w) X σ (E σ))
    (ha : PA X (e :: es) t) (hdb : (x == ("__debug__" : Str)) = false := by decide)
    (he : starEach (e :: es) X.env = (false, eval e X.env) :: starEach es X.env := by rfl) (hpl : (backTo pos (starEach es X.env)).any (·.1) = false := by rfl) :
    PE X (.Call (.Name x p) (e :: es) [] pos) (zCall sp dvs E t) := by
  constructor
  intro pins s σ H Q I h
  refine wpAny_Call_Name_kw (ld_glob I hg hm ?_ hdb)
  refine PySem.W.callWith_K (h₀ := X.base) I.ok.mod.kin hk (thn (ha.run pos pins s σ H _ I h) ?_) he hpl
  rintro us s1 ⟨vs, H1, I1, r, q⟩
  exact ⟨I1.kIn, run_fnZ F hr hgu hb hd (hx σ) I1 r q⟩
theorem pe_callZ0 (F : FnG gd X.prog X.w X.K X.mg X.base k f fd ps sp) (hr : Room k X.A) (hgu : gd = true → X.A.guards = some []) (hg : Gl X x) (hm : X.mg x = some (.ref f))
    (hk : PySem.W.keepIn X.K (.ref f) = true) (hb : Binds X.K fd ps ds) (hd : Vals dvs ds) (hx : ∀ σ, PassesAt (L2.CX X.prog X.w) X σ (E σ))
    (hdb : (x == ("__debug__" : Str)) = false := by decide) : PE X (.Call (.Name x p) [] [] pos) (zCall sp dvs E tNil) := by
  constructor
  intro pins s σ H Q I h
  refine wpAny_Call_Name_kw (ld_glob I hg hm ?_ hdb)
  exact PySem.W.callWith_K0 I.kIn hk (run_fnZ (us := []) F hr hgu hb hd (hx σ) I .nil h)
theorem run_makeZ {pins : List (Addr × Obj)} {σ : St} {H : Hp} {s : Shared} {Q : VK} {us : List Value} {vs : List V} (M : Mk X.K C f)
    (F : FnG gd X.prog X.w X.K X.mg X.base k f fd ps sp) (hr : Room (k + 1) X.A) (hgu : gd = true → X.A.guards = some []) (hb : Binds X.K fd ps ds) (hd : Vals dvs ds)
    (hx : PassesAt (L2.CX X.prog X.w) X σ (E σ)) (I : Inv X pins σ H s) (r : Vals vs us)
    (h : ∀ x dx, H x = none → H dx = none → dx ≠ x → sp (.ref x :: (vs ++ dvs)) (upd (upd H dx (.own x)) x (.ins C dx [])) (fun v H2 => v = .non ∧ Q (.ref x) H2) (E σ)) :
    wpAny (model X.prog X.w) X.A (call (.ref C) us) (EP X pins σ Q) X.xe s := by
  have n0 := I.hok.fresh (Nat.le_refl s.heap.objs.size)
  have n1 := I.hok.fresh (Nat.le_succ s.heap.objs.size)
  have hq := h _ _ n1 n0 (Nat.ne_of_lt (Nat.lt_succ_self _))
  have I2 := Inv.made (C := C) I
  have r2 : Vals (V.ref (s.heap.objs.size + 1) :: (vs ++ dvs)) (Value.ref (s.heap.objs.size + 1) :: (us ++ ds)) := .cons rfl (r.append hd)
  have hl : (Value.ref (s.heap.objs.size + 1) :: us ++ ds).length = ps.length := (r2.length.symm.trans (F.len _ _ _ _ hq))
  refine wpAny_call (make_map (f := f) I.kIn M.makes M.init (beq_iff_eq.mp M.fn) (codeAny_mono (F.run _ X.stack _ _ ⟨Value.ref (s.heap.objs.size + 1) :: us, []⟩ _ _ _ (E σ) (hr.make C us [])
    (fun z => guards_make (hgu z)) (I2.env0.make C us []) (hb _ (Value.ref (s.heap.objs.size + 1) :: us) I2.kIn hl) r2 hq) fun r s' hq' => ?_))
  rcases r with er | fl
  · exact hx pins _ _ er s' I2 hq'
  · cases fl with
    | ret u =>
      obtain ⟨v, H', I3, rv, ev, q3⟩ := I2.after hq'
      subst ev
      exact ⟨rv, ⟨V.ref (s.heap.objs.size + 1), H', I3, rfl, q3⟩⟩
    | next => exact hq'.elim
    | brk => exact hq'.elim
    | cont => exact hq'.elim
/-- C(e, ..) -/
theorem pe_makeZ (M : Mk X.K C f) (F : FnG gd X.prog X.w X.K X.mg X.base k f fd ps sp) (hr : Room (k + 1) X.A) (hgu : gd = true → X.A.guards = some []) (hg : Gl X x)
    (hm : X.mg x = some (.ref C)) (hb : Binds X.K fd ps ds) (hd : Vals dvs ds) (hx : ∀ σ, PassesAt (L2.CX X.prog X.w) X σ (E σ)) (ha : PA X (e :: es) t)
    (hdb : (x == ("__debug__" : Str)) = false := by decide)
    (he : starEach (e :: es) X.env = (false, eval e X.env) :: starEach es X.env := by rfl) (hpl : (backTo pos (starEach es X.env)).any (·.1) = false := by rfl) :
    PE X (.Call (.Name x p) (e :: es) [] pos) (zMake C sp dvs E t) := by
  constructor
  intro pins s σ H Q I h
  refine wpAny_Call_Name_kw (ld_glob I hg hm ?_ hdb)
  refine PySem.W.callWith_K (h₀ := X.base) I.ok.mod.kin M.kp (thn (ha.run pos pins s σ H _ I h) ?_) he hpl
  rintro us s1 ⟨vs, H1, I1, r, q⟩
  exact ⟨I1.kIn, run_makeZ M F hr hgu hb hd (hx σ) I1 r q⟩
theorem pe_makeZ0 (M : Mk X.K C f) (F : FnG gd X.prog X.w X.K X.mg X.base k f fd ps sp) (hr : Room (k + 1) X.A) (hgu : gd = true → X.A.guards = some []) (hg : Gl X x)
    (hm : X.mg x = some (.ref C)) (hb : Binds X.K fd ps ds) (hd : Vals dvs ds) (hx : ∀ σ, PassesAt (L2.CX X.prog X.w) X σ (E σ))
    (hdb : (x == ("__debug__" : Str)) = false := by decide) :
    PE X (.Call (.Name x p) [] [] pos) (zMake C sp dvs E tNil) := by
  constructor
  intro pins s σ H Q I h
  refine wpAny_Call_Name_kw (ld_glob I hg hm ?_ hdb)
  exact PySem.W.callWith_K0 I.kIn M.kp (run_makeZ (us := []) M F hr hgu hb hd (hx σ) I .nil h)
/-- o.m(e, ..) -/
theorem pe_methZ {pl : Sem Bool} (he : PE X o ta) (c : Cls X.K C) (hm : Meth X.K C m f) (F : FnG gd X.prog X.w X.K X.mg X.base k f fd ps sp)
    (hr : Room k X.A) (hgu : gd = true → X.A.guards = some []) (hb : Binds X.K fd ps ds) (hd : Vals dvs ds) (hx : ∀ σ, PassesAt (L2.CX X.prog X.w) X σ (E σ)) (ha : PA X (e :: es) t)
    (hst : starEach (e :: es) X.env = (false, eval e X.env) :: starEach es X.env := by rfl) (hpl : (backTo pos (starEach es X.env)).any (·.1) = false := by rfl)
    (ht : eval (.Call (.Attribute o m apos) (e :: es) [] pos) X.env = (do
      let ow ← eval o X.env
      standAt apos.atName
      let (g, first) ← holding [ow] (getMethod ow m pl)
      callWith pos g first (backTo pos (starEach (e :: es) X.env)) (backToKw pos (keywordEach [] X.env))) := by rfl) :
    PE X (.Call (.Attribute o m apos) (e :: es) [] pos) (zMeth C m sp dvs E ta t) := by
  constructor
  intro pins s σ H Q I h
  refine PySem.W.methodCall_KW (pl := pl) (thn (he.run pins s σ H _ I h) ?_) ht
  rintro u s1 ⟨x, H1, I1, rx, a, dx, fs, rfl, ea, l, q⟩
  obtain rfl : u = Value.ref a := rx
  refine getmeth_ok I1 ea c hm l ?_
  refine PySem.W.callWith_K (first := [.ref a]) (h₀ := X.base) I.ok.mod.kin hm.kp (thn (ha.run pos pins s1 σ H1 _ I1 q) ?_) hst hpl
  rintro us s2 ⟨vs, H2, I2, r, q2⟩
  exact ⟨I2.kIn, run_fnZ (us := .ref a :: us) (vs := .ref a :: vs) F hr hgu hb hd (hx σ) I2 (.cons rfl r) q2⟩
theorem pe_methZ0 {pl : Sem Bool} (he : PE X o ta) (c : Cls X.K C) (hm : Meth X.K C m f) (F : FnG gd X.prog X.w X.K X.mg X.base k f fd ps sp)
    (hr : Room k X.A) (hgu : gd = true → X.A.guards = some []) (hb : Binds X.K fd ps ds) (hd : Vals dvs ds) (hx : ∀ σ, PassesAt (L2.CX X.prog X.w) X σ (E σ))
    (ht : eval (.Call (.Attribute o m apos) [] [] pos) X.env = (do
      let ow ← eval o X.env
      standAt apos.atName
      let (g, first) ← holding [ow] (getMethod ow m pl)
      callWith pos g first (backTo pos (starEach [] X.env)) (backToKw pos (keywordEach [] X.env))) := by rfl) :
    PE X (.Call (.Attribute o m apos) [] [] pos) (zMeth C m sp dvs E ta tNil) := by
  constructor
  intro pins s σ H Q I h
  refine PySem.W.methodCall_KW (pl := pl) (thn (he.run pins s σ H _ I h) ?_) ht
  rintro u s1 ⟨x, H1, I1, rx, a, dx, fs, rfl, ea, l, q⟩
  obtain rfl : u = Value.ref a := rx
  refine getmeth_ok I1 ea c hm l ?_
  exact PySem.W.callWith_K0 (first := [.ref a]) I1.kIn hm.kp (run_fnZ (us := [.ref a]) (vs := [.ref a]) F hr hgu hb hd (hx σ) I1 (.cons rfl .nil) q)

/-! ### an own exception over ValueError, its __init__ a def -/
/-- C(e, ..) that is raised -/
def zMkO (C : Addr) (sp : Sp) (ta : TA) : St → Hp → XK → Prop := fun σ H Q =>
  ta σ H fun vs H1 => vs.length ≤ 1000 ∧ ∀ a, H1 a = none → sp (.ref a :: vs) (upd H1 a (exo a C none))
    (fun v H2 => v = .non ∧ ∃ (d : Addr) (fs : List (Str × V)), H2 a = some (exo a C (some d)) ∧ H2 d = some (exd d fs) ∧ H1 d = none ∧ Q (.ref C) (some d) (upd (del H2 a) d (.xd fs))) E0
theorem pmk_Z {fI : Addr} (T : OexC X.K C) (iC : PySem.W.findIn X.K (.ref C) "__init__" = some (some (.ref fI))) (tI : PySem.W.typeIn X.K (.ref fI) = some (.type "function"))
    (F : FnG gd X.prog X.w X.K X.mg X.base k fI fd ps sp) (hr : Room (k + 1) X.A) (hgu : gd = true → X.A.guards = some []) (hb : Binds X.K fd ps []) (hg : Gl X x)
    (hm : X.mg x = some (.ref C)) (ha : PA X (e :: es) t) (hdb : (x == ("__debug__" : Str)) = false := by decide)
    (he : starEach (e :: es) X.env = (false, eval e X.env) :: starEach es X.env := by rfl) (hpl : (backTo pos (starEach es X.env)).any (·.1) = false := by rfl) :
    PMk X (.Call (.Name x p) (e :: es) [] pos) (zMkO C sp t) := by
  intro pins s σ H Q I h
  obtain ⟨nm, q, N, bs, bm, sn, sub, ab, col, dd, k0, k1, k2, k3, k5, hC, hbm⟩ := T.cls
  refine wpAny_Call_Name_kw (ld_glob I hg hm ?_ hdb)
  refine PySem.W.callWith_K (h₀ := X.base) I.ok.mod.kin T.kC (thn (ha.run pos pins s σ H _ I h) ?_) he hpl
  rintro us s1 ⟨vs, H1, I1, r1, hz, q1⟩
  refine ⟨I1.kIn, ?_⟩
  show wpAny _ _ (call (.ref C) us) _ _ _
  obtain ⟨hp, g, dr, tk, os⟩ := s1
  have hsz : hp.objs.size ≤ hp.objs.size + 1 := Nat.le_succ _
  have hq := q1 (hp.objs.size + 1) (I1.hok.fresh hsz)
  have kk : ∀ b o, hp.get? b = some o → ((hp.push (PySem.W.kdv_tup us)).push (PySem.HandSPX.excO C hp.objs.size)).get? b = some o :=
    fun b o z => Heap.get?_push_of_some _ (Heap.get?_push_of_some _ z)
  have hget : ((hp.push (PySem.W.kdv_tup us)).push (PySem.HandSPX.excO C hp.objs.size)).get? (hp.objs.size + 1) =
      some (PySem.HandSPX.excO C hp.objs.size) := by heap_get
  have I2 := I1.laid (t' := tk) (a := hp.objs.size + 1) (o := exo (hp.objs.size + 1) C none)
    (h' := (hp.push (PySem.W.kdv_tup us)).push (PySem.HandSPX.excO C hp.objs.size)) kk hsz (exo_ok hget)
  have r2 : Vals (V.ref (hp.objs.size + 1) :: vs) (Value.ref (hp.objs.size + 1) :: us) := .cons rfl r1
  have hl : (Value.ref (hp.objs.size + 1) :: us).length = ps.length := r2.length.symm.trans (F.len _ _ _ _ hq)
  have hus : us.length ≤ sizeLine := by
    rw [← Paired.length r1, sizeLine_eq]
    omega
  have bb := hb ⟨(hp.push (PySem.W.kdv_tup us)).push (PySem.HandSPX.excO C hp.objs.size), g, dr, tk, os⟩ (Value.ref (hp.objs.size + 1) :: us) I2.kIn (by rw [List.append_nil]; exact hl)
  rw [List.append_nil] at bb
  refine wpAny_call (PySem.HandSPX.call_own PySem.F.excBase_ValueError (fun Y => PySem.HandSPX.refsVE_contains Y bm hbm) (I1.kIn _ _ hC)
    (PySem.W.looks_findIn I1.kIn iC) (fun self => PySem.W.bind_fn I1.kIn self tI) hus
    (codeAny_mono (F.run _ X.stack _ _ ⟨Value.ref (hp.objs.size + 1) :: us, []⟩ _ _ _ E0 (hr.make C us []) (fun z => guards_make (hgu z)) (I2.env0.make C us []) bb r2 hq) fun r s' hq' => ?_))
  rcases r with er | fl
  · exact (show False by
      obtain ⟨_, _, _, _, _, _, _, _, _, _, _, _, z⟩ := hq'
      exact z).elim
  · cases fl with
    | ret u =>
      obtain ⟨v, H2, os2, bare2, un2, hok2, rv, ev, d, fs, ea, ed, hd1, q2⟩ := hq'
      subst ev
      obtain ⟨h2, g2, d2, t2, os'⟩ := s'
      exact ⟨rv, mk_end (raises_own T.exC T.tyC) I1 hsz kk un2 hok2 os2 bare2 ea ed hd1 q2⟩
    | next => exact hq'.elim
    | brk => exact hq'.elim
    | cont => exact hq'.elim
end
end Z
namespace Z
open PySem PySem.Spec PyProof.Rows L2

/-! ### isinstance by a built-in class -/
def knC (c : String) : Bool := c == "int" || c == "str" || c == "bool" || c == "list" || c == "tuple" || c == "dict"
/-- the kind of an object -/
def TyR (K : PySem.W.Frag) (H : Hp) (a : Addr) (t : String) : Prop :=
  (t = "list" ∧ ∃ xs, SqL K H a xs) ∨ (t = "tuple" ∧ ∃ xs, SqT K H a xs) ∨ (t = "dict" ∧ ((∃ kvs, H a = some (.dK kvs)) ∨ ∃ kvs, H a = some (.dT kvs)))
def zIsi (K : PySem.W.Frag) : List V → Hp → VK → Prop := fun xs H Q => match xs with
  | [.non, .ty c] => knC c = true ∧ Q (.bl false) H
  | [.bl _, .ty c] => knC c = true ∧ Q (.bl (c == "bool" || c == "int")) H
  | [.int _, .ty c] => knC c = true ∧ Q (.bl (c == "int")) H
  | [.str _, .ty c] => knC c = true ∧ Q (.bl (c == "str")) H
  | [.ref a, .ty c] => knC c = true ∧ ∃ t, TyR K H a t ∧ Q (.bl (c == t)) H
  | _ => False
theorem knC_cases {c : String} (h : knC c = true) : c = "int" ∨ c = "str" ∨ c = "bool" ∨ c = "list" ∨ c = "tuple" ∨ c = "dict" := by
  simpa [knC, or_assoc] using h
theorem TyR.ty {K : PySem.W.Frag} {H : Hp} {a : Addr} {t : String} (h : TyR K H a t) : TyX K H (.ref a) (.type t) ∧ (t = "list" ∨ t = "tuple" ∨ t = "dict") := by
  rcases h with ⟨rfl, xs, (h | ⟨o, h⟩) | ⟨o, its, n, h, h2, _⟩⟩ | ⟨rfl, xs, (h | ⟨o, h⟩) | ⟨o, its, n, h, h2, _⟩⟩ | ⟨rfl, ⟨kvs, h⟩ | ⟨kvs, h⟩⟩
  · exact ⟨.base (.lst h), .inl rfl⟩
  · exact ⟨.base (.frz h), .inl rfl⟩
  · exact ⟨.kList h h2, .inl rfl⟩
  · exact ⟨.base (.tup h), .inr (.inl rfl)⟩
  · exact ⟨.fTuple h, .inr (.inl rfl)⟩
  · exact ⟨.kTuple h h2, .inr (.inl rfl)⟩
  · exact ⟨.base (.dK h), .inr (.inr rfl)⟩
  · exact ⟨.base (.dT h), .inr (.inr rfl)⟩
theorem kit_tab (t c : String) (ht : t = "NoneType" ∨ t = "bool" ∨ t = "int" ∨ t = "str" ∨ t = "list" ∨ t = "tuple" ∨ t = "dict") (hc : knC c = true) :
    kitB t c = some (c == t || (c == "int" && t == "bool")) := by
  rcases ht with rfl | rfl | rfl | rfl | rfl | rfl | rfl <;> rcases knC_cases hc with rfl | rfl | rfl | rfl | rfl | rfl <;> decide +kernel
section
variable {X : Cx}
theorem call_isiZ : CallR X (.builtin "isinstance") (zIsi X.K) := by
  intro pins s σ H xs us Q I r h
  have go : ∀ (x : V) (c t : String), xs = [x, .ty c] → knC c = true → TyX X.K H x (.type t) →
      (t = "NoneType" ∨ t = "bool" ∨ t = "int" ∨ t = "str" ∨ t = "list" ∨ t = "tuple" ∨ t = "dict") →
      Q (.bl (c == t || (c == "int" && t == "bool"))) H → wpAny (model X.prog X.w) X.A (PySem.call (.builtin "isinstance") us) (EP X pins σ Q) X.xe s :=
    fun x c t e hc ty ht q => call_isi pins s σ H xs us Q I r ⟨x, .ty c, .type t, .type c, _, e, .ty c, ty, kit_ty (kit_tab t c ht hc), q⟩
  unfold zIsi at h
  split at h
  · rename_i c
    refine go _ c "NoneType" rfl h.1 (.base .non) (by simp) ?_
    have e : (c == "NoneType" || (c == "int" && "NoneType" == "bool")) = false := by rcases knC_cases h.1 with rfl | rfl | rfl | rfl | rfl | rfl <;> decide
    rw [e]; exact h.2
  · rename_i b c
    refine go _ c "bool" rfl h.1 (.base (.bl b)) (by simp) ?_
    have e : (c == "bool" || (c == "int" && "bool" == "bool")) = (c == "bool" || c == "int") := by rcases knC_cases h.1 with rfl | rfl | rfl | rfl | rfl | rfl <;> decide
    rw [e]; exact h.2
  · rename_i i c
    refine go _ c "int" rfl h.1 (.base (.int i)) (by simp) ?_
    have e : (c == "int" || (c == "int" && "int" == "bool")) = (c == "int") := by rcases knC_cases h.1 with rfl | rfl | rfl | rfl | rfl | rfl <;> decide
    rw [e]; exact h.2
  · rename_i z c
    refine go _ c "str" rfl h.1 (.base (.str z)) (by simp) ?_
    have e : (c == "str" || (c == "int" && "str" == "bool")) = (c == "str") := by rcases knC_cases h.1 with rfl | rfl | rfl | rfl | rfl | rfl <;> decide
    rw [e]; exact h.2
  · rename_i a c
    obtain ⟨hc, t, ty, q⟩ := h
    obtain ⟨ty, ht⟩ := ty.ty
    refine go _ c t rfl hc ty (by rcases ht with rfl | rfl | rfl <;> simp) ?_
    have e : (c == t || (c == "int" && t == "bool")) = (c == t) := by
      rcases ht with rfl | rfl | rfl <;> rcases knC_cases hc with rfl | rfl | rfl | rfl | rfl | rfl <;> decide
    rw [e]; exact q
  · exact h.elim
end

/-! ### repr of data -/
/-- a flat thing as data -/
def flatD : V → Option PyData
  | .non => some .none | .bl b => some (.bool b) | .int i => some (.int i) | .str x => some (.str x) | _ => none
theorem flatD_reads {h : Heap} {v : V} {u : Value} {d : PyData} (e : flatD v = some d) (r : RelV v u) : Reads h u d [] := by
  cases v <;> simp [flatD] at e <;> subst e
  · cases r; exact .none
  · cases r; exact .bool _
  · obtain ⟨t, rfl⟩ := r; exact .int _ _
  · obtain ⟨t, rfl⟩ := r; exact .str _ _
def keyD : Key → PyData
  | .inl i => .int i
  | .inr x => .str x
/-- data without dicts, or a dict of flat things -/
def DpR (K : PySem.W.Frag) (H : Hp) (x : V) (d : PyData) : Prop :=
  (Dp K H x d ∧ d.hasDict = false) ∨ ∃ a kvs kds, x = .ref a ∧ H a = some (.dK kvs) ∧ d = .dict kds ∧
    Paired (fun (p : Key × V) (q : PyData × PyData) => keyD p.1 = q.1 ∧ flatD p.2 = some q.2) kvs kds
theorem dict_reads {P : Program} {w : World} {h : Heap} {es : List DictEntry} {vs : List (Key × Value)} (hp : Pairs (mixKind P w) es vs) :
    ∀ {kvs : List (Key × V)} {kds : List (PyData × PyData)}, KV kvs vs → Paired (fun (p : Key × V) (q : PyData × PyData) => keyD p.1 = q.1 ∧ flatD p.2 = some q.2) kvs kds →
      ReadsAll h (es.map (·.key)) (kds.map (·.1)) [] ∧ ReadsAll h (es.map (·.val)) (kds.map (·.2)) [] := by
  induction hp with
  | nil =>
    intro kvs kds r q
    cases r
    cases q
    exact ⟨.nil, .nil⟩
  | cons h1 hv _ ih =>
    intro kvs kds r q
    cases r with
    | cons r1 r2 =>
      cases q with
      | cons q1 q2 =>
        obtain ⟨i1, i2⟩ := ih r2 q2
        obtain ⟨e1, rv⟩ := r1
        obtain ⟨e2, e3⟩ := q1
        rename_i en kv es' kvs' hpp p ps q qs
        have k1 : Reads h en.key q.1 [] := by
          rw [← e2, e1]
          rcases keyIs_shape h1 with ⟨i, t, ek, ev⟩ | ⟨x, t, ek, ev⟩
          · rw [ek, ev]
            exact .int _ _
          · rw [ek, ev]
            exact .str _ _
        have k2 : Reads h en.val q.2 [] := by
          rw [hv]
          exact flatD_reads e3 rv
        exact ⟨ReadsAll.cons (as := []) (bs := []) k1 i1, ReadsAll.cons (as := []) (bs := []) k2 i2⟩
section
variable {X : Cx} {pins : List (Addr × Obj)} {σ : St} {H : Hp} {s : Shared}
theorem DpR.reads (I : Inv X pins σ H s) {d : PyData} {v : V} {u : Value} (h : DpR X.K H v d) (r : RelV v u) : ∃ as, Reads s.heap u d as ∧ (d.hasDict = true → sysModules ∉ as) := by
  rcases h with ⟨h, hd⟩ | ⟨a, kvs, kds, rfl, ha, rfl, hp⟩
  · obtain ⟨as, q⟩ := Dp.reads I d v u h r
    exact ⟨as, q, fun z => by rw [hd] at z; exact absurd z Bool.false_ne_true⟩
  · cases r
    obtain ⟨_, hy, vs, rv, o, es, ep, e1, e2, e3, _, e5, _⟩ := (show ObjOk X.prog X.w H s.heap a (.dK kvs) from I.hok a _ ha)
    obtain ⟨r1, r2⟩ := dict_reads (h := s.heap) e5 rv hp
    refine ⟨_, Reads.dict e1 e2.1 e3 r1 r2, fun _ z => ?_⟩
    have z' : sysModules = a := by simpa using z
    rw [z'] at hy
    simp at hy
def zRepr (K : PySem.W.Frag) : List V → Hp → VK → Prop := fun xs H Q => ∃ x d, xs = [x] ∧ DpR K H x d ∧ d.showable = true ∧ d.depth ≤ 32 ∧ d.shown.length ≤ sizeLine ∧ Q (.str d.shown) H
theorem call_reprZ (hg : X.A.guards = some []) (hu : X.A.units + 64 < cLine) : CallR X (.builtin "repr") (zRepr X.K) := by
  intro pins s σ H xs us Q I r h
  obtain ⟨x, d, rfl, hd, hs, hdp, hz, q⟩ := h
  obtain ⟨u, rfl, ru⟩ := vals1 r
  obtain ⟨as, hr, hsm⟩ := hd.reads I ru
  cases hr with
  | none => exact PySem.P.repr_of_none ⟨.str _, H, I.tok _, ⟨_, rfl⟩, q⟩
  | bool b => exact PySem.P.repr_of_bool ⟨.str _, H, I.tok _, ⟨_, rfl⟩, q⟩
  | int i t => exact PySem.P.repr_of_int (by simpa [PyData.showable] using hs) ⟨.str _, H, I.tok _, ⟨_, rfl⟩, q⟩
  | str y t => exact PySem.P.repr_of_str ⟨.str _, H, I.tok _, ⟨_, rfl⟩, q⟩ (by simpa only [PyData.shown] using hz)
  | list h1 h2 h3 h4 =>
    exact PySem.repr_of_reads' (.list h1 h2 h3 h4) hs hsm hg (by omega) (fun _ _ z => z) (fun h' u tk hk => ⟨.str _, H, I.kept (t' := tk) hk, ⟨_, rfl⟩, q⟩) hz
  | tuple h1 h2 h3 h4 =>
    exact PySem.repr_of_reads' (.tuple h1 h2 h3 h4) hs hsm hg (by omega) (fun _ _ z => z) (fun h' u tk hk => ⟨.str _, H, I.kept (t' := tk) hk, ⟨_, rfl⟩, q⟩) hz
  | dict h1 h2 h3 h4 h5 =>
    exact PySem.repr_of_reads' (.dict h1 h2 h3 h4 h5) hs hsm hg (by omega) (fun _ _ z => z) (fun h' u tk hk => ⟨.str _, H, I.kept (t' := tk) hk, ⟨_, rfl⟩, q⟩) hz
end
end Z
namespace Z
open PySem PySem.Spec PyProof.Rows L2

/-! ### readings that reckon by themselves -/
theorem PE.to {X : Cx} {e : Expr} {t t' : TE} (h : PE X e t) (k : ∀ σ H Q, t' σ H Q → t σ H Q) : PE X e t' := ⟨fun pins s σ H Q I q => h.run pins s σ H Q I (k σ H Q q)⟩
theorem PT.to {X : Cx} {e : Expr} {t t' : TT} (h : PT X e t) (k : ∀ σ H Q, t' σ H Q → t σ H Q) : PT X e t' := ⟨fun pins s σ H Q I q => h.run pins s σ H Q I (k σ H Q q)⟩
theorem PS.to {X : Cx} {e : Stmt} {t t' : TS} (h : PS X e t) (k : ∀ D σ H, t' D σ H → t D σ H) : PS X e t' := ⟨fun pins s σ H D I q => h.run pins s σ H D I (k D σ H q)⟩
theorem CallR.to {X : Cx} {f : Value} {r r' : List V → Hp → VK → Prop} (h : CallR X f r) (k : ∀ xs H Q, r' xs H Q → r xs H Q) : CallR X f r' :=
  fun pins s σ H xs us Q I rv q => h pins s σ H xs us Q I rv (k xs H Q q)
def zVar (i : Nat) : TE := fun σ H Q => match σ[i]? with
  | some (some v) => Q v H
  | _ => False
def zTest (t : TE) : TT := fun σ H Q => t σ H fun x H' => match x with
  | .bl k => Q k H'
  | _ => False
def zTru (K : PySem.W.Frag) (t : TE) : TT := fun σ H Q => t σ H fun x H' => match x with
  | .non => Q false H'
  | .bl k => Q k H'
  | .int i => Q (i != 0) H'
  | x => ∃ k, TruV K x H' k ∧ Q k H'
def zAndV (ta tb : TE) : TE := fun σ H Q => ta σ H fun x H1 => match x with
  | .bl c => if c = true then tb σ H1 Q else Q (.bl false) H1
  | _ => False
def zOrV (ta tb : TE) : TE := fun σ H Q => ta σ H fun x H1 => match x with
  | .bl c => if c = true then Q (.bl true) H1 else tb σ H1 Q
  | _ => False
def zNotV (ta : TE) : TE := fun σ H Q => ta σ H fun x H1 => match x with
  | .bl c => Q (.bl (!c)) H1
  | _ => False
def zChain (r r' : R2) (ta tb tc : TE) : TE := fun σ H Q => ta σ H fun x H1 => tb σ H1 fun y H2 => r x y H2 fun z H3 => match z with
  | .bl k => if k = true then tc σ H3 fun w' H4 => r' y w' H4 Q else Q (.bl false) H3
  | _ => False
def zNeg (ta : TE) : TE := fun σ H Q => ta σ H fun x H1 => match x with
  | .int i => Q (.int (-i)) H1
  | _ => False
def zLen (K : PySem.W.Frag) : List V → Hp → VK → Prop := fun xs H Q => match xs with
  | [.str z] => z.length ≤ sizeLine ∧ Q (.int z.length) H
  | [.ref p] => ∃ ys, (SqL K H p ys ∨ SqT K H p ys) ∧ Q (.int ys.length) H
  | _ => False
def rAbs : List V → Hp → VK → Prop := fun xs H Q => match xs with
  | [.int i] => Q (.int (if i < 0 then -i else i)) H
  | _ => False
def rMx2 : List V → Hp → VK → Prop := fun xs H Q => match xs with
  | [.int i, .int j] => Q (.int (if j > i then j else i)) H
  | _ => False
def rMn2 : List V → Hp → VK → Prop := fun xs H Q => match xs with
  | [.int i, .int j] => Q (.int (if j < i then j else i)) H
  | _ => False
def rInt1 : List V → Hp → VK → Prop := fun xs H Q => match xs with
  | [.int i] => Q (.int i) H
  | [.bl k] => Q (.int (if k then 1 else 0)) H
  | _ => False
def rListOf (K : PySem.W.Frag) : List V → Hp → VK → Prop := fun xs H Q => match xs with
  | [.ref p] => ∃ ys, (SqL K H p ys ∨ SqT K H p ys) ∧ ∀ l, H l = none → Q (.ref l) (upd H l (.lst ys))
  | _ => False
def zRaise (W : WX) (C : Addr) (sp : Sp) (ta : TA) : TS := fun _ σ H => zMkO C sp ta σ H fun cls d H' => W cls d σ H'

/-! ### isinstance by a built-in class, the class known -/
inductive Kd where
  | int | str | bool | list | tuple | dict
  deriving DecidableEq
def Kd.nm : Kd → String
  | .int => "int" | .str => "str" | .bool => "bool" | .list => "list" | .tuple => "tuple" | .dict => "dict"
def Kd.isB : Kd → Bool
  | .bool => true | .int => true | _ => false
def Kd.isI : Kd → Bool
  | .int => true | _ => false
def Kd.isS : Kd → Bool
  | .str => true | _ => false
def KndR (K : PySem.W.Frag) (H : Hp) (a : Addr) : Kd → Prop
  | .list => ∃ xs, SqL K H a xs
  | .tuple => ∃ xs, SqT K H a xs
  | .dict => (∃ kvs, H a = some (.dK kvs)) ∨ ∃ kvs, H a = some (.dT kvs)
  | _ => False
def zIsiV (K : PySem.W.Frag) (k : Kd) (x : V) (H : Hp) (Q : VK) : Prop := match x with
  | .non => Q (.bl false) H
  | .bl _ => Q (.bl k.isB) H
  | .int _ => Q (.bl k.isI) H
  | .str _ => Q (.bl k.isS) H
  | .ref a => ∃ t, KndR K H a t ∧ Q (.bl (decide (t = k))) H
  | _ => False
def zIsiT (K : PySem.W.Frag) (k : Kd) (te : TE) : TE := fun σ H Q => te σ H fun x H1 => zIsiV K k x H1 Q
theorem KndR.ty {K : PySem.W.Frag} {H : Hp} {a : Addr} {t : Kd} (h : KndR K H a t) : TyR K H a t.nm := by
  cases t <;> first | exact h.elim | exact .inl ⟨rfl, h⟩ | exact .inr (.inl ⟨rfl, h⟩) | exact .inr (.inr ⟨rfl, h⟩)
theorem nm_kn (k : Kd) : knC k.nm = true := by cases k <;> decide +kernel
theorem nm_eq (k t : Kd) : (k.nm == t.nm) = decide (t = k) := by cases k <;> cases t <;> decide +kernel
theorem zIsiV_to {K : PySem.W.Frag} {k : Kd} {x : V} {H : Hp} {Q : VK} (h : zIsiV K k x H Q) : zIsi K [x, .ty k.nm] H Q := by
  cases x with
  | non => exact ⟨nm_kn k, h⟩
  | bl b =>
    refine ⟨nm_kn k, ?_⟩
    have e : (k.nm == "bool" || k.nm == "int") = k.isB := by cases k <;> decide +kernel
    rw [e]
    exact h
  | int i =>
    refine ⟨nm_kn k, ?_⟩
    have e : (k.nm == "int") = k.isI := by cases k <;> decide +kernel
    rw [e]
    exact h
  | str z =>
    refine ⟨nm_kn k, ?_⟩
    have e : (k.nm == "str") = k.isS := by cases k <;> decide +kernel
    rw [e]
    exact h
  | ref a =>
    obtain ⟨t, ht, q⟩ := h
    refine ⟨nm_kn k, t.nm, ht.ty, ?_⟩
    rw [nm_eq]
    exact q
  | byt _ => exact h.elim
  | flt _ => exact h.elim
  | ty _ => exact h.elim
section
variable {X : Cx} {x y : Str} {pos p p1 p2 : Pos} {e a b c : Expr} {rest : List Expr} {te ta tb tc : TE}
theorem zv (i : Nat) (hN : X.N[i]? = some x := by rfl) (hv : Vis X.env.scope x := by first | exact Or.inl rfl | exact Or.inr (Or.inl rfl) | exact Or.inr (Or.inr rfl))
    (hd : (x == ("__debug__" : Str)) = false := by decide) (hcd : (x == ("__classdict__" : Str)) = false := by decide) : PE X (.Name x pos) (zVar i) :=
  PE.to (pe_var hN hv hd hcd) fun σ H Q h => by
    unfold zVar at h
    split at h
    · rename_i v e
      exact ⟨v, e, h⟩
    · exact h.elim
theorem bl_eq {x : V} {R : Bool → Prop} : (match x with | .bl k => R k | _ => False) = ∃ k, x = .bl k ∧ R k := by
  apply propext
  constructor
  · intro h
    split at h
    · exact ⟨_, rfl, h⟩
    · exact h.elim
  · rintro ⟨k, rfl, h⟩
    exact h
theorem zTest_eq (t : TE) : zTest t = tTest t := by
  funext σ H Q
  exact congrArg (t σ H) (funext fun x => funext fun H' => bl_eq)
theorem zAndV_eq : zAndV ta tb = tAndV ta tb := by
  funext σ H Q
  exact congrArg (ta σ H) (funext fun x => funext fun H' => bl_eq)
theorem zOrV_eq : zOrV ta tb = tOrV ta tb := by
  funext σ H Q
  exact congrArg (ta σ H) (funext fun x => funext fun H' => bl_eq)
theorem zNotV_eq : zNotV ta = tNotV ta := by
  funext σ H Q
  exact congrArg (ta σ H) (funext fun x => funext fun H' => bl_eq)
theorem zChain_eq {r r' : R2} : zChain r r' ta tb tc = tChain r r' ta tb tc := by
  funext σ H Q
  refine congrArg (ta σ H) (funext fun x => funext fun H1 => congrArg (tb σ H1) (funext fun y => funext fun H2 => congrArg (r x y H2) (funext fun z => funext fun H3 => ?_)))
  exact bl_eq
theorem zTru_eq {K : PySem.W.Frag} : zTru K te = fun σ H Q => te σ H fun x H' => ∃ k, TruV K x H' k ∧ Q k H' := by
  funext σ H Q
  refine congrArg (te σ H) (funext fun x => funext fun H' => propext ?_)
  cases x with
  | non => exact ⟨fun h => ⟨_, rfl, h⟩, fun ⟨k, e, h⟩ => by cases e; exact h⟩
  | bl b => exact ⟨fun h => ⟨_, rfl, h⟩, fun ⟨k, e, h⟩ => by cases e; exact h⟩
  | int i => exact ⟨fun h => ⟨_, rfl, h⟩, fun ⟨k, e, h⟩ => by cases e; exact h⟩
  | str _ => exact Iff.rfl
  | byt _ => exact Iff.rfl
  | flt _ => exact Iff.rfl
  | ref _ => exact Iff.rfl
  | ty _ => exact Iff.rfl
theorem ptz_cmp {op : CmpOp} {r : R2} (ho : OpR X (compareOp op) r) (ha : PE X a ta) (hb : PE X b tb) (hm : behindInMarks op b = false) : PT X (.Compare a [op] [b] pos) (zTest (tOp r ta tb)) := by
  rw [zTest_eq]
  exact pt_cmpR ho ha hb hm
theorem pez_chain {op op' : CmpOp} {r r' : R2} (ho : OpR X (compareOp op) r) (ho' : OpR X (compareOp op') r') (ha : PE X a ta) (hb : PE X b tb) (hc : PE X c tc)
    (hm : lastMarks [op, op'] [b, c] = false := by with_unfolding_all rfl) : PE X (.Compare a [op, op'] [b, c] pos) (zChain r r' ta tb tc) := by
  rw [zChain_eq]
  exact pe_chain ho ho' ha hb hc hm
theorem ptz_chain {op op' : CmpOp} {r r' : R2} (ho : OpR X (compareOp op) r) (ho' : OpR X (compareOp op') r') (ha : PE X a ta) (hb : PE X b tb) (hc : PE X c tc)
    (hm : lastMarks [op, op'] [b, c] = false := by with_unfolding_all rfl) : PT X (.Compare a [op, op'] [b, c] pos) (zTest (zChain r r' ta tb tc)) := by
  rw [zTest_eq, zChain_eq]
  exact pt_chain ho ho' ha hb hc hm
theorem ptz_truth (ha : PE X a ta) (he : ∀ whole, isTrue a X.env whole = (do let v ← whole; standAt a.pos; holding [v] (truthy v))) : PT X a (zTru X.K ta) := by
  rw [zTru_eq]
  exact pt_truth ha he
theorem pez_and (ha : PE X a ta) (hb : PE X (.BoolOp .And (b :: rest) pos) tb) : PE X (.BoolOp .And (a :: b :: rest) pos) (zAndV ta tb) := by
  rw [zAndV_eq]
  exact pe_and ha hb
theorem pez_or (ha : PE X a ta) (hb : PE X (.BoolOp .Or (b :: rest) pos) tb) : PE X (.BoolOp .Or (a :: b :: rest) pos) (zOrV ta tb) := by
  rw [zOrV_eq]
  exact pe_or ha hb
theorem pez_not (ha : PE X a ta) : PE X (.UnaryOp .Not a pos) (zNotV ta) := by
  rw [zNotV_eq]
  exact pe_not ha
theorem pez_neg (ha : PE X a ta) : PE X (.UnaryOp .USub a pos) (zNeg ta) := by
  have e : zNeg ta = tUn (rU fun i => .int (-i)) ta := by
    funext σ H Q
    refine congrArg (ta σ H) (funext fun x => funext fun H1 => propext ⟨fun h => ?_, fun ⟨i, ei, h⟩ => by cases ei; exact h⟩)
    cases x with
    | int i => exact ⟨i, rfl, h⟩
    | _ => exact h.elim
  rw [e]
  exact pe_un un_neg ha
theorem pe_isi {kd : Kd} {fx cx : Str} (he : PE X e te) (hg : Gl X fx) (hm : X.mg fx = none) (hv : bootBuiltins fx = some (.builtin "isinstance"))
    (hc : Gl X cx) (hcm : X.mg cx = none) (hcv : bootBuiltins cx = some (.type kd.nm)) (h1 : fx ≠ "__name__" := by decide) (h2 : (fx == ("__debug__" : Str)) = false := by decide)
    (h3 : cx ≠ "__name__" := by decide) (h4 : (cx == ("__debug__" : Str)) = false := by decide)
    (h5 : starEach [e, .Name cx p2] X.env = (false, eval e X.env) :: starEach [.Name cx p2] X.env := by rfl) (h6 : (backTo pos (starEach [.Name cx p2] X.env)).any (·.1) = false := by rfl)
    (h7 : starEach [.Name cx p2] X.env = (false, eval (.Name cx p2) X.env) :: starEach [] X.env := by rfl) :
    PE X (.Call (.Name fx p1) [e, .Name cx p2] [] pos) (zIsiT X.K kd te) :=
  PE.to (pe_callB call_isiZ hg hm hv (pa_cons he (pa_cons (pe_bltn (v := .ty kd.nm) hc hcm hcv rfl h3 h4) pa_nil h7) h5) h1 h2 h5 h6) fun σ H Q h => by
    have e1 : (fun x H1 => zIsiV X.K kd x H1 Q) = fun x H1 => zIsi X.K [x, .ty kd.nm] H1 Q := by
      funext x H1
      refine propext ⟨zIsiV_to, fun h => ?_⟩
      cases x with
      | non => exact h.2
      | bl b =>
        have e : (kd.nm == "bool" || kd.nm == "int") = kd.isB := by cases kd <;> decide +kernel
        have q := h.2
        rw [e] at q
        exact q
      | int i =>
        have e : (kd.nm == "int") = kd.isI := by cases kd <;> decide +kernel
        have q := h.2
        rw [e] at q
        exact q
      | str i =>
        have e : (kd.nm == "str") = kd.isS := by cases kd <;> decide +kernel
        have q := h.2
        rw [e] at q
        exact q
      | ref i =>
        obtain ⟨_, t, ty, q⟩ := h
        rcases ty with ⟨rfl, z⟩ | ⟨rfl, z⟩ | ⟨rfl, z⟩
        · refine ⟨.list, z, ?_⟩
          rw [← nm_eq]
          exact q
        · refine ⟨.tuple, z, ?_⟩
          rw [← nm_eq]
          exact q
        · refine ⟨.dict, z, ?_⟩
          rw [← nm_eq]
          exact q
      | byt _ => exact h.elim
      | flt _ => exact h.elim
      | ty _ => exact h.elim
    show te σ H fun x H1 => zIsi X.K [x, .ty kd.nm] H1 Q
    rw [← e1]
    exact h
theorem pe_cint {i : Int} (hg : Gl X x) (h : ∃ t, X.mg x = some (.int i t)) (hd : (x == ("__debug__" : Str)) = false := by decide) : PE X (.Name x pos) (tC (.int i)) := by
  obtain ⟨t, h⟩ := h
  exact pe_glob hg h ⟨t, rfl⟩ hd
theorem pe_cstr {z : Str} (hg : Gl X x) (h : ∃ t, X.mg x = some (.str z t)) (hd : (x == ("__debug__" : Str)) = false := by decide) : PE X (.Name x pos) (tC (.str z)) := by
  obtain ⟨t, h⟩ := h
  exact pe_glob hg h ⟨t, rfl⟩ hd
theorem call_lenZ : CallR X (.builtin "len") (zLen X.K) := by
  intro pins s σ H xs us Q I r h
  unfold zLen at h
  split at h
  · exact call_len_str pins s σ H _ us Q I r ⟨_, rfl, h.1, h.2⟩
  · obtain ⟨ys, hq, q⟩ := h
    exact call_len_seq pins s σ H _ us Q I r ⟨_, ys, rfl, hq, q⟩
  · exact h.elim
theorem call_absZ : CallR X (.builtin "abs") rAbs := by
  intro pins s σ H xs us Q I r h
  unfold rAbs at h
  split at h
  · exact call_abs pins s σ H _ us Q I r ⟨_, rfl, h⟩
  · exact h.elim
theorem call_mx2 (hc : X.calm = true) : CallR X (.builtin "max") rMx2 := by
  intro pins s σ H xs us Q I r h
  unfold rMx2 at h
  split at h
  · exact call_max2 hc pins s σ H _ us Q I r ⟨_, _, rfl, h⟩
  · exact h.elim
theorem call_mn2 (hc : X.calm = true) : CallR X (.builtin "min") rMn2 := by
  intro pins s σ H xs us Q I r h
  unfold rMn2 at h
  split at h
  · exact call_min2 hc pins s σ H _ us Q I r ⟨_, _, rfl, h⟩
  · exact h.elim
theorem call_intZ : CallR X (.type "int") rInt1 := by
  intro pins s σ H xs us Q I r h
  unfold rInt1 at h
  split at h
  · exact call_int1 pins s σ H _ us Q I r (.inl ⟨_, rfl, h⟩)
  · exact call_int1 pins s σ H _ us Q I r (.inr ⟨_, rfl, h⟩)
  · exact h.elim
theorem call_listZ : CallR X (.type "list") (rListOf X.K) := by
  intro pins s σ H xs us Q I r h
  unfold rListOf at h
  split at h
  · obtain ⟨ys, hq, q⟩ := h
    exact call_list_of pins s σ H _ us Q I r ⟨_, ys, rfl, hq, q⟩
  · exact h.elim
end
end Z
namespace Z
open PySem PySem.Spec PyProof.Rows L2

/-! ### heaps -/
theorem Same.put {H : Hp} {p : Addr} {o : HO} (n : H p = none) : Same H (upd H p o) := fun b u e => by
  rw [upd_ne (ne_of_none e n)]
  exact e
/-- all stands but what is at p -/
def But (p : Addr) (H H' : Hp) : Prop := ∀ b o, H b = some o → b ≠ p → H' b = some o
theorem But.refl (p : Addr) (H : Hp) : But p H H := fun _ _ e _ => e
theorem But.same {p : Addr} {H H' : Hp} (s : Same H H') : But p H H' := fun b o e _ => s b o e
theorem But.trans {p : Addr} {H H1 H2 : Hp} (a : But p H H1) (b : But p H1 H2) : But p H H2 := fun c o e n => b c o (a c o e n) n
theorem But.put {p : Addr} {H : Hp} {o : HO} : But p H (upd H p o) := fun b u e n => by
  rw [upd_ne n]
  exact e
/-- behind a change of p alone, p being new since H0 -/
theorem But.old {p : Addr} {H0 H H' : Hp} (b : But p H H') (s : Same H0 H) (n : H0 p = none) : Same H0 H' := fun c o e => b c o (s c o e) (ne_of_none e n)

/-! ### tests -/
theorem zite {b : Bool} {A B : Prop} (h1 : b = true → A) (h2 : b = false → B) : if b = true then A else B := by
  cases b
  · exact h2 rfl
  · exact h1 rfl

/-! ### loops and comprehensions, what is walked once reckoned -/
def forGo (J : It) (g : TG) (tb : TS) (D : Ends) (σ : St) (H1 : Hp) : Prop := ∃ W : Nat → Nat → St → Hp → Prop, (∃ m, W 0 m σ H1) ∧ ∀ i m σ H, W i m σ H →
  (J.stop i H ∧ D.nx σ H) ∨ (J.go i H ∧ ∃ N : St → Hp → Prop, (∀ σ' H', N σ' H' → ∃ m', m' < m ∧ W (i + 1) m' σ' H') ∧
    ∀ x H', J.yld i H x H' → g x σ H' fun σ2 H2 => tb { D with nx := N, ct := N, bk := D.nx } σ2 H2)
def zFor (wi : TI) (g : TG) (tb : TS) : TS := fun D σ H => wi σ H fun J H1 => forGo J g tb D σ H1
def lcGo (J : It) (g : TG) (tt : TT) (te : TE) (vs : List Nat) (σ : St) (H1 : Hp) (Q : VK) : Prop := ∀ D, H1 D = none →
  ∃ W : Nat → Nat → Hp → Prop, (∃ m, W 0 m (upd H1 D (.lst []))) ∧ ∀ i m H, W i m H →
    (J.stop i H ∧ Q (.ref D) H) ∨ (J.go i H ∧ ∃ Nx : Hp → Prop, (∀ H', Nx H' → ∃ m', m' < m ∧ W (i + 1) m' H') ∧
      ∀ x H', J.yld i H x H' → g x (wipe σ vs) H' fun σ2 H2 => wipe σ2 vs = wipe σ vs ∧ tt σ2 H2 fun b H3 =>
        if b = true then te σ2 H3 fun y H4 => ∃ acc, H4 D = some (.lst acc) ∧ acc.length < sizeLine ∧ Nx (upd H4 D (.lst (acc ++ [y]))) else Nx H3)
def zLc (wi : TI) (g : TG) (tt : TT) (te : TE) (vs : List Nat) : TE := fun σ H Q => wi σ H fun J H1 => lcGo J g tt te vs σ H1 Q
section
variable {X : Cx}
theorem psz_for {tg iter : Expr} {body : List Stmt} {wi : TI} {g : TG} {tb : TS} {pos : Pos} (hp : PassesOwn (model X.prog X.w) X.A X.env X.xe) (hc : X.calm = true) (hi : PI X tg iter wi) (hg : PG X tg g)
    (hb : PSs X body tb) (hs : ∀ x, foldedSetIterable iter X.env x = pure x := by intro _; rfl) : PS X (.For tg iter body [] pos) (zFor wi g tb) :=
  ps_for hp hc hi hg hb hs
theorem pez_lc {elt tg iter : Expr} {ifs : List Expr} {scope : Scope} {own : List (Str × Nat)} {pos : Pos} {wi : TI} {g : TG} {tt : TT} {te : TE} (hc : X.calm = true) (hN : X.N.Nodup) (hi : PI X tg iter wi)
    (ok : BlkOk X.N X.env.scope scope own)
    (hg : ∀ (s : Shared) (H : Hp) (C : Addr) (cl : List (Str × Addr)) (fp : List Addr), PG (X.blk s H scope (compEnvC scope cl C X.env) fp) tg g)
    (ht : ∀ (s : Shared) (H : Hp) (C : Addr) (cl : List (Str × Addr)) (fp : List Addr), PTs (X.blk s H scope (compEnvC scope cl C X.env) fp) ifs tt)
    (he : ∀ (s : Shared) (H : Hp) (C : Addr) (cl : List (Str × Addr)) (fp : List Addr), PE (X.blk s H scope (compEnvC scope cl C X.env) fp) elt te)
    (hs : ∀ x, foldedSetIterable iter X.env x = pure x := by intro _; rfl) :
    PE X (.ListComp elt [⟨tg, iter, ifs, 0⟩] scope pos) (zLc wi g tt te (own.map (·.2))) := pe_lc hc hN hi ok hg ht he hs
theorem psz_setLc {i : Nat} {y : Str} {py : Pos} {elt tg iter : Expr} {ifs : List Expr} {scope : Scope} {own : List (Str × Nat)} {pos spos : Pos} {wi : TI} {g : TG} {tt : TT} {te : TE}
    (hc : X.calm = true) (hN : X.N.Nodup) (hy : X.N[i]? = some y) (hyl : X.env.scope.names.lookup y = some .local)
    (hsw : swapsWith (.ListComp elt [⟨tg, iter, ifs, 0⟩] scope pos) (some (.Name y py)) spos.line X.env = pure true) (hi : PI X tg iter wi) (ok : BlkOk X.N X.env.scope scope own)
    (hg : ∀ (s : Shared) (H : Hp) (C : Addr) (cl : List (Str × Addr)) (fp : List Addr), PG (X.blk s H scope (compEnvC scope cl C X.env) fp) tg g)
    (ht : ∀ (s : Shared) (H : Hp) (C : Addr) (cl : List (Str × Addr)) (fp : List Addr), PTs (X.blk s H scope (compEnvC scope cl C X.env) fp) ifs tt)
    (he : ∀ (s : Shared) (H : Hp) (C : Addr) (cl : List (Str × Addr)) (fp : List Addr), PE (X.blk s H scope (compEnvC scope cl C X.env) fp) elt te)
    (hs : ∀ x, foldedSetIterable iter X.env x = pure x := by intro _; rfl) :
    PS X (.Assign [.Name y py] (.ListComp elt [⟨tg, iter, ifs, 0⟩] scope pos) spos) (tAsg (zLc wi g tt te (own.map (·.2))) (gName i)) :=
  ps_setLc hc hN hy hyl hsw hi ok hg ht he hs
end
section
variable {J : It} {n : Nat} {G : Hp → Prop} {Y : Nat → Hp → V → Hp → Prop}
/-- a for by its invariant -/
theorem for_z (w : Walk J n G Y) {g : TG} {tb : TS} {D : Ends} {σ : St} {H : Hp} (Pv : Nat → St → Hp → Prop) (h0 : Pv 0 σ H) (hG : ∀ i σ H, i ≤ n → Pv i σ H → G H)
    (hs : ∀ i x σ H H', i < n → Pv i σ H → Y i H x H' → g x σ H' fun σ2 H2 => tb { D with nx := Pv (i + 1), ct := Pv (i + 1), bk := D.nx } σ2 H2) (hd : ∀ σ H, Pv n σ H → D.nx σ H) :
    forGo J g tb D σ H := for_it w Pv h0 hG hs hd
/-- a comprehension by an invariant of the heap -/
theorem lc_z (w : Walk J n G Y) {g : TG} {tt : TT} {te : TE} {vs : List Nat} {σ : St} {H1 : Hp} {Q : VK} (Pv : Addr → Nat → Hp → Prop) (h0 : ∀ D, H1 D = none → Pv D 0 (upd H1 D (.lst [])))
    (hG : ∀ D i H, H1 D = none → i ≤ n → Pv D i H → G H)
    (hs : ∀ D i x H H', H1 D = none → i < n → Pv D i H → Y i H x H' → g x (wipe σ vs) H' fun σ2 H2 => wipe σ2 vs = wipe σ vs ∧ tt σ2 H2 fun b H3 =>
      if b = true then te σ2 H3 fun y H4 => ∃ acc, H4 D = some (.lst acc) ∧ acc.length < sizeLine ∧ Pv D (i + 1) (upd H4 D (.lst (acc ++ [y]))) else Pv D (i + 1) H3)
    (hd : ∀ D H, H1 D = none → Pv D n H → Q (.ref D) H) : lcGo J g tt te vs σ H1 Q :=
  fun D hD => lc_it w (Qd := fun H => Q (.ref D) H) (Pv D) (h0 D hD) (fun i H => hG D i H hD) (fun i x H H' => hs D i x H H' hD) fun H => hd D H hD
/-- a comprehension whose elements change nothing -/
theorem lc_map (w : Walk J n G Y) {g : TG} {tt : TT} {te : TE} {vs : List Nat} {σ : St} {H1 : Hp} {Q : VK} (f : Nat → V) (hn : n ≤ sizeLine) (hG : ∀ H', Same H1 H' → G H')
    (hs : ∀ i x H H', i < n → Same H1 H → Y i H x H' → H' = H ∧ ∃ σ2, (∀ R : St → Hp → Prop, R σ2 H → g x (wipe σ vs) H R) ∧ wipe σ2 vs = wipe σ vs ∧
      (∀ R : Bool → Hp → Prop, R true H → tt σ2 H R) ∧ (∀ R : VK, R (f i) H → te σ2 H R))
    (hd : ∀ D, H1 D = none → Q (.ref D) (upd H1 D (.lst ((List.range n).map f)))) : lcGo J g tt te vs σ H1 Q := by
  refine lc_z w (fun D i H => H = upd H1 D (.lst ((List.range i).map f))) (fun D hD => rfl) (fun D i H hD _ e => ?_) (fun D i x H H' hD hi e y => ?_) (fun D H hD e => ?_)
  · subst e
    exact hG _ (Same.put hD)
  · subst e
    obtain ⟨e2, σ2, h1, h2, h3, h4⟩ := hs i x _ H' hi (Same.put hD) y
    subst e2
    refine h1 _ ⟨h2, h3 _ ?_⟩
    show te σ2 _ _
    refine h4 _ ⟨_, upd_same, by simp; omega, ?_⟩
    rw [upd_upd, List.range_succ, List.map_append]
    rfl
  · subst e
    exact hd D hD
end
end Z
namespace Z
open PySem PySem.Spec PyProof.Rows L2

/-! ### the law's end, for defs of this layer -/
theorem law_callZ {P : Program} {w : World} {K : PySem.W.Frag} {mg mb : Str → Option Value} {k : Nat} {fa a : Addr} {fd : FuncData} {x : Str} {sp : Sp} {s₁ : Shared} {vs : List Value} {ns : List Int}
    (KX : K.In s₁.heap) (hns : s₁.heap.Ns mainGlobals mg) (hb : s₁.heap.Ns builtinsNs mb) (hbb : ∀ x : Str, x ≠ "__name__" → mb x = bootBuiltins x) (hlim : s₁.heap.NoLimit) (hg : s₁.gens = #[])
    (ha : s₁.heap.get? a = some { cls := .type "list", data := .seq vs.toArray }) (hi : IntsAre vs ns) (hl : ns.length ≤ sizeLine) (hr : Room k callerA)
    (F : ∀ base : Heap, K.In base → base.Ns mainGlobals mg → FnZ P w K mg base k fa fd [x] sp) (hbind : ∀ (s : Shared) (u : Value), BindsTo s fd ⟨[u], []⟩ [(x, u)])
    (hsp : ∀ H : Hp, Only H → SqL K H a (ns.map V.int) → sp [.ref a] H (fun v _ => v = .bl true) fun _ _ _ => False) :
    codeAny (model P w) callerA (.call (.ref fa) ⟨[.ref a], []⟩) (fun r s' => r = .ok (.ret (.bool true)) ∧ OldK s₁.heap s'.heap ∧ s'.os = s₁.os ∧ AllBare s'.gens) s₁ := by
  have rv := vals_ints hi
  have lenV := hi.length
  have core : ∀ H : Hp, Only H → SqL K H a (ns.map V.int) → HOk P w H s₁.heap → (∀ b, H b ≠ none → b = a) → (H a ≠ none → K.lookup a = none) →
      codeAny (model P w) callerA (.call (.ref fa) ⟨[.ref a], []⟩) (fun r s' => r = .ok (.ret (.bool true)) ∧ OldK s₁.heap s'.heap ∧ s'.os = s₁.os ∧ AllBare s'.gens) s₁ := by
    intro H hO hS hok hA hK
    have base_of : ∀ {b : Addr} {o : Obj}, s₁.heap.get? b = some o → H b = none → (hidT s₁.heap H).get? b = some o := fun e n => hidT_get e n
    have noA : ∀ {b : Addr} {o : Obj} {es : Array DictEntry} {ep : Nat}, s₁.heap.get? b = some o → o.data = .dict es ep → H b = none := fun {b o es ep} e d => by
      cases q : H b with
      | none => rfl
      | some u =>
        have e' : b = a := hA b (by rw [q]; simp)
        subst e'
        rw [ha] at e; cases e
        have d' : Data.seq vs.toArray _ = Data.dict es ep := d
        cases d'
    have nsK : ∀ {b : Addr} {m : Str → Option Value}, s₁.heap.Ns b m → (hidT s₁.heap H).Ns b m := fun {b m} ⟨o, es, ep, e, d, r⟩ => ⟨o, es, ep, base_of e (noA e d), d, r⟩
    have hKb : K.In (hidT s₁.heap H) := fun b o e => base_of (KX b o e) (by
      cases q : H b with
      | none => rfl
      | some u =>
        have e' : b = a := hA b (by rw [q]; simp)
        subst e'
        rw [hK (by rw [q]; simp)] at e; cases e)
    have hM : Mod K mg (hidT s₁.heap H) := ⟨hKb, nsK hns, ⟨mb, nsK hb, hbb⟩, let ⟨mc, h1, h2⟩ := hlim; ⟨mc, nsK h1, h2⟩⟩
    have e0 : Env0 P w K mg (hidT s₁.heap H) callerA [] s₁ H := ⟨rfl, hM, fun b o e => of_hidT e, Nat.le_of_eq (hidT_size _ _), trivial, fun b hb => absurd (show b ∈ ([] : List Addr) from hb) (by simp), hok, .of_eq hg⟩
    refine codeAny_mono ((F _ hKb (nsK hns)).run callerA [] s₁ H ⟨[.ref a], []⟩ [.ref a] [.ref a] _ _ hr (fun _ => rfl) e0 (hbind s₁ (.ref a)) (.cons rfl .nil) (hsp H hO hS)) fun r s' h => ?_
    cases r with
    | error e =>
      obtain ⟨_, _, _, _, _, _, _, _, _, _, _, _, z⟩ := h
      exact False.elim z
    | ok fl =>
      cases fl with
      | next => exact False.elim h
      | brk => exact False.elim h
      | cont => exact False.elim h
      | ret u =>
        obtain ⟨v, H', os, bare, un, hok', r', q⟩ := h
        have q' : v = .bl true := q
        subst q'
        obtain rfl : u = Value.bool true := r'
        refine ⟨rfl, OldK.of_keep fun b o e => ?_, os, bare⟩
        cases q : H b with
        | none => exact un.keep b o e q (by intro z; exact absurd (show b ∈ ([] : List Addr) from z) (by simp)) (by simp)
        | some u =>
          rcases hO b with z | ⟨ob, xs, z⟩
          · rw [q] at z; cases z
          · have z2 := un.frzs b ob _ z
            obtain ⟨e1, _⟩ := hok b _ z
            obtain ⟨e2, _⟩ := hok' b _ z2
            rw [e] at e1; cases e1
            exact e2
  cases hk : K.lookup a with
  | some o =>
    have e := KX a o hk
    rw [ha] at e
    cases e
    refine core (fun _ => none) (fun _ => .inl rfl) (.inr ⟨_, vs.toArray, _, hk, rfl, rfl, rfl, by rw [List.size_toArray, lenV]; exact hl, by simpa using rv⟩) (fun b u z => by have z' : (none : Option HO) = some u := z; cases z') (fun b z => absurd rfl z) fun z => absurd rfl z
  | none =>
    refine core (fun b => if b = a then some (.frz { cls := .type "list", data := .seq vs.toArray } (.lst (ns.map V.int))) else none) (fun b => ?_) (.inl (.inr ⟨{ cls := .type "list", data := .seq vs.toArray }, if_pos rfl⟩)) (fun b u z => ?_) (fun b z => ?_) fun _ => hk
    · by_cases hb : b = a
      · exact .inr ⟨_, _, if_pos hb⟩
      · exact .inl (if_neg hb)
    · by_cases hb : b = a
      · have z' := (if_pos hb).symm.trans z
        cases z'
        subst hb
        exact ⟨ha, by rw [List.length_map]; exact hl, vs, _, rv, ha⟩
      · have z' := (if_neg hb).symm.trans z
        cases z'
    · by_cases hb : b = a
      · exact hb
      · exact absurd (if_neg hb) z
theorem walk_ofZ {l : PySem.W.OpenLaw} {n k : Nat} {q : Program} {loose : List Str} {XP : (Str → Option Value) → Heap → Prop} {YP : World → Heap → Prop} {d : DefRec} {K : Params → PySem.W.Frag} {sp : PySem.W.Frag → Sp} {x : Str}
    (hn : l.most = some n) (hn2 : n ≤ sizeLine) (hdf : d.params.defaults = []) (hr : Room k callerA)
    (hY : ∀ (w : World) (h : Heap), YP w h → (K w.params).In h)
    (F : ∀ (w : World) (mg : Str → Option Value) (fa : Addr) (h : Heap), (K w.params).In h → h.Ns mainGlobals mg → mg d.name = some (.ref fa) →
      ∃ fd : FuncData, (∀ (s : Shared) (u : Value), BindsTo s fd ⟨[u], []⟩ [(x, u)]) ∧
        ∀ base : Heap, (K w.params).In base → base.Ns mainGlobals mg → FnZ l.prog w (K w.params) mg base k fa fd [x] (sp (K w.params)))
    (hsp : ∀ (K : PySem.W.Frag) (H : Hp) (a : Addr) (ns : List Int), ns.length ≤ n → Only H → SqL K H a (ns.map V.int) → sp K [.ref a] H (fun v _ => v = .bl true) fun _ _ _ => False) :
    PySem.W.WalkO q loose XP YP l.row.toRowW d [] (fun f vs => PySem.call f vs) := by
  refine Att.attach_call hn hdf fun w s₀ s₁ mg mb fa o pm cd doc a vs ns G Y ho hd hcd hmg hobj hints hlen hg => ?_
  have KX := hY w _ Y
  obtain ⟨fd, hb, hF⟩ := F w mg fa _ KX G.T.g hmg
  exact law_callZ KX G.T.g G.T.b G.T.builtins G.T.nolimit hg hobj hints (Nat.le_trans hlen hn2) hr hF hb (fun H hO hS => hsp (K w.params) H a ns hlen hO hS)
/-- the promise of a law: whatever the script, True -/
def spLaw (K : PySem.W.Frag) : Sp := fun vs H Q E => ∃ (a : Addr) (ns : List Int), vs = [.ref a] ∧ SqL K H a (ns.map V.int) ∧ ns.length ≤ 63 ∧ ∀ H', Q (.bl true) H'
theorem law_walk {l : PySem.W.OpenLaw} {k : Nat} {q : Program} {loose : List Str} {XP : (Str → Option Value) → Heap → Prop} {YP : World → Heap → Prop} {d : DefRec} {K : Params → PySem.W.Frag} (hn : l.most = some 63) (hdf : d.params.defaults = []) (hr : Room k callerA)
    (hY : ∀ (w : World) (h : Heap), YP w h → (K w.params).In h)
    (F : ∀ (w : World) (mg : Str → Option Value) (fa : Addr) (h : Heap), (K w.params).In h → h.Ns mainGlobals mg → mg d.name = some (.ref fa) →
      ∃ fd : FuncData, (∀ (s : Shared) (u : Value), BindsTo s fd ⟨[u], []⟩ [("script", u)]) ∧
        ∀ base : Heap, (K w.params).In base → base.Ns mainGlobals mg → FnZ l.prog w (K w.params) mg base k fa fd ["script"] (spLaw (K w.params))) :
    PySem.W.WalkO q loose XP YP l.row.toRowW d [] (fun f vs => PySem.call f vs) :=
  walk_ofZ (n := 63) (k := k) (x := "script") (sp := spLaw) hn (by decide) hdf hr hY F fun _ _ a ns hl _ hS => ⟨a, ns, rfl, hS, hl, fun _ => rfl⟩
/-- «except C» names an error of the class at C itself -/
theorem exm_own {K : PySem.W.Frag} {C : Addr} (b : PySem.W.subIn K (.ref C) (.type "BaseException") = some true) (c : PySem.W.isClsIn K C = true) (t : PySem.W.typeIn K (.ref C) = some (.type "type")) (u : PySem.W.subIn K (.ref C) (.ref C) = some true) :
    PySem.W.exmOne K (.ref C) (.ref C) = some true := by
  have c' : (PySem.W.clsIn K C).isSome = true := c
  simp [PySem.W.exmOne, PySem.W.kitCls, b, c', t, u]
end Z
namespace Z
open PySem PySem.Spec PyProof.Rows L2

/-! ### enumerate(tuple) -/
theorem enum1_meets {v : Value} {o : Obj} {G : Heap → Prop} (B : Begins v o G) :
    Meets (Builtin.«enumerate.__new__» ⟨[.type "enumerate", v], []⟩) (fun _ R s => G s.heap ∧
      R (.ok (.ret (.ref (s.heap.push o).objs.size))) { s with heap := (s.heap.push o).push { cls := .type "enumerate", data := .fields #[.none, .bool false, .ref s.heap.objs.size, rawInt 0, .none, .none] } }) :=
  .of_wp fun prog w A R s hh => by
    obtain ⟨hp, g, d, tk, os⟩ := s
    obtain ⟨hG, hR⟩ := hh
    have hsub := sub_enumerate
    have it1 : ∀ {A' : Around} {E : Value → Shared → Prop} {Q : Value → Shared → Prop}, Q (.ref hp.objs.size) ⟨hp.push o, g, d, tk, os⟩ → wpAny (model prog w) A' (pyIter v) Q E ⟨hp, g, d, tk, os⟩ :=
      fun q => B.iter prog w _ _ _ _ hG q
    wp_walk using it1
    refine wpAny_stack_any fun _ => wpAny_pure ?_
    split
    · rename_i c _ _ _ _ _
      cases (c == Value.type "enumerate") <;>
      · wp_walk using it1
        exact ⟨_, rfl, hR⟩
    · wp_walk using it1
      exact ⟨_, rfl, hR⟩
theorem enum1_call {prog : Program} {w : World} {A : Around} {E : Value → Shared → Prop} {s : Shared} {v : Value} {o : Obj} {G : Heap → Prop} {Q : Value → Shared → Prop} (B : Begins v o G) (hG : G s.heap)
    (k : ∀ h', IsEnum h' (s.heap.objs.size + 1) s.heap.objs.size 0 .none → h'.get? s.heap.objs.size = some o → (∀ b u, s.heap.get? b = some u → h'.get? b = some u) → Q (.ref (s.heap.objs.size + 1)) { s with heap := h' }) :
    wpAny (model prog w) A (call (.type "enumerate") [v]) Q E s := by
  have z1 : (s.heap.push o).objs.size = s.heap.objs.size + 1 := Heap.size_push ..
  have e1 : IsEnum ((s.heap.push o).push { cls := .type "enumerate", data := .fields #[.none, .bool false, .ref s.heap.objs.size, rawInt 0, .none, .none] }) (s.heap.objs.size + 1) s.heap.objs.size 0 .none := by
    rw [← z1]
    exact Heap.get?_push_size _ rfl
  refine callType_new F.called_enumerate (by decide) (F.typeCall_enumerate_1 _) (F.newCall_enumerate_1 _) (fun obj => F.args_object_init_2 obj _) F.entry_enumerate_new (enum1_meets B) ⟨hG, ?_⟩
  show _ ∧ _
  rw [z1]
  exact ⟨⟨_, e1, rfl⟩, k _ e1 (Heap.get?_push_of_some _ (Heap.get?_push_size _ B.free)) fun b u x => Heap.get?_push_of_some _ (Heap.get?_push_of_some _ x)⟩
/-- the tuple at a, each item with its index in a new pair -/
def ZeT (K : PySem.W.Frag) (a : Addr) : It where
  go := fun i H => ∃ (xs : List V) (x : V), SqT K H a xs ∧ xs[i]? = some x
  yld := fun i H v H' => ∃ T x, v = .ref T ∧ H T = none ∧ H' = upd H T (.tup [.int (i : Nat), x]) ∧ ∀ xs, SqT K H a xs → xs[i]? = some x
  stop := fun i H => ∃ xs : List V, SqT K H a xs ∧ xs.length ≤ i
theorem isTup_tuple {h : Heap} {a : Addr} {its : Array Value} (p : IsTup h a its) : h.IsTuple a its := by
  obtain ⟨o, e, c, n, d⟩ := p
  exact ⟨o, e, c, n, d⟩
theorem turn_zeT {P : Program} {w : World} {K : PySem.W.Frag} {elts : List Expr} {kk : Nat} {tpos : Pos} (a e it : Addr) :
    Turn P w K (.Tuple elts kk tpos) (ZeT K a) [e, it] e (fun i h => (∃ old, IsEnum h e it ((i : Nat) : Int) old) ∧ h.IsTupleIter it a i ∧ e ≠ it) where
  mem := by simp
  obj := fun i h st b hb => by
    obtain ⟨⟨old, he⟩, ⟨o, ho, hc, hd⟩, _⟩ := st
    simp only [List.mem_cons, List.not_mem_nil, or_false] at hb
    rcases hb with rfl | rfl
    · exact ⟨_, he, fun v q => nomatch q⟩
    · exact ⟨o, ho, fun v q => by rw [hd] at q; cases q⟩
  keep := fun i h h' st k => by
    obtain ⟨⟨old, he⟩, hi, hne⟩ := st
    exact ⟨⟨old, k e (by simp) _ he⟩, hi.at fun o q => k it (by simp) o q, hne⟩
  item := by
    intro X hP hw hK hc i pins s σ H E I hf st hg
    subst hP hw hK
    obtain ⟨⟨old, he⟩, hit, hne⟩ := st
    obtain ⟨xs, x, hq, hx⟩ := hg
    obtain ⟨its, rv, p, _⟩ := I.tuple hq
    obtain ⟨u, hu, ru⟩ := rv.get hx
    have pt := isTup_tuple p
    have nai : a ≠ it := fun z => by
      obtain ⟨o1, e1, c1, _⟩ := pt
      obtain ⟨o2, e2, c2, _⟩ := hit
      rw [z, e2] at e1
      cases e1
      rw [c2] at c1
      exact absurd c1 (by decide)
    have nea : e ≠ a := fun z => by
      obtain ⟨o1, e1, c1, _⟩ := pt
      have e2 : s.heap.get? e = _ := he
      rw [z, e1] at e2
      obtain rfl := Option.some.inj e2
      exact absurd (show Value.type "enumerate" = Value.type "tuple" from c1) (by decide)
    have lte : e < s.heap.objs.size := Heap.lt_size he
    have lti : it < s.heap.objs.size := by obtain ⟨_, q, _⟩ := hit; exact Heap.lt_size q
    have lts : i < its.toArray.size := by
      have := (List.getElem?_eq_some_iff.mp hu).1
      simpa using this
    refine wpAny_pyNext_enum_itemC (Draws.tuple (A := X.A.in1) (I.ok.hd hc) it a nai its.toArray) he ⟨hit, pt⟩ lts hne (by simp [hne, nea]) fun y h' tk hy ho hst hT hsz hk => ?_
    obtain rfl : y = u := by
      have hy' : its[i]? = some y := by simpa using hy
      rw [hu] at hy'
      exact (Option.some.inj hy').symm
    refine ⟨_, rfl, wpAny_letOwnedTupleGo_enum (s := { s with heap := h', toks := tk + 1 }) ho fun h2 he2 sb => ?_⟩
    have hT2 : h2.get? s.heap.objs.size = some { cls := .type "tuple", data := .seq #[.int i tk, y] } := (sb.2 _ (Nat.ne_of_gt lte)).trans hT
    have new : ObjOk X.prog X.w (upd H s.heap.objs.size (.tup [.int (i : Nat), x])) h2 s.heap.objs.size (.tup [.int (i : Nat), x]) :=
      ⟨show 2 ≤ sizeLine by decide, [.int i tk, y], .cons ⟨_, rfl⟩ (.cons ru .nil), ⟨_, hT2, rfl, _, rfl⟩⟩
    have I1 : Inv X pins σ (upd H s.heap.objs.size (.tup [.int (i : Nat), x])) { s with heap := h2, toks := tk + 1 } :=
      I.turnedNew (ch := [e, it]) (fun b ob hb q => (sb.2 b (fun z => hb (by simp [z]))).trans (hk b ob (fun z => hb (by simp [z])) (fun z => hb (by simp [z])) q)) hf (Nat.le_refl _) new
    refine ⟨.ref s.heap.objs.size, _, I1, rfl, ⟨_, x, rfl, I.hok.fresh (Nat.le_refl _), rfl, fun ys hy2 => by rw [I.tuple_inj hy2 hq]; exact hx⟩, ⟨⟨y, ?_⟩, hst.1.at fun o q => (sb.2 it (Ne.symm hne)).trans q, hne⟩, fun b hb => ?_⟩
    · have e1 : ((i + 1 : Nat) : Int) = (i : Int) + 1 := by omega
      rw [e1]
      exact he2
    · have lt : b < s.heap.objs.size := by
        simp only [List.mem_cons, List.not_mem_nil, or_false] at hb
        rcases hb with rfl | rfl
        · exact lte
        · exact lti
      rw [upd_ne (Nat.ne_of_lt lt)]
      exact (hf b hb).1
  done := by
    intro X hP hw hK hc i pins s σ H E I hf st hg
    subst hP hw hK
    obtain ⟨⟨old, he⟩, hit, hne⟩ := st
    obtain ⟨xs, hq, hx⟩ := hg
    obtain ⟨its, rv, p, _⟩ := I.tuple hq
    have pt := isTup_tuple p
    obtain ⟨f0, f1, f2, f3, f4, f5⟩ := hf it (by simp)
    have hl := rv.length
    have T := I.ok.hd hc
    have fin : ∀ h', Heap.ExtBut it s.heap h' → Inv X pins σ H { s with heap := h' } := fun h' eb => I.turned (t' := s.toks) (fun b o hb q => eb b o hb q) f0 f1 f3 f4 f5
    have D : Draws X.prog X.w X.A.in1 it [it, a] i (fun _ _ => True) (fun k h => k = i ∧ h.IsTupleIter it a i ∧ h.IsTuple a its.toArray) := {
      live := fun _ _ z => let ⟨o, ho, _⟩ := z.2.1; ⟨o, ho⟩
      frame := fun _ _ _ z hk => ⟨z.1, z.2.1.at fun o q => hk it (by simp) o q, z.2.2.at fun o q => hk a (by simp) o q⟩
      item := fun k _ _ _ lt z _ => absurd z.1 (Nat.ne_of_lt lt)
      done := fun s' Q' E' z hE => wpAny_nextOf_tuple_end (A := X.A.in1) T z.2.1 z.2.2 (by simp; omega) hE }
    exact wpAny_pyNext_enum_endD D he ⟨rfl, hit, pt⟩ fun h' eb => ⟨rfl, fin h' eb⟩
  self := fun A i s Q E st h => by
    obtain ⟨⟨_, he⟩, _⟩ := st
    exact wpAny_pyIter_enum he h
/-- enumerate of a list or of a tuple -/
def zEnum (K : PySem.W.Frag) (ta : TA) : TI := fun σ H R => ta σ H fun vs H1 => ∃ a xs, vs = [.ref a] ∧ ((SqL K H1 a xs ∧ R (Ite K a) H1) ∨ (SqT K H1 a xs ∧ R (ZeT K a) H1))
theorem pi_zEnum {X : Cx} {e : Expr} {ta : TA} {p pos tpos : Pos} {elts : List Expr} {kk : Nat} (hg : Gl X "enumerate") (hm : X.mg "enumerate" = none) (ha : PA X [e] ta) (hs : starEach [e] X.env = [(false, eval e X.env)] := by rfl) :
    PI X (.Tuple elts kk tpos) (.Call (.Name "enumerate" p) [e] [] pos) (zEnum X.K ta) := by
  constructor
  intro pins s σ H R I h
  refine Call_ (ld_blt I hg hm boot_enumerate (PyProof.Rows.callWith_type1 (thn (ha.run pos pins s σ H _ I h) ?_) hs rfl))
  rintro us s1 ⟨vs, H1, I1, r1, a, xs, rfl, q⟩
  cases r1 with
  | cons r rr =>
    cases rr
    cases r
    have foot : ∀ b ∈ [s1.heap.objs.size + 1, s1.heap.objs.size], FpOk X pins H1 b := fun b hb => by
      have le : s1.heap.objs.size ≤ b := by
        simp only [List.mem_cons, List.not_mem_nil, or_false] at hb
        omega
      exact I1.fpOk le (I1.hok.fresh le)
    rcases q with ⟨hq, q⟩ | ⟨hq, q⟩
    · obtain ⟨its, rv, p', hz⟩ := I1.list hq
      refine call_enumerate_list p'.isList fun h' he hit hsz hk => wpAny_pyIter_enum he ?_
      exact ⟨s1.heap.objs.size + 1, [s1.heap.objs.size + 1, s1.heap.objs.size], _, _, H1, rfl, I1.kept (t' := s1.toks) hk, turn_enum a (s1.heap.objs.size + 1) s1.heap.objs.size, ⟨⟨.none, he⟩, hit, Nat.succ_ne_self _⟩, foot, q⟩
    · obtain ⟨its, rv, p', hz⟩ := I1.tuple hq
      refine enum1_call (begins_tuple a its.toArray) (isTup_tuple p') fun h' he hit hk => wpAny_pyIter_enum he ?_
      exact ⟨s1.heap.objs.size + 1, [s1.heap.objs.size + 1, s1.heap.objs.size], _, _, H1, rfl, I1.kept (t' := s1.toks) hk, turn_zeT a (s1.heap.objs.size + 1) s1.heap.objs.size, ⟨⟨.none, he⟩, ⟨_, hit, rfl, rfl⟩, Nat.succ_ne_self _⟩, foot, q⟩
theorem walk_zeT {K : PySem.W.Frag} {a : Addr} {xs : List V} : Walk (ZeT K a) xs.length (fun H => SqT K H a xs) (YPair (fun i => some (.int (i : Nat))) (fun i => xs[i]?)) := by
  refine ⟨fun i _ hi q => ⟨xs, xs[i], q, by simp [hi]⟩, fun _ q => ⟨xs, q, Nat.le_refl _⟩, fun i H v H' _ q y => ?_⟩
  obtain ⟨T, x, h1, h2, h3, h4⟩ := y
  exact ⟨T, .int (i : Nat), x, h1, h2, h3, rfl, h4 xs q⟩
end Z
namespace Z
open PySem PySem.Spec PyProof.Rows L2

/-! ### {e for x in xs if t}: a set of keys (texts, ints) -/
def scGo (P : Program) (w : World) (J : It) (g : TG) (tt : TT) (te : TE) (vs : List Nat) (σ : St) (H1 : Hp) (Q : VK) : Prop := ∀ D, H1 D = none →
  ∃ W : Nat → Nat → Hp → Prop, (∃ m, W 0 m (upd H1 D (SetK P w D (fun _ => false) 0))) ∧ ∀ i m H, W i m H →
    (J.stop i H ∧ Q (.ref D) H) ∨ (J.go i H ∧ ∃ Nx : Hp → Prop, (∀ H', Nx H' → ∃ m', m' < m ∧ W (i + 1) m' H') ∧
      ∀ x H', J.yld i H x H' → g x (wipe σ vs) H' fun σ2 H2 => wipe σ2 vs = wipe σ vs ∧ tt σ2 H2 fun b H3 =>
        if b = true then te σ2 H3 fun y H4 => rSAddK P w (.ref D) [y] H4 fun _ H5 => Nx H5 else Nx H3)
def zSc (P : Program) (w : World) (wi : TI) (g : TG) (tt : TT) (te : TE) (vs : List Nat) : TE := fun σ H Q => wi σ H fun J H1 => scGo P w J g tt te vs σ H1 Q
/-- an empty set -/
abbrev set0 (w : World) : Obj := { cls := .type "set", dict := none, data := .set #[] 0 (.fresh 0 0 (!w.params.followText "set-order")) }
theorem set0_key {P : Program} {w : World} {h : Heap} : (h.push (set0 w)).SetOf (mixKind P w) h.objs.size (fun _ => false) 0 := by
  refine ⟨_, #[], 0, _, Heap.get?_push_size _ rfl, ⟨rfl, rfl, rfl⟩, rfl, ?_, ?_, by decide, rfl, rfl⟩
  · intro e he
    simp at he
  · intro k
    simp
section
variable {X : Cx} {elt tg iter : Expr} {ifs : List Expr} {scope : Scope} {own : List (Str × Nat)} {wi : TI} {g : TG} {tt : TT} {te : TE}
/-- where the block runs -/
abbrev blkAt (X : Cx) (s : Shared) (H : Hp) (scope : Scope) (fp : List Addr) : Cx :=
  X.blk s H scope (compEnvC scope (cellsFrom (s.heap.objs.size + 1) scope.names (cloFrom X.env.cells scope.names [])) s.heap.objs.size X.env) fp
abbrev InBlk (X : Cx) (scope : Scope) (e : Expr → Cx → Prop) (a : Expr) : Prop := ∀ (s : Shared) (H : Hp) (C : Addr) (cl : List (Str × Addr)) (fp : List Addr), e a (X.blk s H scope (compEnvC scope cl C X.env) fp)
theorem sc_turns {s3 : Shared} {fp : List Addr} {it D : Addr} {ce : Env} {J : It} {tn : Nat → Heap → Prop} {vs : List Nat} {σ : St} {Q : VK} {pos : Pos} {s4 : Shared} {m0 : Nat} {H3 : Hp} {R : Result → Shared → Prop} {W : Nat → Nat → Hp → Prop}
    (hc : X.calm = true) (T : Turn X.prog X.w X.K tg J fp it tn) (hg : PG (X.blk s3 H3 scope ce fp) tg g) (ht : PTs (X.blk s3 H3 scope ce fp) ifs tt) (he : PE (X.blk s3 H3 scope ce fp) elt te)
    (turn : ∀ i m H, W i m H → (J.stop i H ∧ Q (.ref D) H) ∨ (J.go i H ∧ ∃ Nx : Hp → Prop, (∀ H', Nx H' → ∃ m', m' < m ∧ W (i + 1) m' H') ∧
      ∀ x H', J.yld i H x H' → g x (wipe σ vs) H' fun σ2 H2 => wipe σ2 vs = wipe σ vs ∧ tt σ2 H2 fun b H3 =>
        if b = true then te σ2 H3 fun y H4 => rSAddK X.prog X.w (.ref D) [y] H4 fun _ H5 => Nx H5 else Nx H3))
    (I4 : Inv (X.blk s3 H3 scope ce fp) [] (wipe σ vs) H3 s4) (st4 : tn 0 s4.heap) (nfp : ∀ b ∈ fp, H3 b = none) (w0 : W 0 m0 H3)
    (out : ∀ H5 s6, Inv (X.blk s3 H3 scope ce fp) [] (wipe σ vs) H5 s6 → Q (.ref D) H5 → R (.ok .next) s6) :
    codeAny (model X.prog X.w) X.A (.compLoop (.SetComp elt [⟨tg, iter, ifs, 0⟩] scope pos) 0 (.ref it) (.ref D) ce) R s4 := by
  refine PpSet.compLoopS_any (fun n s' => ∃ i H', Inv (X.blk s3 H3 scope ce fp) [] (wipe σ vs) H' s' ∧ tn i s'.heap ∧ (∀ b ∈ fp, H' b = none) ∧ W i n H') ?_ m0 ⟨0, H3, I4, st4, nfp, w0⟩
  have stat : ∀ {σ' : St} {H' : Hp} {s' : Shared}, Inv (X.blk s3 H3 scope ce fp) [] σ' H' s' → (∀ b ∈ fp, H' b = none) → ∀ b ∈ fp, FpOk (X.blk s3 H3 scope ce fp) [] H' b := by
    intro σ' H' s' I' hn b hb
    obtain ⟨x1, x2⟩ := I'.ok.exf b hb
    refine ⟨hn b hb, x1, I'.ok.exfs b hb, .inl hb, fun x c e => x2 x c e, fun p hp => ?_⟩
    simp at hp
  rintro n s5 ⟨i, H5, I5, st5, n5, w5⟩
  rcases turn i n H5 w5 with ⟨stop, qq⟩ | ⟨go, Nx, hNx, step⟩
  · refine thnF (T.done (X.blk s3 H3 scope ce fp) rfl rfl rfl hc i [] s5 _ H5 (fun _ _ => False) I5 (stat I5 n5) st5 stop) ?_
    rintro r s6 ⟨rfl, I6⟩
    exact out H5 s6 I6 qq
  · refine thnF (T.item (X.blk s3 H3 scope ce fp) rfl rfl rfl hc i [] s5 _ H5 (fun _ _ => False) I5 (stat I5 n5) st5 go) ?_
    rintro r s6 ⟨u, rfl, h6⟩
    refine thnF h6 ?_
    rintro _ s7 ⟨x, H7, I7, r7, y7, st7, n7⟩
    have I7' := I7.pinned (stat I7 n7) (T.obj _ _ st7)
    refine thnF (hg.run _ s7 _ H7 x u _ I7' r7 (step x H7 y7)) ?_
    rintro _ s8 ⟨σ8, H8, I8, hw8, q8⟩
    refine thnF (ht.run _ s8 σ8 H8 _ I8 q8) ?_
    rintro b s9 ⟨H9, I9, q9⟩
    have fin : ∀ {s' : Shared} {H' : Hp}, Inv (X.blk s3 H3 scope ce fp) ([] ++ pinsAt fp s7.heap) σ8 H' s' → Nx H' →
        ∃ m, m < n ∧ ∃ i H', Inv (X.blk s3 H3 scope ce fp) [] (wipe σ vs) H' s' ∧ tn i s'.heap ∧ (∀ b ∈ fp, H' b = none) ∧ W i m H' := by
      intro s' H' I' nx
      obtain ⟨m', hm, w'⟩ := hNx H' nx
      have pin' : ∀ b ∈ fp, ∀ o, s7.heap.get? b = some o → s'.heap.get? b = some o ∧ H' b = none := fun b hb o e => by
        obtain ⟨z1, z2, _⟩ := I'.pin (b, o) (List.mem_append_right _ (List.mem_append_right _ (mem_pinsAt hb e)))
        exact ⟨z1, z2⟩
      have hl : (wipe σ vs).length = σ8.length := by rw [← hw8, wipe_length]
      refine ⟨m', hm, i + 1, H', (I'.unpinned (pins := [])).weak hl ?_, T.keep _ _ _ st7 fun b hb o e => (pin' b hb o e).1, ?_, w'⟩
      · intro j v e
        rw [← hw8] at e
        exact (wipe_some e).1
      · intro b hb
        obtain ⟨o, e, _⟩ := T.obj _ _ st7 b hb
        exact (pin' b hb o e).2
    cases b
    · simp only [Bool.false_eq_true, if_false] at q9 ⊢
      exact fin I9 q9
    · simp only [if_true] at q9 ⊢
      refine thnF (he.run _ s9 σ8 H9 _ I9 q9) ?_
      rintro z s10 ⟨yv, H10, I10, r10, q10⟩
      refine thnF (mt_saddK _ s10 σ8 H10 (.ref D) [yv] (.ref D) [z] _ I10 rfl (.cons r10 .nil) q10) ?_
      rintro _ s11 ⟨_, H11, I11, _, nx⟩
      exact fin I11 nx
theorem sc_run {pins : List (Addr × Obj)} {s : Shared} {σ : St} {H : Hp} {Q : VK} {pos pos' : Pos} {use : Option (Value → Sem Unit)} {Qf : Value → Shared → Prop} (hc : X.calm = true) (hN : X.N.Nodup) (I : Inv X pins σ H s) (hi : PI X tg iter wi) (ok : BlkOk X.N X.env.scope scope own)
    (hg : ∀ (s : Shared) (H : Hp) (C : Addr) (cl : List (Str × Addr)) (fp : List Addr), PG (X.blk s H scope (compEnvC scope cl C X.env) fp) tg g)
    (ht : ∀ (s : Shared) (H : Hp) (C : Addr) (cl : List (Str × Addr)) (fp : List Addr), PTs (X.blk s H scope (compEnvC scope cl C X.env) fp) ifs tt)
    (he : ∀ (s : Shared) (H : Hp) (C : Addr) (cl : List (Str × Addr)) (fp : List Addr), PE (X.blk s H scope (compEnvC scope cl C X.env) fp) elt te)
    (hs : ∀ x, foldedSetIterable iter X.env x = pure x) (h : zSc X.prog X.w wi g tt te (own.map (·.2)) σ H Q)
    (done : ∀ D C s' m H', Inv X pins σ H' s' → Q (.ref D) H' → s'.heap.Ns C m → FpOk X pins H' C → compPost (model X.prog X.w) X.A X.xe use Qf (.ref D) C (.ok .next) s') :
    wpAny (model X.prog X.w) X.A (comprehension (.SetComp elt [⟨tg, iter, ifs, 0⟩] scope pos) scope X.env pos' (newSet (.type "set")) false (eval iter X.env) use) Qf X.xe s := by
  have hfree : ∀ y ∈ scope.names, y.2 = .free → ∃ c, X.env.cells.lookup y.1 = some c := by
    intro y hy e
    rcases ok.free y hy e with k | k
    · exact I.ok.has _ (.inl k)
    · exact I.ok.has _ (.inr k)
  refine wpAny_comprehension_free (use := use) rfl hs (closure_ok hfree) ok.kind (fun y hy e => by rw [ok.uniq y hy, e]) (thn (hi.run pins s σ H _ I h) fun xv s1 hx => thn hx ?_)
  rintro itv s2 ⟨it, fp, tn, J, H2, rfl, I2, T, st2, f2, q⟩
  refine PpSet.newSet_ok (newEnv_comp ?_)
  have hDn : H2 s2.heap.objs.size = none := I2.hok.fresh (Nat.le_refl _)
  obtain ⟨W, ⟨m0, w0⟩, turn⟩ := q _ hDn
  -- the new set is known
  have I3 : Inv X pins σ (upd H2 s2.heap.objs.size (SetK X.prog X.w s2.heap.objs.size (fun _ => false) 0)) { s2 with heap := s2.heap.push (set0 X.w) } :=
    I2.laid (t' := s2.toks) (fun b o e => Heap.get?_push_of_some _ e) (Nat.le_refl _) (setK_new set0_key)
  have f3 : ∀ b ∈ fp, FpOk X pins (upd H2 s2.heap.objs.size (SetK X.prog X.w s2.heap.objs.size (fun _ => false) 0)) b ∧ b < (s2.heap.push (set0 X.w)).objs.size := by
    intro b hb
    obtain ⟨o, e, _⟩ := T.obj _ _ st2 b hb
    have lt := Heap.lt_size e
    refine ⟨⟨?_, (f2 b hb).2⟩, by rw [Heap.size_push]; exact Nat.lt_succ_of_lt lt⟩
    rw [upd_ne (Nat.ne_of_lt lt)]
    exact (f2 b hb).1
  have st3 : tn 0 (s2.heap.push (set0 X.w)) := T.keep _ _ _ st2 fun b _ o e => Heap.get?_push_of_some _ e
  generalize hs3 : ({ s2 with heap := s2.heap.push (set0 X.w) } : Shared) = s3 at I3
  have h3 : s3.heap = s2.heap.push (set0 X.w) := by rw [← hs3]
  rw [← h3] at f3 st3
  generalize hH3 : upd H2 s2.heap.objs.size (SetK X.prog X.w s2.heap.objs.size (fun _ => false) 0) = H3 at I3 f3 w0
  have I4 := block_start I3 ok hN f3
  show codeAny _ _ (.compStart (.SetComp elt [⟨tg, iter, ifs, 0⟩] scope pos) 0 (.ref it) (.ref s2.heap.objs.size) (compEnvC scope (cellsFrom (s3.heap.objs.size + 1) scope.names (cloFrom X.env.cells scope.names [])) s3.heap.objs.size X.env)) (compPost (model X.prog X.w) X.A X.xe use Qf (.ref s2.heap.objs.size) s3.heap.objs.size) { s3 with heap := pushCells (s3.heap.push { cls := .type "dict", data := .dict #[] }) scope.names }
  have st4 : tn 0 (pushCells (s3.heap.push { cls := .type "dict", data := .dict #[] }) scope.names) := T.keep _ _ _ st3 fun b _ o e => pushCells_keeps _ _ _ _ (Heap.get?_push_of_some _ e)
  have nfp : ∀ b ∈ fp, H3 b = none := fun b hb => (f3 b hb).1.1
  have pg := hg s3 H3 s3.heap.objs.size (cellsFrom (s3.heap.objs.size + 1) scope.names (cloFrom X.env.cells scope.names [])) fp
  have pt := ht s3 H3 s3.heap.objs.size (cellsFrom (s3.heap.objs.size + 1) scope.names (cloFrom X.env.cells scope.names [])) fp
  have pe := he s3 H3 s3.heap.objs.size (cellsFrom (s3.heap.objs.size + 1) scope.names (cloFrom X.env.cells scope.names [])) fp
  generalize hce : compEnvC scope (cellsFrom (s3.heap.objs.size + 1) scope.names (cloFrom X.env.cells scope.names [])) s3.heap.objs.size X.env = ce at I4 pg pt pe ⊢
  have cL : ce.locals = s3.heap.objs.size := by
    rw [← hce]
    rfl
  have out : ∀ H5 s6, Inv (X.blk s3 H3 scope ce fp) [] (wipe σ (own.map (·.2))) H5 s6 → Q (.ref s2.heap.objs.size) H5 →
      compPost (model X.prog X.w) X.A X.xe use Qf (.ref s2.heap.objs.size) s3.heap.objs.size (.ok .next) s6 := by
    intro H5 s6 I6 qq
    have I7 : Inv X pins σ H5 s6 := I3.call' (ch := fp) I6.os I6.base I6.hok I6.bare fun b hb => by
      obtain ⟨⟨_, g1, _, g3, g4, g5⟩, _⟩ := f3 b hb
      exact ⟨g3, g1, g4, g5⟩
    have nC : H5 s3.heap.objs.size = none := by
      have z : H5 ce.locals = none := I6.free
      rwa [cL] at z
    obtain ⟨m, hn, _⟩ := I6.loc
    have hn : s6.heap.Ns ce.locals m := hn
    rw [cL] at hn
    exact done _ _ s6 m H5 I7 qq hn (I3.fpOk (Nat.le_refl _) nC)
  have loop := sc_turns (elt := elt) (iter := iter) (pos := pos) hc T pg pt pe turn I4 st4 nfp w0 out
  exact PpSet.codeAny_compStart_set loop (T.self X.A 0 _ _ _ st4 loop)
theorem pez_sc {pos : Pos} (hc : X.calm = true) (hN : X.N.Nodup) (hi : PI X tg iter wi) (ok : BlkOk X.N X.env.scope scope own)
    (hg : ∀ (s : Shared) (H : Hp) (C : Addr) (cl : List (Str × Addr)) (fp : List Addr), PG (X.blk s H scope (compEnvC scope cl C X.env) fp) tg g)
    (ht : ∀ (s : Shared) (H : Hp) (C : Addr) (cl : List (Str × Addr)) (fp : List Addr), PTs (X.blk s H scope (compEnvC scope cl C X.env) fp) ifs tt)
    (he : ∀ (s : Shared) (H : Hp) (C : Addr) (cl : List (Str × Addr)) (fp : List Addr), PE (X.blk s H scope (compEnvC scope cl C X.env) fp) elt te)
    (hs : ∀ x, foldedSetIterable iter X.env x = pure x := by intro _; rfl) :
    PE X (.SetComp elt [⟨tg, iter, ifs, 0⟩] scope pos) (zSc X.prog X.w wi g tt te (own.map (·.2))) := by
  constructor
  intro pins s σ H Q I h
  rw [PpSet.eval_SetComp]
  refine sc_run hc hN I hi ok hg ht he hs h fun D C s' m H' I' q hn f => ⟨m, hn, fun h2 sb => ?_⟩
  obtain ⟨g0, g1, g2, g3, g4, g5⟩ := f
  exact ⟨.ref D, H', I'.turned (t' := s'.toks) (fun b o hb e => (sb.2 b hb).trans e) g0 g1 g3 g4 g5, rfl, q⟩
/-- name = {..} on one line -/
theorem psz_setSc {i : Nat} {y : Str} {py pos spos : Pos} (hc : X.calm = true) (hN : X.N.Nodup) (hy : X.N[i]? = some y) (hyl : X.env.scope.names.lookup y = some .local)
    (hsw : swapsWith (.SetComp elt [⟨tg, iter, ifs, 0⟩] scope pos) (some (.Name y py)) spos.line X.env = pure true) (hi : PI X tg iter wi) (ok : BlkOk X.N X.env.scope scope own)
    (hg : ∀ (s : Shared) (H : Hp) (C : Addr) (cl : List (Str × Addr)) (fp : List Addr), PG (X.blk s H scope (compEnvC scope cl C X.env) fp) tg g)
    (ht : ∀ (s : Shared) (H : Hp) (C : Addr) (cl : List (Str × Addr)) (fp : List Addr), PTs (X.blk s H scope (compEnvC scope cl C X.env) fp) ifs tt)
    (he : ∀ (s : Shared) (H : Hp) (C : Addr) (cl : List (Str × Addr)) (fp : List Addr), PE (X.blk s H scope (compEnvC scope cl C X.env) fp) elt te)
    (hs : ∀ x, foldedSetIterable iter X.env x = pure x := by intro _; rfl) :
    PS X (.Assign [.Name y py] (.SetComp elt [⟨tg, iter, ifs, 0⟩] scope pos) spos) (tAsg (zSc X.prog X.w wi g tt te (own.map (·.2))) (gName i)) := by
  constructor
  intro pins s σ H D I h
  rw [exec_Assign_Name_used _ _ _ _ hsw]
  refine wpAny_bind (wpAny_standAt (wpAny_bind ?_))
  have h : zSc X.prog X.w wi g tt te (own.map (·.2)) σ H (fun x H1 => gName i x σ H1 D.nx) := h
  show wpAny _ X.A (do let _ ← comprehension (.SetComp elt [⟨tg, iter, ifs, 0⟩] scope pos) scope X.env (firstIterPos [⟨tg, iter, ifs, 0⟩] pos) (newSet (.type "set")) false (eval iter X.env) (some (assign (.Name y py) X.env))) _ _ s
  refine wpAny_bind (thn (sc_run (Qf := fun _ s' => SP X pins D .next s') hc hN I hi ok hg ht he hs h ?_) fun _ s' hq => wpAny_pure (wpAny_pure hq))
  intro L C s' m H' I' q hn f
  show wpAny _ _ (assign (.Name y py) X.env (.ref L)) _ _ _
  refine wpAny_assign_Name (store_ok2 (v := V.ref L) I' hN hy (.inl hyl) rfl (fun s2 I2 ha => ?_) (.inr hyl))
  obtain ⟨a, sb, ha⟩ := ha
  obtain ⟨g0, g1, g2, g3, g4, g5⟩ := f
  have nCa : C ≠ a := by
    rcases ha with z | z
    · rw [z]
      exact g1
    · exact fun e => g4 y a z e.symm
  exact ⟨m, hn.sameBut sb nCa, fun h3 sb3 => ⟨_, H', I2.turned (t' := s2.toks) (fun b o hb e => (sb3.2 b hb).trans e) g0 g1 g3 g4 g5, q⟩⟩
theorem sw_sc {gs : List Comprehension} {pos py : Pos} {y : Str} {l : Nat} {env : Env} (hk : env.scope.kind = .function) (hy : env.scope.names.lookup y = some .local) (hl : (py.line == pos.line) = true)
    (ha : (scope.names.any fun (n, k) => n == y && (k == .local || k == .cell)) = false) : swapsWith (.SetComp elt gs scope pos) (some (.Name y py)) l env = pure true := by
  have e1 : env.kindOf y = some .local := hy
  have e2 : env.blockKind = .function := by
    unfold Env.blockKind
    rw [hk]
    rfl
  unfold swapsWith
  simp only [e1, e2, ha, Expr.pos, hl]
  rfl
end
end Z
namespace Z
open PySem PySem.Spec PyProof.Rows L2

theorem passN {X : Cx} : Passes (L2.CX X.prog X.w) X (fun _ _ _ => False) := fun pins σ H s e s' I h => by
  obtain ⟨_, _, _, _, _, _, _, _, _, _, _, _, z⟩ := h
  exact False.elim z
section
variable {X : Cx}
/-! ### k in d, d a dict -/
def zDIn (neg : Bool) : R2 := fun x y H Q => ∃ a o, y = .ref a ∧ DGet H a x o ∧ Q (.bl (if neg = true then !o.isSome else o.isSome)) H
theorem op_zDIn (hu : X.A.units + 1 < cLine) : OpR X (compareOp .In) (zDIn false) := by
  intro pins s σ H x y v u Q I rx ry h
  obtain ⟨a, o, rfl, g, q⟩ := h
  obtain rfl : u = Value.ref a := ry
  exact d_in hu I g rx fun s2 I2 => ⟨.bl o.isSome, H, I2, rfl, q⟩
theorem op_zDNin (hu : X.A.units + 1 < cLine) : OpR X (compareOp .NotIn) (zDIn true) := by
  intro pins s σ H x y v u Q I rx ry h
  obtain ⟨a, o, rfl, g, q⟩ := h
  obtain rfl : u = Value.ref a := ry
  exact d_notIn hu I g rx fun s2 I2 => ⟨.bl (!o.isSome), H, I2, rfl, q⟩

/-! ### == and in of own instances -/
variable {n : Nat} {C f : Addr} {sp : Sp}
/-- one == other, both instances of the class at C -/
def zEqO (C : Addr) (sp : Sp) : R2 := fun x y H Q => ∃ a b dx dy fs gs, x = .ref a ∧ y = .ref b ∧ H a = some (.ins C dx fs) ∧ H b = some (.ins C dy gs) ∧
  sp [x, y] H (fun v H1 => ∃ c, v = .bl c ∧ Q v H1) fun _ _ _ => False
theorem op_zEqO (F : FnR X.prog X.w X.K X.mg X.base (L2.CX X.prog X.w) n f sp) (hs : PySem.W.findIn X.K (.ref C) "__eq__" = some (some (.ref f))) (hf : PySem.W.isFn X.K (.ref f) = true) (hr : Room n X.A) :
    OpR X (compareOp .Eq) (zEqO C sp) := by
  intro pins s σ H x y v u Q I rx ry h
  obtain ⟨a, b, dx, dy, fs, gs, rfl, rfl, ha, hb, h⟩ := h
  obtain rfl : v = Value.ref a := rx
  obtain rfl : u = Value.ref b := ry
  obtain ⟨mA, J1, _⟩ := ins_get I.hok ha
  obtain ⟨mB, J2, _⟩ := ins_get I.hok hb
  obtain ⟨od1, J1, _⟩ := J1.look
  obtain ⟨od2, J2, _⟩ := J2.look
  obtain ⟨m, hF⟩ := I.fr
  show wpAny (model X.prog X.w) X.A (richCompare .Eq (.ref a) (.ref b)) (EP X pins σ Q) X.xe s
  refine PySem.W.cmp_K (op := .Eq) (tb := .ref C) hr.units0 hF I.ok.mod.kin J1 J2.type (by simp [PySem.W.notFirst]) hs hf ?_
  refine thn (wpAny_call (run_fnR (us := [.ref a, .ref b]) (vs := [.ref a, .ref b]) F hr passN I (.cons rfl (.cons rfl .nil)) h)) ?_
  rintro w s2 ⟨z, H2, I2, rz, c, rfl, q⟩
  obtain rfl : w = Value.bool c := rz
  exact ⟨.bl c, H2, I2, rfl, q⟩
/-- x in o, o an instance of the class at C -/
def zInO (C : Addr) (sp : Sp) : R2 := fun x y H Q => ∃ b dy gs, y = .ref b ∧ H b = some (.ins C dy gs) ∧ sp [y, x] H (fun v H1 => ∃ c, v = .bl c ∧ Q v H1) fun _ _ _ => False
theorem op_zInO (F : FnR X.prog X.w X.K X.mg X.base (L2.CX X.prog X.w) n f sp) (hs : PySem.W.findIn X.K (.ref C) "__contains__" = some (some (.ref f))) (hf : PySem.W.isFn X.K (.ref f) = true) (hr : Room n X.A) :
    OpR X (compareOp .In) (zInO C sp) := by
  intro pins s σ H x y v u Q I rx ry h
  obtain ⟨b, dy, gs, rfl, hb, h⟩ := h
  obtain rfl : u = Value.ref b := ry
  obtain ⟨mB, J2, _⟩ := ins_get I.hok hb
  obtain ⟨od2, J2, _⟩ := J2.look
  obtain ⟨m, hF⟩ := I.fr
  refine PySem.W.in_K hF I.ok.mod.kin J2 hs hf ?_
  refine thn (wpAny_call (run_fnR (us := [.ref b, v]) (vs := [.ref b, x]) F hr passN I (.cons rfl (.cons rx .nil)) h)) ?_
  rintro w s2 ⟨z, H2, I2, rz, c, rfl, q⟩
  obtain rfl : w = Value.bool c := rz
  exact wpAny_pure ⟨.bl c, H2, I2, rfl, q⟩

/-! ### C(*xs), C in a local name -/
variable {k i : Nat} {x : Str} {e : Expr} {te : TE} {p pos sp_ : Pos} {E : XK}
def zNewL (K : PySem.W.Frag) (i : Nat) (C : Addr) (sp : Sp) (E : XK) (te : TE) : TE := fun σ H Q => σ[i]? = some (some (.ref C)) ∧ te σ H fun y H1 => ∃ a xs, y = .ref a ∧ (SqT K H1 a xs ∨ SqL K H1 a xs) ∧
  ∀ o dx, H1 o = none → H1 dx = none → dx ≠ o → sp (.ref o :: xs) (upd (upd H1 dx (.own o)) o (.ins C dx [])) (fun v H2 => v = .non ∧ Q (.ref o) H2) E
theorem pe_zNewL (M : Mk X.K C f) (F : FnR X.prog X.w X.K X.mg X.base (L2.CX X.prog X.w) k f sp) (hr : Room (k + 1) X.A) (hN : X.N[i]? = some x) (hv : Vis X.env.scope x) (hx : Passes (L2.CX X.prog X.w) X E) (he : PE X e te)
    (hdb : (x == ("__debug__" : Str)) = false := by decide) (hcd : (x == ("__classdict__" : Str)) = false := by decide) (hst : starEach [.Starred e sp_] X.env = [(true, eval e X.env)] := by rfl) :
    PE X (.Call (.Name x p) [.Starred e sp_] [] pos) (zNewL X.K i C sp E te) := by
  constructor
  intro pins s σ H Q I h
  obtain ⟨hs, ht⟩ := h
  refine wpAny_Call_Name_kw (thn ((pe_var (pos := p) hN hv hdb hcd).run pins s σ H (fun v H1 => v = .ref C ∧ H1 = H) I ⟨.ref C, hs, rfl, rfl⟩) ?_)
  rintro u s1 ⟨v, H1, I1, r1, rfl, rfl⟩
  cases r1
  refine PySem.W.callWith_S (h₀ := X.base) I.ok.mod.kin M.kp (thn (he.run pins s1 σ _ _ I1 ht) ?_) hst
  rintro w s2 ⟨y, H2, I2, ry, a, xs, rfl, hxs, q⟩
  obtain rfl : w = Value.ref a := ry
  exact StX.star_any I2 hxs fun us s3 I3 rv => ⟨I3.kIn, StX.run_makeR M F hr hx I3 rv q⟩

/-! ### isinstance of an own instance -/
structure CIns (K : PySem.W.Frag) (C : Addr) : Prop where
  cl : Cls K C
  ha : PySem.W.findIn K (.ref C) "__class__" = some (some (.builtin "object.__class__"))
  hn : PySem.W.specialIn K (.builtin "object.__class__") "__get__" = some (some (.builtin "getset_descriptor.__get__"))
  ht : PySem.W.takesIn K (.builtin "object.__class__") = some true
  hm : PySem.W.mroIn K C (.type "object") = some true
theorem isi_own {K : PySem.W.Frag} {C : Addr} {H : Hp} {Q : VK} {a dx : Addr} {fs : List (Str × V)} (c : CIns K C) (ea : H a = some (.ins C dx fs)) (q : Q (.bl true) H) : rIsi K [.ref a, .ref C] H Q :=
  ⟨_, _, .ref C, .ref C, true, rfl, .own C, .base (.ins ea c.cl c.ha c.hn c.ht c.hm), by simp [PySem.W.kitOne], q⟩
end
section
variable {X : Cx}
/-! ### tuple(x) -/
def zTupOf (K : PySem.W.Frag) : List V → Hp → VK → Prop := fun xs H Q => match xs with
  | [.ref p] => ∃ ys, (SqL K H p ys ∧ ∀ l, H l = none → Q (.ref l) (upd H l (.tup ys))) ∨ (SqT K H p ys ∧ Q (.ref p) H)
  | _ => False
theorem call_tupZ : CallR X (.type "tuple") (zTupOf X.K) := by
  intro pins s σ H xs us Q I r h
  unfold zTupOf at h
  split at h
  · obtain ⟨ys, h⟩ := h
    exact call_tuple_of pins s σ H _ us Q I r ⟨_, ys, rfl, h⟩
  · exact h.elim
end

/-! ### def f(a, *xs) -/
def spStar (n : Nat) (sp : Sp) : Sp := fun vs H Q E => ∃ ws rest, vs = ws ++ rest ∧ ws.length = n ∧ rest.length ≤ sizeLine ∧ ∀ p, H p = none → sp (ws ++ [.ref p]) (upd H p (.tup rest)) Q E
section
variable {P : Program} {w : World} {K : PySem.W.Frag} {mg : Str → Option Value} {base : Heap}
theorem okStar {x qual pv : Str} {st : Stmt} {f : Addr} {fd : FuncData} {N ps : List Str} {k : Nat} {sp : Sp} (F : Fun K x qual st f fd) (S : FnScope N (ps ++ [pv]) (defScope st))
    (hb : ∀ (kV doc pm : Value) (an : Option Addr) (cdv ct : Value) (us rest : List Value), us.length = ps.length →
      bindArgs (PySem.W.fnOf x qual (defArgs st) (defBody st) (defScope st) .none kV doc pm an cdv ct) ⟨us ++ rest, []⟩ = (newTuple rest >>= fun t => pure (ps.zip us ++ [(pv, t)])))
    (hbody : ∀ (cdv : Value) (A : Around) (outer : List Env) (s : Shared) (H : Hp) (vs : List V) (Q : VK) (E : XK),
      Room k (A.deeper (envOfC qual (defScope st) s.heap.objs.size f cdv)) → sp vs H Q E →
      ∃ t, PSs (cxOf (L2.CX P w) P w K mg base N qual (defScope st) f cdv A outer s H E) (defBody st) t ∧ t { nx := fun _ H' => Q .non H', rt := Q } (start N vs) H) :
    FnR P w K mg base (L2.CX P w) (k + 1) f (spStar ps.length sp) := by
  obtain ⟨oc, od, kV, doc, pm, an, cdv, ct, osl, rfl, lk, hcd⟩ := F.ex
  exact StX.fn_star (sp := sp) lk hcd S StX.cxUp (hb kV doc pm an cdv ct) fun A outer s H vs Q E hr hs => hbody cdv A outer s H vs Q E hr hs
end

/-- a set of keys over a walk -/
theorem sc_z {P : Program} {w : World} {J : It} {n : Nat} {G : Hp → Prop} {Y : Nat → Hp → V → Hp → Prop} (wk : Walk J n G Y) {g : TG} {tt : TT} {te : TE} {vs : List Nat} {σ : St} {H1 : Hp} {Q : VK} (Pv : Addr → Nat → Hp → Prop)
    (h0 : ∀ D, H1 D = none → Pv D 0 (upd H1 D (SetK P w D (fun _ => false) 0))) (hG : ∀ D i H, H1 D = none → i ≤ n → Pv D i H → G H)
    (hs : ∀ D i x H H', H1 D = none → i < n → Pv D i H → Y i H x H' → g x (wipe σ vs) H' fun σ2 H2 => wipe σ2 vs = wipe σ vs ∧ tt σ2 H2 fun b H3 =>
      if b = true then te σ2 H3 fun y H4 => rSAddK P w (.ref D) [y] H4 fun _ H5 => Pv D (i + 1) H5 else Pv D (i + 1) H3)
    (hd : ∀ D H, H1 D = none → Pv D n H → Q (.ref D) H) : scGo P w J g tt te vs σ H1 Q := by
  intro D hD
  refine ⟨fun i m H => m = n - i ∧ i ≤ n ∧ Pv D i H, ⟨n, by simp, Nat.zero_le _, h0 D hD⟩, ?_⟩
  rintro i m H ⟨rfl, hi, p⟩
  have q := hG D i H hD hi p
  rcases Nat.lt_or_ge i n with lt | ge
  · exact .inr ⟨wk.goes i H lt q, Pv D (i + 1), fun H' p' => ⟨n - (i + 1), by omega, rfl, lt, p'⟩, fun x H' y => hs D i x H H' hD lt p (wk.yields i H x H' lt q y)⟩
  · obtain rfl : i = n := Nat.le_antisymm hi ge
    exact .inl ⟨wk.stops H q, hd D H hD p⟩

theorem seq_of {a b : TS} {D : Ends} {σ : St} {H : Hp} (h : a { D with nx := b D } σ H) : tSeq a b D σ H := h
theorem ifS_of {t : TT} {a b : TS} {D : Ends} {σ : St} {H : Hp} (c : Bool) (ht : ∀ Q : Bool → Hp → Prop, Q c H → t σ H Q) (h1 : c = true → a D σ H) (h2 : c = false → b D σ H) : tIfS t a b D σ H := ht _ (zite h1 h2)
end Z
namespace Z
open PySem PySem.Spec PyProof.Rows L2
open AutoSeq1 (wpAny_loadPart')
open MeetsSeq

/-! ### x in a list, each question at its own state -/
section
variable {prog : Program} {w : World} {A : Around} {E : Value → Shared → Prop}
/-- at each turn the list is read anew; the items up to here were not it -/
def HasI (prog : Program) (w : World) (A : Around) (E : Value → Shared → Prop) (l : Addr) (x : Value) (N : Nat) (I : Nat → Shared → Prop) : Prop :=
  ∀ i s, I i s → ∃ (items : Array Value) (n : Nat), s.heap.get? l = some { cls := .type "list", data := .seq items n } ∧ items.size = N ∧
    ∀ h1 : i < items.size, wpAny (model prog w) A.in1 (eqBool items[i] x) (fun r s' => r = false ∧ I (i + 1) s') E s
theorem has_loop {R : Result → Shared → Prop} (l : Addr) (x : Value) (N : Nat) (I : Nat → Shared → Prop) (hl : HasI prog w A (fun e s' => R (.error e) s') l x N I) (fin : ∀ s, I N s → R (.ok (.ret (.bool false))) s) (k : Nat) :
    ∀ i : Nat, N - i = k → i ≤ N → ∀ s, I i s → wpAny (model prog w) A.in1 (Builtin.«list.__contains__.loop» ⟨[.ref l, x, rawInt i], []⟩) (GQ.FinOf prog w A R) (fun e s' => R (.error e) s') s := by
  induction k with
  | zero =>
    intro i hk hi s h
    obtain ⟨items, n, hg, hs, _⟩ := hl _ _ h
    obtain rfl : i = N := by omega
    have hR := fin s h
    obtain ⟨hp, g, d, tk, os⟩ := s
    wp_walk using wpAny_loadPart' hg
    have e1 : items[((i : Nat) : Int).toNat]? = none := by simp; omega
    rw [e1]
    wp_walk
    exact hR
  | succ k ih =>
    intro i hk hi s h
    obtain ⟨items, n, hg, hs, turn⟩ := hl _ _ h
    have lt : i < items.size := by omega
    have ht := turn lt
    obtain ⟨hp, g, d, tk, os⟩ := s
    wp_walk using wpAny_loadPart' hg
    have e1 : items[((i : Nat) : Int).toNat]? = some items[i] := by simp [lt]
    rw [e1]
    refine wpAny_bind (wpAny_mono ht ?_ fun _ _ z => z)
    rintro r s2 ⟨rfl, h2⟩
    have hrec := ih (i + 1) (by omega) (by omega) s2 h2
    obtain ⟨hp2, g2, d2, tk2, os2⟩ := s2
    have hc : ((i : Int) + 1) = ((i + 1 : Nat) : Int) := by omega
    wp_walk
    rw [hc]
    exact ⟨plainId_quiet plain_contains_loop _, codeAny_builtin entry_contains_loop (by
      rw [Around.under_plainId plain_contains_loop _]
      exact hrec)⟩
theorem in_none {l : Addr} {x : Value} {N : Nat} {s : Shared} {Q : Value → Shared → Prop} (I : Nat → Shared → Prop) (hl : HasI prog w A E l x N I) (h : I 0 s) (fin : ∀ s, I N s → Q (.bool false) s) :
    wpAny (model prog w) A (compareOp .In x (.ref l)) Q E s := by
  obtain ⟨items, n, hg, hs, _⟩ := hl _ _ h
  have hT : s.TypeIs (.ref l) "list" := ⟨_, hg, rfl⟩
  show wpAny _ A (do return .bool (← contains (.ref l) x)) Q E s
  refine wpAny_bind (wpAny_contains_slot hT F.slot_list_contains (wpAny_mono (GQ.call_here (Q := fun v s' => v = .bool false ∧ Q (.bool false) s') F.slot_list_contains hT F.entry_list_contains (F.args_list_contains_2 _ _) ?_) ?_ fun _ _ z => z))
  · have loop := has_loop (prog := prog) (w := w) (A := A) (R := wants (fun v s' => v = .bool false ∧ Q (.bool false) s') E) l x N I hl (fun s' h' => ⟨rfl, fin s' h'⟩) (N - 0) 0 rfl (Nat.zero_le _) s h
    obtain ⟨hp, g, d, tk, os⟩ := s
    wp_walk using wpAny_loadPart' hg
    exact ⟨plainId_quiet plain_contains_loop _, codeAny_builtin entry_contains_loop (by
      rw [Around.under_plainId plain_contains_loop _]
      exact loop)⟩
  · rintro v s' ⟨rfl, q⟩
    exact wpAny_truthy_bool (wpAny_pure q)
end
/-! ### == of another thing and an own instance -/
section
variable {prog : Program} {w : World} {A : Around} {E : Value → Shared → Prop} {s : Shared} {K : PySem.W.Frag} {x C f : Addr} {ox : Obj} {od : Option Obj} {v : Value} {T ida : String}
theorem rc_other {Q : Value → Shared → Prop} (hT : s.TypeIs v T) (slot : Slot T "__eq__" ida) (J : PySem.W.InstAt s.heap x ox C od) (X : K.In s.heap) (hsub : PySem.W.subIn K (.ref C) (.type T) = some false)
    (hs : PySem.W.findIn K (.ref C) "__eq__" = some (some (.ref f))) (hf : PySem.W.isFn K (.ref f) = true) (hu : A.units < cLine)
    (dec : ∀ Q' : Value → Shared → Prop, Q' .notImplemented s → wpAny (model prog w) A (call (.builtin ida) [v, .ref x]) Q' E s)
    (h : wpAny (model prog w) A (call (.ref f) [.ref x, v]) (PySem.W.CmpBack Q) E s) : wpAny (model prog w) A (richCompare .Eq v (.ref x)) Q E s := by
  have one : wpAny (model prog w) A (tryCompare (.ref x) "__eq__" v) (fun r s' => ∃ u, r = some u ∧ Q u s') E s := by
    unfold tryCompare
    refine wpAny_bind (PySem.W.ifBound_K X J hs hf (wpAny_mono h (fun u s' hv => ?_) fun _ _ e => e))
    cases u <;> first | exact hv.elim | exact wpAny_pure ⟨_, rfl, hv⟩
  rcases hi : cmpInfo CmpOp.Eq with ⟨sym, f', r⟩
  have e1 : f' = "__eq__" := by cases hi; rfl
  have e2 : r = "__eq__" := by cases hi; rfl
  subst e1 e2
  simp only [richCompare, hi, hT.oneThing_none]
  try with_reducible refine wpAny_holding ?_
  refine wpAny_bind (wpAny_cRoomFor hu ?_)
  refine wpAny_bind (wpAny_typeOf hT (wpAny_bind (J.type.here ?_)))
  have ne : (Value.type T != Value.ref C) = true := by simp
  simp only [ne, if_true]
  refine wpAny_bind ((PySem.W.looks_subIn X hsub).here ?_)
  simp only [Bool.false_eq_true, if_false, Bool.not_false, if_true]
  refine wpAny_bind (m := tryCompare v _ (.ref x)) (wpAny_tryCompare_declines hT slot (dec _ ⟨rfl, ?_⟩))
  refine wpAny_bind (wpAny_mono one (fun r s' z => ?_) fun _ _ e => e)
  obtain ⟨u, rfl, q⟩ := z
  exact wpAny_pure q
end

section
variable {prog : Program} {w : World} {A : Around} {E : Value → Shared → Prop} {s : Shared} {x : Addr} {ox : Obj}
theorem dec_none {Q : Value → Shared → Prop} (h : Q .notImplemented s) : wpAny (model prog w) A (call (.builtin "NoneType.__eq__") [.none, .ref x]) Q E s :=
  call_gives F.slot_NoneType_eq rfl F.entry_NoneType_eq (F.args_NoneType_eq_2 _ _) (SeqAt.NoneType___eq___none_ref_0 x) h
theorem dec_str {z : Str} {t : Tok} {Q : Value → Shared → Prop} (hx : s.heap.get? x = some ox) (hd : ox.data = .plain) (h : Q .notImplemented s) : wpAny (model prog w) A (call (.builtin "str.__eq__") [.str z t, .ref x]) Q E s := by
  refine GQ.call_here F.slot_str_eq (typeIs_str s z t) F.entry_str_eq (F.args_str_eq_2 _ _) ?_
  obtain ⟨cls, dd, data, sl⟩ := ox
  simp only at hd
  subst hd
  obtain ⟨hp, g, d, tk, os⟩ := s
  wp_walk using wpAny_load hx
  exact h
theorem dec_list {l : Addr} {items : Array Value} {n : Nat} {Q : Value → Shared → Prop} (hl : s.heap.get? l = some { cls := .type "list", data := .seq items n })
    (hi : ∀ (A' : Around) (Q' : Bool → Shared → Prop) (E' : Value → Shared → Prop), Q' false s → wpAny (model prog w) A' (isInstance (.ref x) (.type "list")) Q' E' s) (h : Q .notImplemented s) :
    wpAny (model prog w) A (call (.builtin "list.__eq__") [.ref l, .ref x]) Q E s := by
  refine GQ.call_here F.slot_list_eq ⟨_, hl, rfl⟩ F.entry_list_eq (F.args_list_eq_2 _ _) ?_
  obtain ⟨hp, g, d, tk, os⟩ := s
  have hi' : ∀ {A' : Around} {Q' : Bool → Shared → Prop} {E' : Value → Shared → Prop}, Q' false ⟨hp, g, d, tk, os⟩ → wpAny (model prog w) A' (isInstance (.ref x) (.type "list")) Q' E' ⟨hp, g, d, tk, os⟩ := fun q => hi _ _ _ q
  wp_walk using wpAny_loadPart' hl, hi'
  exact h
theorem dec_tuple {l : Addr} {items : Array Value} {n : Nat} {dd : Option Addr} {sl : Array (Option Value)} {Q : Value → Shared → Prop} (hl : s.heap.get? l = some { cls := .type "tuple", dict := dd, data := .seq items n, slots := sl })
    (hi : ∀ (A' : Around) (Q' : Bool → Shared → Prop) (E' : Value → Shared → Prop), Q' false s → wpAny (model prog w) A' (isInstance (.ref x) (.type "tuple")) Q' E' s) (h : Q .notImplemented s) :
    wpAny (model prog w) A (call (.builtin "tuple.__eq__") [.ref l, .ref x]) Q E s := by
  refine GQ.call_here F.slot_tuple_eq ⟨_, hl, rfl⟩ F.entry_tuple_eq (F.args_tuple_eq_2 _ _) ?_
  obtain ⟨hp, g, d, tk, os⟩ := s
  have hi' : ∀ {A' : Around} {Q' : Bool → Shared → Prop} {E' : Value → Shared → Prop}, Q' false ⟨hp, g, d, tk, os⟩ → wpAny (model prog w) A' (isInstance (.ref x) (.type "tuple")) Q' E' ⟨hp, g, d, tk, os⟩ := fun q => hi _ _ _ q
  wp_walk using wpAny_loadPart' hl, hi'
  exact h
end

theorem eqBool_of {prog : Program} {w : World} {A : Around} {E : Value → Shared → Prop} {s : Shared} {u : Value} {x : Addr} {Q : Bool → Shared → Prop} (hu : u = .none ∨ (∃ z t, u = .str z t) ∨ ∃ b, u = .ref b ∧ b ≠ x)
    (h : wpAny (model prog w) A (richCompare .Eq u (.ref x)) (fun v s' => ∃ r, v = .bool r ∧ Q r s') E s) : wpAny (model prog w) A (eqBool u (.ref x)) Q E s := by
  have fin : ∀ v s', (∃ r, v = .bool r ∧ Q r s') → wpAny (model prog w) A (truthOfDropped v) Q E s' := by
    rintro v s' ⟨r, rfl, q⟩
    exact wpAny_truthy_bool q
  rcases hu with rfl | ⟨z, t, rfl⟩ | ⟨b, rfl, hb⟩
  · unfold eqBool
    refine wpAny_holding (wpAny_ite_split (fun e => ?_) fun _ => wpAny_bind (wpAny_mono h fin fun _ _ z => z))
    exact absurd (eq_of_beq e) (fun z => by cases z)
  · unfold eqBool
    refine wpAny_holding (wpAny_ite_split (fun e => ?_) fun _ => wpAny_bind (wpAny_mono h fin fun _ _ z => z))
    exact absurd (eq_of_beq e) (fun z => by cases z)
  · unfold eqBool
    refine wpAny_holding (wpAny_ite_split (fun e => ?_) fun _ => wpAny_bind (wpAny_mono h fin fun _ _ z => z))
    exact absurd (eq_of_beq e) (fun z => by cases z; exact hb rfl)
/-- None, a text, a list, a tuple -/
def Oth (K : PySem.W.Frag) (H : Hp) (v : V) : Prop := v = .non ∨ (∃ z, v = .str z) ∨ (∃ b ys, v = .ref b ∧ H b = some (.lst ys)) ∨ ∃ b ys, v = .ref b ∧ SqT K H b ys
structure OwnNe (K : PySem.W.Frag) (C f : Addr) : Prop where
  none : PySem.W.subIn K (.ref C) (.type "NoneType") = some false
  str : PySem.W.subIn K (.ref C) (.type "str") = some false
  list : PySem.W.subIn K (.ref C) (.type "list") = some false
  tup : PySem.W.subIn K (.ref C) (.type "tuple") = some false
  at_ : PySem.W.findIn K (.ref C) "__eq__" = some (some (.ref f))
  fn : PySem.W.isFn K (.ref f) = true
def zInL (K : PySem.W.Frag) (C : Addr) (sp : Sp) : R2 := fun x y H Q => ∃ a dx fs l xs, x = .ref a ∧ y = .ref l ∧ H a = some (.ins C dx fs) ∧ H l = some (.lst xs) ∧
  (∀ v ∈ xs, Oth K H v ∧ ∀ H', Same H H' → sp [.ref a, v] H' (fun r H2 => r = .bl false ∧ Same H' H2) fun _ _ _ => False) ∧ ∀ H', Same H H' → Q (.bl false) H'
section
variable {X : Cx} {n : Nat} {C f : Addr} {sp : Sp}
theorem op_zInL (F : FnR X.prog X.w X.K X.mg X.base (L2.CX X.prog X.w) n f sp) (o : OwnNe X.K C f) (hr : Room (n + 1) X.A) : OpR X (compareOp .In) (zInL X.K C sp) := by
  intro pins s σ H x y v u Q I rx ry h
  obtain ⟨a, dx, fs, l, xs, rfl, rfl, ha, hl, hv, q⟩ := h
  obtain rfl : v = Value.ref a := rx
  obtain rfl : u = Value.ref l := ry
  refine in_none (N := xs.length) (fun i s' => ∃ H', Inv X pins σ H' s' ∧ Same H H') ?_ ⟨H, I, Same.refl H⟩ ?_
  · rintro i s1 ⟨H1, I1, z1⟩
    obtain ⟨_, its, m, rv, ln, hg⟩ := I1.lstM (z1 _ _ hl)
    refine ⟨its.toArray, m, hg, by simp [ln], fun h1 => ?_⟩
    have k1 : i < xs.length := by
      rw [ln]
      simpa using h1
    obtain ⟨u, hu, ru⟩ := rv.get (List.getElem?_eq_getElem k1)
    have eu : its.toArray[i] = u := by
      have h1' : i < its.length := by simpa using h1
      rw [List.getElem?_eq_getElem h1'] at hu
      simpa using Option.some.inj hu
    rw [eu]
    obtain ⟨ot, sp1⟩ := hv _ (List.getElem_mem k1)
    have ha1 := z1 _ _ ha
    obtain ⟨ox, od, J, hp⟩ := StX.insC_at I1 (.inr ⟨dx, fs, ha1⟩)
    have room : Room n X.A.in1 := hr.in1
    have hun : X.A.in1.units < cLine := room.units0
    -- the question itself
    have ask : ∀ Q' : Value → Shared → Prop, (∀ s2 H2, Inv X pins σ H2 s2 → Same H H2 → Q' (.bool false) s2) → wpAny (model X.prog X.w) X.A.in1 (call (.ref f) [.ref a, u]) (PySem.W.CmpBack Q') X.xe s1 := by
      intro Q' hQ
      have e := I1.env0
      have e0 : Env0 X.prog X.w X.K X.mg X.base X.A.in1 X.stack s1 H1 := ⟨e.frames, e.mod, e.bs, e.bsz, e.funs, e.frf, e.hok, e.bare⟩
      refine wpAny_call (codeAny_mono (F X.A.in1 X.stack s1 H1 [.ref a, u] [.ref a, xs[i]] _ _ room e0 (.cons (show RelV (.ref a) (.ref a) from rfl) (.cons ru .nil)) (sp1 H1 z1)) fun r s2 hq => ?_)
      rcases r with er | fl
      · exact passN pins σ H1 s1 er s2 I1 hq
      · cases fl with
        | ret w =>
          obtain ⟨z, H2, I2, rz, ez, z2⟩ := I1.after hq
          subst ez
          obtain rfl : w = Value.bool false := rz
          exact hQ s2 H2 I2 (z1.trans z2)
        | next => exact hq.elim
        | brk => exact hq.elim
        | cont => exact hq.elim
    have inst : ∀ T : String, PySem.W.subIn X.K (.ref C) (.type T) = some false → ∀ (A' : Around) (Q' : Bool → Shared → Prop) (E' : Value → Shared → Prop), Q' false s1 → wpAny (model X.prog X.w) A' (isInstance (.ref a) (.type T)) Q' E' s1 := by
      intro T hT A' Q' E' q'
      simp only [isInstance]
      exact wpAny_bind (J.type.here ((PySem.W.looks_subIn I1.kIn hT).here q'))
    have back : ∀ s2 H2, Inv X pins σ H2 s2 → Same H H2 → ∃ r, Value.bool false = .bool r ∧ r = false ∧ ∃ H', Inv X pins σ H' s2 ∧ Same H H' := fun s2 H2 I2 z2 => ⟨false, rfl, rfl, H2, I2, z2⟩
    generalize xs[i] = v at ot sp1 ru
    rcases ot with rfl | ⟨z, rfl⟩ | ⟨b, ys, rfl, hb⟩ | ⟨b, ys, rfl, hb⟩
    · obtain rfl : u = Value.none := ru
      exact eqBool_of (.inl rfl) (rc_other (T := "NoneType") rfl PySem.F.slot_NoneType_eq J I1.kIn o.none o.at_ o.fn hun (fun Q' q' => dec_none q') (ask _ back))
    · obtain ⟨t, rfl⟩ := ru
      exact eqBool_of (.inr (.inl ⟨_, _, rfl⟩)) (rc_other (T := "str") rfl PySem.F.slot_str_eq J I1.kIn o.str o.at_ o.fn hun (fun Q' q' => dec_str J.at_ hp q') (ask _ back))
    · obtain rfl : u = Value.ref b := ru
      have hb1 := z1 _ _ hb
      obtain ⟨_, its2, m2, _, _, hg2⟩ := I1.lstM hb1
      have ne : b ≠ a := fun z => by rw [z, ha1] at hb1; cases hb1
      exact eqBool_of (.inr (.inr ⟨_, rfl, ne⟩)) (rc_other (T := "list") ⟨_, hg2, rfl⟩ PySem.F.slot_list_eq J I1.kIn o.list o.at_ o.fn hun (fun Q' q' => dec_list hg2 (inst "list" o.list) q') (ask _ back))
    · obtain rfl : u = Value.ref b := ru
      obtain ⟨its2, _, p2, _⟩ := I1.tuple (show SqT X.K H1 b ys from by
        rcases hb with (h | ⟨o, h⟩) | h
        · exact .inl (.inl (z1 _ _ h))
        · exact .inl (.inr ⟨o, z1 _ _ h⟩)
        · exact .inr h)
      obtain ⟨ob, e1, c1, m2, d1⟩ := p2
      obtain ⟨cls, dd, data, sl⟩ := ob
      simp only at c1 d1
      subst c1 d1
      have ne : b ≠ a := fun z => by
        rw [z, J.at_] at e1
        cases e1
        have := J.cls
        cases this
      exact eqBool_of (.inr (.inr ⟨_, rfl, ne⟩)) (rc_other (T := "tuple") ⟨_, e1, rfl⟩ PySem.F.slot_tuple_eq J I1.kIn o.tup o.at_ o.fn hun (fun Q' q' => dec_tuple e1 (inst "tuple" o.tup) q') (ask _ back))
  · rintro s2 ⟨H2, I2, z2⟩
    exact ⟨.bl false, H2, I2, rfl, q H2 z2⟩
end

/-! ### C() of a class whose __init__ takes any number; str(int) -/
theorem pe_zMakeR0 {X : Cx} {k : Nat} {f C : Addr} {sp : Sp} {E : XK} {x : Str} {p pos : Pos} (M : Mk X.K C f) (F : FnR X.prog X.w X.K X.mg X.base (L2.CX X.prog X.w) k f sp) (hr : Room (k + 1) X.A) (hg : Gl X x) (hm : X.mg x = some (.ref C))
    (hx : Passes (L2.CX X.prog X.w) X E) (hdb : (x == ("__debug__" : Str)) = false := by decide) : PE X (.Call (.Name x p) [] [] pos) (StX.tMakeR C sp E tNil) := by
  constructor
  intro pins s σ H Q I h
  refine wpAny_Call_Name_kw (ld_glob I hg hm ?_ hdb)
  exact PySem.W.callWith_K0 I.kIn M.kp (StX.run_makeR (us := []) M F hr hx I .nil h)
def rStrI : List V → Hp → VK → Prop := fun xs H Q => ∃ i : Int, xs = [.int i] ∧ i.natAbs.log2 < 1920 ∧ Q (.str (toString i)) H
theorem call_strZ {X : Cx} : CallR X (.type "str") rStrI := call_str_int
end Z
namespace Z
open PySem PySem.Spec PyProof.Rows L2
/-! ### C.m(..), m a staticmethod of the class C -/
structure SMet (K : PySem.W.Frag) (C : Addr) (mc : Value) (m : Str) (p g : Addr) : Prop where
  at_ : PySem.W.findCls K (.ref C) mc m = some (.get (.builtin "staticmethod.__get__") (.ref p) .none (.ref C))
  rc : ∃ rest, PySem.W.recIn K p "staticmethod" = some (.ref g :: rest)
  kp : PySem.W.keepIn K (.ref g) = true
def tSMeth (C : Addr) (sp : Sp) (E : XK) (ta : TE) (t : TA) : TE := fun σ H Q => ta σ H fun x H1 => x = .ref C ∧ t σ H1 fun vs H2 => sp vs H2 Q E
section
variable {X : Cx} {CX : CXT} {k : Nat} {C p g : Addr} {mc : Value} {sp : Sp} {E : XK} {o e : Expr} {es : List Expr} {m : Str} {pos apos : Pos} {ta : TE} {t : TA} {pl : Sem Bool}
theorem pe_smeth (he : PE X o ta) (r : ClX.CRead X.K C mc) (c : SMet X.K C mc m p g) (F : FnR X.prog X.w X.K X.mg X.base CX k g sp) (hr : Room k X.A) (hx : Passes CX X E) (ha : PA X (e :: es) t)
    (hst : starEach (e :: es) X.env = (false, eval e X.env) :: starEach es X.env := by rfl) (hpl : (backTo pos (starEach es X.env)).any (·.1) = false := by rfl)
    (ht : eval (.Call (.Attribute o m apos) (e :: es) [] pos) X.env = (do
      let ov ← eval o X.env
      standAt apos.atName
      let (f, first) ← holding [ov] (getMethod ov m pl)
      callWith pos f first (backTo pos (starEach (e :: es) X.env)) (backToKw pos (keywordEach [] X.env))) := by rfl) :
    PE X (.Call (.Attribute o m apos) (e :: es) [] pos) (tSMeth C sp E ta t) := by
  refine ⟨fun pins s σ H Q I h => ?_⟩
  refine PySem.W.methodCall_KW (pl := pl) (thn (he.run pins s σ H _ I h) fun u s1 ⟨x, H1, I1, rx, ex, q⟩ => ?_) ht
  subst ex
  obtain rfl : u = Value.ref C := rx
  obtain ⟨rest, hp⟩ := c.rc
  refine PySem.W.method_cls I1.kIn r.ga (PySem.W.cls_bind I1.kIn r.rd c.at_ ?_)
  refine wpAny_call (PySem.W.sm_get (s := { s1 with toks := s1.toks + 1 }) (show X.K.In s1.heap from I1.kIn) hp (PySem.W.handed_on rfl ?_))
  have I2 := I1.tok (t := s1.toks + 1)
  refine PySem.W.callWith_K (h₀ := X.base) I2.ok.mod.kin c.kp (thn (ha.run pos pins _ σ H1 _ I2 q) ?_) hst hpl
  rintro us s3 ⟨vs, H2, I3, rv, q2⟩
  exact ⟨I3.kIn, wpAny_call (run_fnR (us := us) (vs := vs) F hr hx I3 rv q2)⟩
end
/-! ### int of a text, a cut of a text -/
def rIntS : List V → Hp → VK → Prop := fun xs H Q => match xs with
  | [.str a] => ∃ n, PySem.intText? a = some n ∧ a.length ≤ 640 ∧ Q (.int n) H
  | xs => rInt1 xs H Q
theorem call_intS {X : Cx} : CallR X (.type "int") rIntS := by
  intro pins s σ H xs us Q I r h
  unfold rIntS at h
  split at h
  · obtain ⟨n, h1, h2, q⟩ := h
    exact call_int_str pins s σ H _ us Q I r ⟨_, n, rfl, h1, h2, q⟩
  · exact call_intZ pins s σ H _ us Q I r h
end Z
namespace Z
open PySem PySem.Spec PyProof.Rows L2
open PySem.SeqAt PySem.W PySem.Calls

/-! ### tuples as data: <, sorted (empty ones too) -/
section
variable {prog : Program} {w : World} {A : Around} {E : Value → Shared → Prop} {s : Shared}
theorem call_tuple_lt {Q : Value → Shared → Prop} {l b : Addr} {items items2 : Array Value} {e r : Nat → Bool} (hl : s.heap.IsTuple l items) (hb : s.heap.IsTuple b items2)
    (he : ∀ j (h1 : j < items.size) (h2 : j < items2.size), EqAt A.in1 s items[j] items2[j] (e j)) (hr : ∀ j (h1 : j < items.size) (h2 : j < items2.size), e j = false → RcLt A.in1 s items[j] items2[j] (r j))
    (h : Q (.bool (firstLt e r (decide (items.size < items2.size)) (List.range (min items.size items2.size)))) s) : wpAny (model prog w) A (call (.builtin "tuple.__lt__") [.ref l, .ref b]) Q E s := by
  obtain ⟨⟨cls, dd, data, sl⟩, ho, hc, n, hd⟩ := id hl
  obtain ⟨⟨cls2, dd2, data2, sl2⟩, ho2, hc2, n2, hd2⟩ := id hb
  simp only at hc hd hc2 hd2
  subst hc hd hc2 hd2
  exact call_meets F.slot_tuple_lt ⟨_, ho, rfl⟩ F.entry_tuple_lt (F.args_tuple_lt_2 _ _) (tuple_ltAt l b items items2 n n2 dd dd2 sl sl2 e r) ⟨ho, ho2, he, hr, h⟩
theorem oneLt_tups {f : Bool} {xs ys : List PyData} {a b : Value} {as bs : List Addr} {Q : Bool → Shared → Prop} (ra : Reads s.heap a (.tuple xs) as) (rb : Reads s.heap b (.tuple ys) bs) (h : alike (.tuple xs) (.tuple ys) = true)
    (hu : A.units + min (PyData.tuple xs).depth (PyData.tuple ys).depth < cLine) (hq : Q (dataLt (.tuple xs) (.tuple ys)) s) : wpAny (model prog w) A (oneLt' f a b) Q E s := by
  cases f with
  | false => exact oneLt_alike (fun z => nomatch z) ra rb h (by simp) hu hq
  | true =>
    have hal : alikeAll xs ys = true := by simpa [alike] using h
    cases ra with
    | @tuple l o vs n _ as₁ h1 h2 h3 h4 =>
      cases rb with
      | @tuple l' o' vs' n' _ bs₁ k1 k2 k3 k4 =>
        have n1 : vs.size = xs.length := by simpa using ReadsAll.length _ _ _ h4
        have n2 : vs'.size = ys.length := by simpa using ReadsAll.length _ _ _ k4
        rw [dataLt_tuple, ← firstLt_toks xs ys hal, ← n1, ← n2] at hq
        rw [oneLt'_eq]
        simp only [if_true]
        refine wpAny_bind (wpAny_cRoomFor (room_here hu) ?_)
        refine wpAny_bind (wpAny_callSpecialIfBound?_slot (T := "tuple") ⟨_, h1, h2⟩ F.slot_tuple_lt (call_tuple_lt (e := pairEq xs ys) (r := fun j => dataLt (xs.getD j .none) (ys.getD j .none)) ⟨_, h1, h2, _, h3⟩ ⟨_, k1, k2, _, k3⟩ (fun j j1 j2 => ?_) (fun j j1 j2 hj => ?_) ?_))
        · have := eqAt_alikeAll xs ys A.in1 s vs.toList vs'.toList _ _ h4 k4 hal (room_in hu) j (by simpa using j1) (by simpa using j2)
          simpa using this
        · have := rcLt_alikeAll xs ys A.in1 s vs.toList vs'.toList _ _ h4 k4 hal (room_in hu) j (by simpa using j1) (by simpa using j2) hj
          simpa using this
        · exact wpAny_truthy_bool hq
theorem firsts_tups : ∀ {vs : List Value} {ds : List PyData}, EachIs (fun v d => ∃ as, Reads s.heap v d as) vs ds → (∀ d, d ∈ ds → ∃ xs, d = .tuple xs) →
    ∃ fs : List (Option Value), fs.length = vs.length ∧ (PyData.tuple [] ∈ ds → none ∈ fs) ∧ ∀ (E : Value → Shared → Prop) {Q : List (Option Value) → Shared → Prop}, Q fs s → wpAny (model prog w) A (vs.mapM firstOfTuple') Q E s
  | _, _, .nil, _ => ⟨[], rfl, fun h => absurd h (by simp), fun E Q h => by rw [List.mapM_nil]; exact wpAny_pure h⟩
  | _, _, .cons (a := v) (b := d) ⟨as, r⟩ t, ht => by
    obtain ⟨fs, h1, h2, h3⟩ := firsts_tups t fun d hd => ht d (List.mem_cons_of_mem _ hd)
    obtain ⟨ys, rfl⟩ := ht d (List.mem_cons_self ..)
    cases r with
    | @tuple a o xs n _ _ ho hc hd hr =>
      refine ⟨xs[0]? :: fs, by simp [h1], fun hm => ?_, fun E Q hq => ?_⟩
      · rcases List.mem_cons.mp hm with e | e
        · cases e
          have : xs.toList = [] := by
            cases q : xs.toList with
            | nil => rfl
            | cons _ _ => rw [q] at hr; cases hr
          have : xs[0]? = none := by rw [← Array.getElem?_toList, this]; rfl
          rw [this]
          exact List.mem_cons_self ..
        · exact List.mem_cons_of_mem _ (h2 e)
      · rw [List.mapM_cons]
        refine wpAny_bind ?_
        rw [kas_first_eq]
        refine wpAny_bind (Looks.here (show Looks _ s.heap (typeOf (.ref a)) o.cls from (Looks.ld ho).andThen .now) ?_)
        rw [hc, if_neg (by first | decide | simp)]
        refine wpAny_bind (listItems_at ho hd (wpAny_pure ?_))
        exact wpAny_bind (h3 E (wpAny_pure hq))
theorem SortsAt.tups {vs : List Value} {ds : List PyData} (e : EachIs (fun v d => ∃ as, Reads s.heap v d as) vs ds) (hal : AllAlike ds) (hk : ∀ d, d ∈ ds → ∃ xs, d = .tuple xs) (hu : ∀ d, d ∈ ds → A.units + d.depth < cLine) : SortsAt prog w A s (dataKind s.heap ds) vs := by
  by_cases hn : PyData.tuple [] ∈ ds
  · have one : ∀ f (x y : Value) (a b : (dataKind s.heap ds).α) (E : Value → Shared → Prop) {Q : Bool → Shared → Prop}, (dataKind s.heap ds).keyOf x = some a → (dataKind s.heap ds).keyOf y = some b → Q ((dataKind s.heap ds).blt a b) s → wpAny (model prog w) A (oneLt' f x y) Q E s := by
      intro f x y a b E Q ha hb hq
      obtain ⟨d, as, hd, ra, rfl⟩ := dataKind_inv ha
      obtain ⟨d', as', hd', rb, rfl⟩ := dataKind_inv hb
      obtain ⟨xs, rfl⟩ := hk d hd
      obtain ⟨ys, rfl⟩ := hk d' hd'
      exact oneLt_tups ra rb (hal _ hd _ hd') (Nat.lt_of_le_of_lt (Nat.add_le_add_left (Nat.min_le_left _ _) _) (hu _ hd)) hq
    refine ⟨fun v hv => ?_, ?_⟩
    · obtain ⟨d, hd, as, r⟩ := e.left v hv
      exact ⟨_, dataKind_some hal hd r⟩
    · obtain ⟨fs, f1, f2, f3⟩ := firsts_tups (prog := prog) (w := w) (A := A) e hk
      have hno : ¬ (fs.toArray.all (·.isSome) = true) := by
        intro z
        have z' : fs.all (·.isSome) = true := by simpa using z
        have := List.all_eq_true.mp z' _ (f2 hn)
        simp at this
      refine ⟨if (fs.toArray[0]?.bind id).isSome = true then general' else oneType', ?_, fun h2 E' Q hq => ?_⟩
      · intro E' x y a b Q ha hb hq
        split
        · exact one false x y a b E' ha hb hq
        · exact one true x y a b E' ha hb hq
      · rw [keyKind'_eq, List.mapM_toArray, map_eq_pure_bind]
        refine wpAny_bind (wpAny_bind (f3 E' (wpAny_pure ?_)))
        rw [if_neg hno]
        by_cases hp : (fs.toArray[0]?.bind id).isSome = true
        · rw [if_pos hp]
          rw [if_pos hp] at hq
          exact wpAny_pure hq
        · rw [if_neg hp]
          rw [if_neg hp] at hq
          obtain ⟨v₁, v₂, rest, rfl⟩ : ∃ v₁ v₂ rest, vs = v₁ :: v₂ :: rest := by
            match vs, h2 with
            | [], h2 => simp at h2
            | [_], h2 => simp at h2
            | v₁ :: v₂ :: rest, _ => exact ⟨v₁, v₂, rest, rfl⟩
          have hT : ∀ v ∈ v₁ :: v₂ :: rest, Looks (model prog w) s.heap (typeOf v) (Value.type "tuple") := by
            intro v hv
            obtain ⟨d, hd, as, r⟩ := e.left v hv
            obtain ⟨xs, rfl⟩ := hk d hd
            exact looks_reads r
          rw [oneTypeOnly'_eq, List.mapM_toArray, map_eq_pure_bind]
          refine wpAny_bind (wpAny_bind (wpAny_bind (kas_mapM (r := Value.type "tuple") _ (fun v hv Q' hq => (hT v hv).here hq) (wpAny_pure ?_))))
          have hall : ((List.map (fun _ => Value.type "tuple") (v₁ :: v₂ :: rest)).toArray.all fun x => x == Value.type "tuple") = true := by
            simp only [List.all_toArray, List.all_map, List.all_eq_true]
            intro _ _
            exact beq_self_eq_true _
          have h0 : (List.map (fun _ => Value.type "tuple") (v₁ :: v₂ :: rest)).toArray[0]? = some (Value.type "tuple") := by simp
          rw [h0]
          simp only [hall, if_true]
          exact wpAny_pure (wpAny_pure hq)
  · exact SortsAt.data e hal (.inl fun d hd => by
      obtain ⟨xs, rfl⟩ := hk d hd
      cases xs with
      | nil => exact absurd hd hn
      | cons x r => exact ⟨x, r, rfl⟩) hu
end

/-! ### the rules -/
def rLtD (K : PySem.W.Frag) : R2 := fun x y H Q => ∃ d e, Dp K H x d ∧ Dp K H y e ∧ alike d e = true ∧ d ≠ .none ∧ min d.depth e.depth ≤ 32 ∧ Q (.bl (dataLt d e)) H
def zLtD (K : PySem.W.Frag) : R2 := fun x y H Q => zLt x y H Q ∨ rLtD K x y H Q
def bsrt (bs : List (V × PyData)) : Prop := bs.Pairwise fun p q => dataLt q.2 p.2 = false
def rSortedD (K : PySem.W.Frag) : List V → Hp → VK → Prop := fun vs H Q => ∃ (a : Addr) (xs : List V) (ds : List PyData), vs = [V.ref a] ∧ SqL K H a xs ∧ DpAll K H xs ds ∧ AllAlike ds ∧ (∀ d, d ∈ ds → (∃ ys, d = .tuple ys) ∧ d.depth ≤ 32) ∧
  ∀ (bs : List (V × PyData)) (p : Addr), bs.Perm (xs.zip ds) → bsrt bs → H p = none → Q (.ref p) (upd H p (.lst (bs.map Prod.fst)))
theorem dp_zip {K : PySem.W.Frag} {H : Hp} : ∀ {xs : List V} {ds : List PyData}, DpAll K H xs ds → ∀ p ∈ xs.zip ds, Dp K H p.1 p.2
  | _, _, .nil => fun p hp => absurd hp (by simp)
  | _, _, .cons h t => fun p hp => by
    rcases List.mem_cons.mp hp with rfl | hp
    · exact h
    · exact dp_zip t p hp
theorem dp_len {K : PySem.W.Frag} {H : Hp} : ∀ {xs : List V} {ds : List PyData}, DpAll K H xs ds → xs.length = ds.length
  | _, _, .nil => rfl
  | _, _, .cons h t => by rw [List.length_cons, List.length_cons, dp_len t]
theorem each_zip {K : PySem.W.Frag} {H : Hp} : ∀ {xs : List V} {ds : List PyData} {us : List Value}, DpAll K H xs ds → Vals xs us → EachIs (fun u (b : V × PyData) => RelV b.1 u ∧ Dp K H b.1 b.2) us (xs.zip ds)
  | _, _, _, .nil, .nil => .nil
  | _, _, _, .cons h t, .cons r rs => .cons ⟨r, h⟩ (each_zip t rs)
theorem vals_each {K : PySem.W.Frag} {H : Hp} : ∀ {bs : List (V × PyData)} {us : List Value}, EachIs (fun u (b : V × PyData) => RelV b.1 u ∧ Dp K H b.1 b.2) us bs → Vals (bs.map Prod.fst) us
  | _, _, .nil => .nil
  | _, _, .cons h t => .cons h.1 (vals_each t)
section
variable {X : Cx}
theorem op_ltD (hu : X.A.units + 64 < cLine) : OpR X (compareOp .Lt) (rLtD X.K) := by
  intro pins s σ H x y v u Q I rx ry h
  obtain ⟨d, e, hd, he, al, nn, dp, q⟩ := h
  obtain ⟨as, r1⟩ := Dp.reads I d x v hd rx
  obtain ⟨bs, r2⟩ := Dp.reads I e y u he ry
  exact PySem.W.lt_data r1 r2 al nn (by omega) ⟨.bl _, H, I, rfl, q⟩
theorem op_zLtD (hu : X.A.units + 64 < cLine) : OpR X (compareOp .Lt) (zLtD X.K) := OpR.or op_zLt (op_ltD hu)
theorem call_sortedD (hu : X.A.units + 64 < cLine) : CallR X (.builtin "sorted") (rSortedD X.K) := by
  intro pins s σ H vs us Q I r h
  obtain ⟨a, xs, ds, rfl, hs, hd, hal, hk, q⟩ := h
  obtain ⟨its, rv, hl, hz⟩ := I.list hs
  rw [Vals.ref1 r]
  have lz := dp_len hd
  have e := each_zip hd rv
  have er : EachIs (fun v (b : V × PyData) => ∃ as, Reads s.heap v b.2 as) its (xs.zip ds) := e.mono fun u b h => Dp.reads I b.2 b.1 u h.2 h.1
  have hm : (xs.zip ds).map Prod.snd = ds := by rw [List.map_snd_zip (by omega)]
  have er' : EachIs (fun v (b : V × PyData) => ∃ as, Reads (sortingHeap (copyHeap s.heap its) (s.heap.objs.size + 1) its) v b.2 as) its (xs.zip ds) := er.mono fun _ _ ⟨as, r⟩ => ⟨as, PyProof.Rows.Reads.keeps (fun _ _ => sorting_copy_old) r⟩
  have hal' : AllAlike ((xs.zip ds).map Prod.snd) := by rw [hm]; exact hal
  have eo := sortVals_data false e er' hal'
  have ln : its.length ≤ sizeLine := by rw [← rv.length]; exact hz
  have S := SortsAt.tups (prog := X.prog) (w := X.w) (A := X.A.in1.in1) (s := { s with heap := sortingHeap (copyHeap s.heap its) (s.heap.objs.size + 1) its }) (each_map (R := fun v d => ∃ as, Reads (sortingHeap (copyHeap s.heap its) (s.heap.objs.size + 1) its) v d as) Prod.snd er') hal'
    (fun d hd => by rw [hm] at hd; exact (hk d hd).1) (fun d hd => by
      rw [hm] at hd
      have h1 := (hk d hd).2
      have h2 : X.A.in1.in1.units = X.A.units + 2 := rfl
      omega)
  refine sorted_vals hl.isList S ln ?_
  obtain ⟨ep, he'⟩ := PyProof.Rows.sortedAll_at s.heap its (sortVals (dataKind (sortingHeap (copyHeap s.heap its) (s.heap.objs.size + 1) its) ((xs.zip ds).map Prod.snd)) false its its).toArray
  have hp : ((xs.zip ds).mergeSort (dataLe false Prod.snd)).Perm (xs.zip ds) := List.mergeSort_perm _ _
  refine ⟨.ref _, upd H (s.heap.objs.size + 1) (.lst (((xs.zip ds).mergeSort (dataLe false Prod.snd)).map Prod.fst)), I.laid (t' := s.toks) (fun _ _ => PyProof.Rows.sortedAll_old) (Nat.le_succ _) ⟨?_, _, ep, vals_each eo, ?_⟩, rfl, q _ _ hp ?_ (I.hok.fresh (Nat.le_succ _))⟩
  · rw [List.length_map, hp.length_eq, List.length_zip]
    exact Nat.le_trans (Nat.min_le_left _ _) hz
  · exact he'
  · refine (sort_pairwise (sortLe_total (listOrd itemOrd) false fun b : V × PyData => keyToks b.2) (xs.zip ds)).imp fun h => ?_
    simpa [sortLe, dataLt] using h
end
end Z
namespace Z
open PySem PySem.Spec PyProof.Rows L2
def top (i : Nat) : Stmt := PySem.Challenge.pw_falsedefaults_k43_pairs_in_order.main.body.getD i (.Pass ⟨0, 0, 0, 0⟩)
abbrev s_BadPair_init : Stmt := inClass (top 1) 0
abbrev s_is_int : Stmt := top 4
abbrev s_is_part : Stmt := top 6
abbrev s_is_pair_row : Stmt := top 7
abbrev s_normal_rows : Stmt := top 8
abbrev s_are_alike_in_kind : Stmt := top 9
abbrev s_is_instance : Stmt := top 10
abbrev s_rank_of : Stmt := top 11
abbrev s_Pair_init : Stmt := inClass (top 12) 0
abbrev s_Pair_made : Stmt := inClass (top 12) 1
abbrev s_Pair_rank : Stmt := inClass (top 12) 2
abbrev s_Pair_eq : Stmt := inClass (top 12) 3
abbrev s_Pair_contains : Stmt := inClass (top 12) 4
abbrev s_law_digits : Stmt := top 14
abbrev s_law_take : Stmt := top 15
abbrev s_law_number : Stmt := top 16
abbrev s_law_drawn : Stmt := top 17
abbrev s_law_before : Stmt := top 18
abbrev s_law_is_less : Stmt := top 19
abbrev s_law : Stmt := top 20
structure Ads where
  f_BadPair_init : Addr
  d_BadPair_init : FuncData
  f_is_int : Addr
  d_is_int : FuncData
  f_is_part : Addr
  d_is_part : FuncData
  f_is_pair_row : Addr
  d_is_pair_row : FuncData
  f_normal_rows : Addr
  d_normal_rows : FuncData
  f_are_alike_in_kind : Addr
  d_are_alike_in_kind : FuncData
  f_is_instance : Addr
  d_is_instance : FuncData
  f_rank_of : Addr
  d_rank_of : FuncData
  f_Pair_init : Addr
  d_Pair_init : FuncData
  f_Pair_made : Addr
  d_Pair_made : FuncData
  f_Pair_rank : Addr
  d_Pair_rank : FuncData
  f_Pair_eq : Addr
  d_Pair_eq : FuncData
  f_Pair_contains : Addr
  d_Pair_contains : FuncData
  f_law_digits : Addr
  d_law_digits : FuncData
  f_law_take : Addr
  d_law_take : FuncData
  f_law_number : Addr
  d_law_number : FuncData
  f_law_drawn : Addr
  d_law_drawn : FuncData
  f_law_before : Addr
  d_law_before : FuncData
  f_law_is_less : Addr
  d_law_is_less : FuncData
  f_law : Addr
  d_law : FuncData
  c_BadPair : Addr
  c_Pair : Addr
  p_Pair_made : Addr
  p_Pair_rank : Addr
structure Txt (K : PySem.W.Frag) (mg : Str → Option Value) (g : Ads) : Prop where
  f_BadPair_init : Fun K "__init__" "BadPair.__init__" s_BadPair_init g.f_BadPair_init g.d_BadPair_init
  e_BadPair_init : Binds K g.d_BadPair_init ["self", "index"] []
  f_is_int : Fun K "is_int" "is_int" s_is_int g.f_is_int g.d_is_int
  e_is_int : Binds K g.d_is_int ["thing"] []
  g_is_int : mg "is_int" = some (.ref g.f_is_int)
  k_is_int : PySem.W.keepIn K (.ref g.f_is_int) = true
  f_is_part : Fun K "is_part" "is_part" s_is_part g.f_is_part g.d_is_part
  e_is_part : Binds K g.d_is_part ["thing"] []
  g_is_part : mg "is_part" = some (.ref g.f_is_part)
  k_is_part : PySem.W.keepIn K (.ref g.f_is_part) = true
  f_is_pair_row : Fun K "is_pair_row" "is_pair_row" s_is_pair_row g.f_is_pair_row g.d_is_pair_row
  e_is_pair_row : Binds K g.d_is_pair_row ["thing"] []
  g_is_pair_row : mg "is_pair_row" = some (.ref g.f_is_pair_row)
  k_is_pair_row : PySem.W.keepIn K (.ref g.f_is_pair_row) = true
  f_normal_rows : Fun K "normal_rows" "normal_rows" s_normal_rows g.f_normal_rows g.d_normal_rows
  e_normal_rows : Binds K g.d_normal_rows ["rows"] []
  g_normal_rows : mg "normal_rows" = some (.ref g.f_normal_rows)
  k_normal_rows : PySem.W.keepIn K (.ref g.f_normal_rows) = true
  f_are_alike_in_kind : Fun K "are_alike_in_kind" "are_alike_in_kind" s_are_alike_in_kind g.f_are_alike_in_kind g.d_are_alike_in_kind
  e_are_alike_in_kind : Binds K g.d_are_alike_in_kind ["wide", "given"] []
  g_are_alike_in_kind : mg "are_alike_in_kind" = some (.ref g.f_are_alike_in_kind)
  k_are_alike_in_kind : PySem.W.keepIn K (.ref g.f_are_alike_in_kind) = true
  f_is_instance : Fun K "is_instance" "is_instance" s_is_instance g.f_is_instance g.d_is_instance
  e_is_instance : Binds K g.d_is_instance ["wide", "rows"] []
  g_is_instance : mg "is_instance" = some (.ref g.f_is_instance)
  k_is_instance : PySem.W.keepIn K (.ref g.f_is_instance) = true
  f_rank_of : Fun K "rank_of" "rank_of" s_rank_of g.f_rank_of g.d_rank_of
  e_rank_of : Binds K g.d_rank_of ["part"] []
  g_rank_of : mg "rank_of" = some (.ref g.f_rank_of)
  k_rank_of : PySem.W.keepIn K (.ref g.f_rank_of) = true
  f_Pair_init : Fun K "__init__" "Pair.__init__" s_Pair_init g.f_Pair_init g.d_Pair_init
  f_Pair_made : Fun K "made" "Pair.made" s_Pair_made g.f_Pair_made g.d_Pair_made
  e_Pair_made : Binds K g.d_Pair_made ["cls", "rows"] []
  f_Pair_rank : Fun K "rank" "Pair.rank" s_Pair_rank g.f_Pair_rank g.d_Pair_rank
  e_Pair_rank : Binds K g.d_Pair_rank ["pair"] []
  f_Pair_eq : Fun K "__eq__" "Pair.__eq__" s_Pair_eq g.f_Pair_eq g.d_Pair_eq
  e_Pair_eq : Binds K g.d_Pair_eq ["self", "other"] []
  f_Pair_contains : Fun K "__contains__" "Pair.__contains__" s_Pair_contains g.f_Pair_contains g.d_Pair_contains
  e_Pair_contains : Binds K g.d_Pair_contains ["self", "other"] []
  f_law_digits : Fun K "_law_digits" "_law_digits" s_law_digits g.f_law_digits g.d_law_digits
  e_law_digits : Binds K g.d_law_digits ["script", "at"] []
  g_law_digits : mg "_law_digits" = some (.ref g.f_law_digits)
  k_law_digits : PySem.W.keepIn K (.ref g.f_law_digits) = true
  f_law_take : Fun K "_law_take" "_law_take" s_law_take g.f_law_take g.d_law_take
  e_law_take : Binds K g.d_law_take ["bag", "many"] []
  g_law_take : mg "_law_take" = some (.ref g.f_law_take)
  k_law_take : PySem.W.keepIn K (.ref g.f_law_take) = true
  f_law_number : Fun K "_law_number" "_law_number" s_law_number g.f_law_number g.d_law_number
  e_law_number : Binds K g.d_law_number ["bag"] []
  g_law_number : mg "_law_number" = some (.ref g.f_law_number)
  k_law_number : PySem.W.keepIn K (.ref g.f_law_number) = true
  f_law_drawn : Fun K "_law_drawn" "_law_drawn" s_law_drawn g.f_law_drawn g.d_law_drawn
  e_law_drawn : Binds K g.d_law_drawn ["bag", "many"] []
  g_law_drawn : mg "_law_drawn" = some (.ref g.f_law_drawn)
  k_law_drawn : PySem.W.keepIn K (.ref g.f_law_drawn) = true
  f_law_before : Fun K "_law_before" "_law_before" s_law_before g.f_law_before g.d_law_before
  e_law_before : Binds K g.d_law_before ["one", "other"] []
  g_law_before : mg "_law_before" = some (.ref g.f_law_before)
  k_law_before : PySem.W.keepIn K (.ref g.f_law_before) = true
  f_law_is_less : Fun K "_law_is_less" "_law_is_less" s_law_is_less g.f_law_is_less g.d_law_is_less
  e_law_is_less : Binds K g.d_law_is_less ["one", "other"] []
  g_law_is_less : mg "_law_is_less" = some (.ref g.f_law_is_less)
  k_law_is_less : PySem.W.keepIn K (.ref g.f_law_is_less) = true
  f_law : Fun K "law" "law" s_law g.f_law g.d_law
  e_law : Binds K g.d_law ["script"] []
  g_law : mg "law" = some (.ref g.f_law)
  k_law : PySem.W.keepIn K (.ref g.f_law) = true
  g_BadPair : mg "BadPair" = some (.ref g.c_BadPair)
  o_BadPair : OexC K g.c_BadPair
  x_BadPair : XfC K g.c_BadPair
  h_BadPair : PySem.W.exmOne K (.ref g.c_BadPair) (.ref g.c_BadPair) = some true
  i_BadPair : PySem.W.findIn K (.ref g.c_BadPair) "__init__" = some (some (.ref g.f_BadPair_init))
  t_BadPair : PySem.W.typeIn K (.ref g.f_BadPair_init) = some (.type "function")
  a_BadPair_index : PySem.W.findIn K (.ref g.c_BadPair) "index" = some none
  g_Pair : mg "Pair" = some (.ref g.c_Pair)
  cl_Pair : Cls K g.c_Pair
  ci_Pair : CIns K g.c_Pair
  ne_Pair : OwnNe K g.c_Pair g.f_Pair_eq
  kt_Pair_NoneType : PySem.W.kitOne K (.type "NoneType") (.ref g.c_Pair) = some false
  kt_Pair_str : PySem.W.kitOne K (.type "str") (.ref g.c_Pair) = some false
  kt_Pair_list : PySem.W.kitOne K (.type "list") (.ref g.c_Pair) = some false
  kt_Pair_tuple : PySem.W.kitOne K (.type "tuple") (.ref g.c_Pair) = some false
  na_Pair_rows : NoAttr K g.c_Pair "rows"
  na_Pair_apart : NoAttr K g.c_Pair "apart"
  m_Pair : Mk K g.c_Pair g.f_Pair_init
  cm_Pair_made : ClX.CMet K g.c_Pair (.type "type") "made" g.p_Pair_made g.f_Pair_made
  sm_Pair_rank : SMet K g.c_Pair (.type "type") "rank" g.p_Pair_rank g.f_Pair_rank
  a_Pair_eq : PySem.W.findIn K (.ref g.c_Pair) "__eq__" = some (some (.ref g.f_Pair_eq))
  i_Pair_eq : PySem.W.isFn K (.ref g.f_Pair_eq) = true
  a_Pair_contains : PySem.W.findIn K (.ref g.c_Pair) "__contains__" = some (some (.ref g.f_Pair_contains))
  i_Pair_contains : PySem.W.isFn K (.ref g.f_Pair_contains) = true
  cr_Pair : ClX.CRead K g.c_Pair (.type "type")
  n_BEYOND : ∃ t, mg "BEYOND" = some (.int 100000000000000000000 t)
  b_abs : mg "abs" = none
  b_bool : mg "bool" = none
  b_enumerate : mg "enumerate" = none
  b_int : mg "int" = none
  b_isinstance : mg "isinstance" = none
  b_len : mg "len" = none
  b_list : mg "list" = none
  b_max : mg "max" = none
  b_min : mg "min" = none
  b_range : mg "range" = none
  b_sorted : mg "sorted" = none
  b_str : mg "str" = none
  b_tuple : mg "tuple" = none
  b_zip : mg "zip" = none
theorem sc_is_int : FnScope ["thing"] ["thing"] (defScope s_is_int) := ⟨rfl, rfl, rfl, by decide +kernel, rfl, by decide +kernel, by decide +kernel⟩
def R_is_int (K : PySem.W.Frag) (g : Ads) (E : XK) : TS :=
  (tRet (zAndV (zIsiT K .int (zVar 0)) (zAndV (zNotV (zIsiT K .bool (zVar 0))) (zChain zLt zLt (zNeg (tC (.int 100000000000000000000))) (zVar 0) (tC (.int 100000000000000000000))))))
def rw_is_int (K : PySem.W.Frag) (g : Ads) : Sp := fun vs H Q E => vs.length = 1 ∧ R_is_int K g E { nx := fun _ H' => Q .non H', rt := Q } (start ["thing"] vs) H
theorem raw_is_int {P : Program} {w : World} {K : PySem.W.Frag} {mg : Str → Option Value} {base : Heap} {g : Ads} (T : Txt K mg g) : FnG false P w K mg base 1 g.f_is_int g.d_is_int ["thing"] (rw_is_int K g) := by
  refine okZ T.f_is_int sc_is_int (fun vs H Q E h => h.1) (fun cdv A outer s H vs Q E hr hgu h => ⟨R_is_int K g E, ?_, h.2⟩)
  exact (pss_one (ps_ret (pez_and (pe_isi (kd := .int) (zv 0) (by rfl) T.b_isinstance (by decide +kernel) (by rfl) T.b_int (by decide +kernel)) (pez_and (pez_not (pe_isi (kd := .bool) (zv 0) (by rfl) T.b_isinstance (by decide +kernel) (by rfl) T.b_bool (by decide +kernel))) (pe_one (pez_chain op_zLt op_zLt (pez_neg (pe_cint rfl T.n_BEYOND)) (zv 0) (pe_cint rfl T.n_BEYOND)))))))
theorem sc_normal_rows : FnScope ["rows", "clean", "failing", "names", "many", "found", "row", "shown", "part", "is_across"] ["rows"] (defScope s_normal_rows) := ⟨rfl, rfl, rfl, by decide +kernel, rfl, by decide +kernel, by decide +kernel⟩
def R_normal_rows_13 (P : Program) (w : World) (K : PySem.W.Frag) (g : Ads) (E : XK) : TS :=
  (tAug 4 (tC (.int 1)) (ipI fun i j => i + j))
def R_normal_rows_12 (P : Program) (w : World) (K : PySem.W.Frag) (g : Ads) (E : XK) : TS :=
  (tSeq (sDPut (zVar 3) (zVar 8) (fun σ H Q => tJs [(tC (.str "v")), (tFmt (zVar 4))] Str.empty σ H fun out H1 => Q (.str out) H1))
  (R_normal_rows_13 P w K g E))
def R_normal_rows_14 (P : Program) (w : World) (K : PySem.W.Frag) (g : Ads) (E : XK) : TS :=
  (tDrop (tBM K "list" rAppend (zVar 7) (tCons (tDGet (zVar 3) (zVar 8)) tNil)))
def R_normal_rows_11 (P : Program) (w : World) (K : PySem.W.Frag) (g : Ads) (E : XK) : TS :=
  (tSeq (tIfS (tOr (tNot (zTru K (zVar 9))) (zTest (tOp (zDIn true) (zVar 8) (zVar 3))))
  (R_normal_rows_12 P w K g E)
  tNext)
  (R_normal_rows_14 P w K g E))
def R_normal_rows_10 (P : Program) (w : World) (K : PySem.W.Frag) (g : Ads) (E : XK) : TS :=
  (tSeq (tAsg (zAndV (tOp (rSInK P w false) (zVar 8) (zVar 1)) (tOp (rSInK P w false) (zVar 8) (zVar 2))) (gName 9))
  (R_normal_rows_11 P w K g E))
def R_normal_rows_16 (P : Program) (w : World) (K : PySem.W.Frag) (g : Ads) (E : XK) : TS :=
  (tDrop (tBM K "list" rAppend (zVar 7) (tCons (zVar 8) tNil)))
def R_normal_rows_9 (P : Program) (w : World) (K : PySem.W.Frag) (g : Ads) (E : XK) : TS :=
  (tIfS (zTru K (zIsiT K .str (zVar 8)))
  (R_normal_rows_10 P w K g E)
  (R_normal_rows_16 P w K g E))
def R_normal_rows_17 (P : Program) (w : World) (K : PySem.W.Frag) (g : Ads) (E : XK) : TS :=
  (tDrop (tBM K "list" rAppend (zVar 5) (tCons (tCB (zTupOf K) (tCons (zVar 7) tNil)) tNil)))
def R_normal_rows_8 (P : Program) (w : World) (K : PySem.W.Frag) (g : Ads) (E : XK) : TS :=
  (tSeq (zFor (iTup K (zVar 6)) (gName 8)
  (R_normal_rows_9 P w K g E))
  (R_normal_rows_17 P w K g E))
def R_normal_rows_7 (P : Program) (w : World) (K : PySem.W.Frag) (g : Ads) (E : XK) : TS :=
  (tSeq (tAsg (tLst tNil) (gName 7))
  (R_normal_rows_8 P w K g E))
def R_normal_rows_18 (P : Program) (w : World) (K : PySem.W.Frag) (g : Ads) (E : XK) : TS :=
  (tRet (tCB (zTupOf K) (tCons (zVar 5) tNil)))
def R_normal_rows_6 (P : Program) (w : World) (K : PySem.W.Frag) (g : Ads) (E : XK) : TS :=
  (tSeq (zFor (iTup K (zVar 0)) (gName 6)
  (R_normal_rows_7 P w K g E))
  (R_normal_rows_18 P w K g E))
def R_normal_rows_5 (P : Program) (w : World) (K : PySem.W.Frag) (g : Ads) (E : XK) : TS :=
  (tSeq (tAsg (tLst tNil) (gName 5))
  (R_normal_rows_6 P w K g E))
def R_normal_rows_4 (P : Program) (w : World) (K : PySem.W.Frag) (g : Ads) (E : XK) : TS :=
  (tSeq (tAsg (tC (.int 0)) (gName 4))
  (R_normal_rows_5 P w K g E))
def R_normal_rows_3 (P : Program) (w : World) (K : PySem.W.Frag) (g : Ads) (E : XK) : TS :=
  (tSeq (tAsg tDNewK (gName 3))
  (R_normal_rows_4 P w K g E))
def R_normal_rows_2 (P : Program) (w : World) (K : PySem.W.Frag) (g : Ads) (E : XK) : TS :=
  (tSeq (tAsg (zSc P w (iTup K (zVar 0)) (gName 6) (zTru K (zIsiT K .str (tOp (zIx K) (zVar 6) (tC (.int 1))))) (tOp (zIx K) (zVar 6) (tC (.int 1))) [6]) (gName 2))
  (R_normal_rows_3 P w K g E))
def R_normal_rows (P : Program) (w : World) (K : PySem.W.Frag) (g : Ads) (E : XK) : TS :=
  (tSeq (tAsg (zSc P w (iTup K (zVar 0)) (gName 6) (zTru K (zIsiT K .str (tOp (zIx K) (zVar 6) (tC (.int 0))))) (tOp (zIx K) (zVar 6) (tC (.int 0))) [6]) (gName 1))
  (R_normal_rows_2 P w K g E))
def rw_normal_rows (P : Program) (w : World) (K : PySem.W.Frag) (g : Ads) : Sp := fun vs H Q E => vs.length = 1 ∧ R_normal_rows P w K g E { nx := fun _ H' => Q .non H', rt := Q } (start ["rows", "clean", "failing", "names", "many", "found", "row", "shown", "part", "is_across"] vs) H
theorem raw_normal_rows {P : Program} {w : World} {K : PySem.W.Frag} {mg : Str → Option Value} {base : Heap} {g : Ads} (T : Txt K mg g) : FnG false P w K mg base 1 g.f_normal_rows g.d_normal_rows ["rows"] (rw_normal_rows P w K g) := by
  refine okZ T.f_normal_rows sc_normal_rows (fun vs H Q E h => h.1) (fun cdv A outer s H vs Q E hr hgu h => ⟨R_normal_rows P w K g E, ?_, h.2⟩)
  exact (pss_cons (psz_setSc (i := 1) (own := [("row", 6)]) rfl sc_normal_rows.nd rfl rfl (sw_sc rfl rfl rfl (by decide +kernel)) (pi_tup (zv 0)) (blkOk_by (own := [("row", 6)]) (N := ["rows", "clean", "failing", "names", "many", "found", "row", "shown", "part", "is_across"]) (sc := defScope s_normal_rows) (by decide +kernel)) (fun _ _ _ _ _ => pg_name (i := 6) sc_normal_rows.nd rfl (Or.inl rfl)) (fun _ _ _ _ _ => pts_one (ptz_truth (pe_isi (kd := .str) (pe_ix ix_z (zv 6) pe_int (fun _ _ => rfl)) (by rfl) T.b_isinstance (by decide +kernel) (by rfl) T.b_str (by decide +kernel)) (by intro _; rfl))) (fun _ _ _ _ _ => (pe_ix ix_z (zv 6) pe_int (fun _ _ => rfl))))
  (pss_cons (psz_setSc (i := 2) (own := [("row", 6)]) rfl sc_normal_rows.nd rfl rfl (sw_sc rfl rfl rfl (by decide +kernel)) (pi_tup (zv 0)) (blkOk_by (own := [("row", 6)]) (N := ["rows", "clean", "failing", "names", "many", "found", "row", "shown", "part", "is_across"]) (sc := defScope s_normal_rows) (by decide +kernel)) (fun _ _ _ _ _ => pg_name (i := 6) sc_normal_rows.nd rfl (Or.inl rfl)) (fun _ _ _ _ _ => pts_one (ptz_truth (pe_isi (kd := .str) (pe_ix ix_z (zv 6) pe_int (fun _ _ => rfl)) (by rfl) T.b_isinstance (by decide +kernel) (by rfl) T.b_str (by decide +kernel)) (by intro _; rfl))) (fun _ _ _ _ _ => (pe_ix ix_z (zv 6) pe_int (fun _ _ => rfl))))
  (pss_cons (ps_set (i := 3) sc_normal_rows.nd rfl (Or.inl rfl) pe_dnewK)
  (pss_cons (ps_set (i := 4) sc_normal_rows.nd rfl (Or.inl rfl) pe_int)
  (pss_cons (ps_set (i := 5) sc_normal_rows.nd rfl (Or.inl rfl) (pe_lst pa_nil))
  (pss_cons (psz_for PassesOwn.leaving rfl (pi_tup (zv 0)) (pg_name (i := 6) sc_normal_rows.nd rfl (Or.inl rfl))
  (pss_cons (ps_set (i := 7) sc_normal_rows.nd rfl (Or.inl rfl) (pe_lst pa_nil))
  (pss_cons (psz_for PassesOwn.leaving rfl (pi_tup (zv 6)) (pg_name (i := 8) sc_normal_rows.nd rfl (Or.inl rfl))
  (pss_one (ps_if (ptz_truth (pe_isi (kd := .str) (zv 8) (by rfl) T.b_isinstance (by decide +kernel) (by rfl) T.b_str (by decide +kernel)) (by intro _; rfl))
  (pss_cons (ps_set (i := 9) sc_normal_rows.nd rfl (Or.inl rfl) (pez_and (pe_cmpR or_sinK (zv 8) (zv 1) (by rfl)) (pe_one (pe_cmpR or_sinK (zv 8) (zv 2) (by rfl)))))
  (pss_cons (ps_if (PW.pt (pw_or (pt_not (ptz_truth (zv 9) (by intro _; rfl))) (pw_or1 (ptz_cmp (op_zDNin (hu_of hr)) (zv 8) (zv 3) (by rfl)))))
  (pss_cons (ps_dput (hu_of hr) (zv 3) (zv 8) (pe_joined (PJ.cons pe_str (PJ.cons (pe_fmt (zv 4)) PJ.nil))) (by rfl))
  (pss_one (ps_aug (i := 4) sc_normal_rows.nd rfl (Or.inl rfl) pe_int ip_add)))
  pss_nil)
  (pss_one (ps_expr (pe_bm PySem.F.plainAttrs_list PySem.F.slot_list_append PySem.F.type_list_append mt_append (zv 7) (pa_cons (pe_dget (hu_of hr) (zv 3) (zv 8) (fun _ _ => rfl)) pa_nil))))))
  (pss_one (ps_expr (pe_bm PySem.F.plainAttrs_list PySem.F.slot_list_append PySem.F.type_list_append mt_append (zv 7) (pa_cons (zv 8) pa_nil)))))))
  (pss_one (ps_expr (pe_bm PySem.F.plainAttrs_list PySem.F.slot_list_append PySem.F.type_list_append mt_append (zv 5) (pa_cons (pe_callTy call_tupZ (by rfl) T.b_tuple (by decide +kernel) (pa_cons (zv 7) pa_nil)) pa_nil)))))))
  (pss_one (ps_ret (pe_callTy call_tupZ (by rfl) T.b_tuple (by decide +kernel) (pa_cons (zv 5) pa_nil))))))))))
theorem sc_are_alike_in_kind : FnScope ["wide", "given"] ["wide", "given"] (defScope s_are_alike_in_kind) := ⟨rfl, rfl, rfl, by decide +kernel, rfl, by decide +kernel, by decide +kernel⟩
def R_are_alike_in_kind_2 (K : PySem.W.Frag) (g : Ads) (E : XK) : TS :=
  (tRet (zAndV (tOp zIs (zVar 0) (tC .non)) (tOp zIs (zVar 1) (tC .non))))
def R_are_alike_in_kind_3 (K : PySem.W.Frag) (g : Ads) (E : XK) : TS :=
  (tRet (zOrV (zIsiT K .str (zVar 0)) (tOp (zEq K) (zVar 0) (zVar 1))))
def R_are_alike_in_kind (K : PySem.W.Frag) (g : Ads) (E : XK) : TS :=
  (tSeq (tIfS (tOr (zTest (tOp zIs (zVar 0) (tC .non))) (zTest (tOp zIs (zVar 1) (tC .non))))
  (R_are_alike_in_kind_2 K g E)
  tNext)
  (R_are_alike_in_kind_3 K g E))
def rw_are_alike_in_kind (K : PySem.W.Frag) (g : Ads) : Sp := fun vs H Q E => vs.length = 2 ∧ R_are_alike_in_kind K g E { nx := fun _ H' => Q .non H', rt := Q } (start ["wide", "given"] vs) H
theorem raw_are_alike_in_kind {P : Program} {w : World} {K : PySem.W.Frag} {mg : Str → Option Value} {base : Heap} {g : Ads} (T : Txt K mg g) : FnG false P w K mg base 1 g.f_are_alike_in_kind g.d_are_alike_in_kind ["wide", "given"] (rw_are_alike_in_kind K g) := by
  refine okZ T.f_are_alike_in_kind sc_are_alike_in_kind (fun vs H Q E h => h.1) (fun cdv A outer s H vs Q E hr hgu h => ⟨R_are_alike_in_kind K g E, ?_, h.2⟩)
  exact (pss_cons (ps_if (PW.pt (pw_or (ptz_cmp op_zIs (zv 0) pe_non (nomark _)) (pw_or1 (ptz_cmp op_zIs (zv 1) pe_non (nomark _)))))
  (pss_one (ps_ret (pez_and (pe_cmpR op_zIs (zv 0) pe_non (nomark _)) (pe_one (pe_cmpR op_zIs (zv 1) pe_non (nomark _))))))
  pss_nil)
  (pss_one (ps_ret (pez_or (pe_isi (kd := .str) (zv 0) (by rfl) T.b_isinstance (by decide +kernel) (by rfl) T.b_str (by decide +kernel)) (pe_one (pe_cmpR (op_zEq hr.units) (zv 0) (zv 1) (nomark _)))))))
end Z
namespace Z
open PySem PySem.Spec PyProof.Rows L2
/-! ### rows and their normal form, in plain Lean -/
inductive Prt where
  | non
  | int (i : Int)
  | str (z : Str)
deriving DecidableEq
abbrev Rw := Prt × Prt
def Prt.v : Prt → V
  | .non => .non | .int i => .int i | .str z => .str z
theorem Prt.v_inj : ∀ {a b : Prt}, a.v = b.v → a = b
  | .non, .non, _ => rfl
  | .int i, .int j, h => by cases h; rfl
  | .str x, .str y, h => by cases h; rfl
  | .non, .int _, h => nomatch h | .non, .str _, h => nomatch h | .int _, .non, h => nomatch h
  | .int _, .str _, h => nomatch h | .str _, .non, h => nomatch h | .str _, .int _, h => nomatch h
/-- the name of a variable -/
def vn (n : Nat) : Str := ("v" : Str) ++ Str.ofString (toString (n : Int))
abbrev NS := (Str → Option Nat) × Nat
def nNew (s : NS) (z : Str) : NS := (fun y => if y = z then some s.2 else s.1 y, s.2 + 1)
def nStr (ac : Str → Bool) (s : NS) (z : Str) : Nat × NS := if ac z = true then (match s.1 z with | some k => (k, s) | none => (s.2, nNew s z)) else (s.2, nNew s z)
def nPart (ac : Str → Bool) (s : NS) : Prt → Prt × NS
  | .str z => (.str (vn (nStr ac s z).1), (nStr ac s z).2)
  | p => (p, s)
def nRow (ac : Str → Bool) (s : NS) (p : Rw) : Rw × NS := (((nPart ac s p.1).1, (nPart ac (nPart ac s p.1).2 p.2).1), (nPart ac (nPart ac s p.1).2 p.2).2)
def nRows (ac : Str → Bool) : NS → List Rw → List Rw × NS
  | s, [] => ([], s)
  | s, p :: r => ((nRow ac s p).1 :: (nRows ac (nRow ac s p).2 r).1, (nRows ac (nRow ac s p).2 r).2)
def acr (ps : List Rw) (z : Str) : Bool := (ps.any fun p => decide (p.1 = .str z)) && ps.any fun p => decide (p.2 = .str z)
def ns0 : NS := (fun _ => none, 0)
def norm (ps : List Rw) : List Rw := (nRows (acr ps) ns0 ps).1
theorem nRows_append (ac : Str → Bool) : ∀ (ps qs : List Rw) (s : NS), nRows ac s (ps ++ qs) = ((nRows ac s ps).1 ++ (nRows ac (nRows ac s ps).2 qs).1, (nRows ac (nRows ac s ps).2 qs).2)
  | [], qs, s => by simp [nRows]
  | p :: r, qs, s => by simp [nRows, nRows_append ac r qs]
theorem nRows_length (ac : Str → Bool) : ∀ (ps : List Rw) (s : NS), (nRows ac s ps).1.length = ps.length
  | [], s => rfl
  | p :: r, s => by simp [nRows, nRows_length ac r]

/-! what has been named -/
structure NInv (ac : Str → Bool) (s : NS) (hist : List (Str × Nat)) : Prop where
  lt : ∀ z k, s.1 z = some k → k < s.2
  inj : ∀ z y k, s.1 z = some k → s.1 y = some k → z = y
  old : ∀ e ∈ hist, e.2 < s.2 ∧ (∀ y, s.1 y = some e.2 → y = e.1) ∧ (ac e.1 = true → s.1 e.1 = some e.2)
  dis : ∀ e ∈ hist, ∀ e' ∈ hist, e.2 = e'.2 → e.1 = e'.1
theorem NInv.new {ac : Str → Bool} {s : NS} {hist : List (Str × Nat)} (I : NInv ac s hist) {z : Str} (hz : ac z = true → s.1 z = none) : NInv ac (nNew s z) ((z, s.2) :: hist) where
  lt := fun y k h => by
    simp only [nNew] at h ⊢
    split at h
    · cases h; omega
    · have := I.lt _ _ h; omega
  inj := fun x y k h1 h2 => by
    simp only [nNew] at h1 h2
    split at h1
    · rename_i e1
      split at h2
      · rename_i e2
        rw [e1, e2]
      · cases h1
        have := I.lt _ _ h2; omega
    · split at h2
      · cases h2
        have := I.lt _ _ h1; omega
      · exact I.inj _ _ _ h1 h2
  old := fun e he => by
    rcases List.mem_cons.mp he with rfl | he
    · refine ⟨by simp [nNew], fun y h => ?_, fun _ => by simp [nNew]⟩
      simp only [nNew] at h
      split at h
      · assumption
      · have := I.lt _ _ h
        simp at this
    · obtain ⟨h1, h2, h3⟩ := I.old e he
      refine ⟨by simp only [nNew]; omega, fun y h => ?_, fun ha => ?_⟩
      · simp only [nNew] at h
        split at h
        · have := Option.some.inj h
          omega
        · exact h2 y h
      · have h4 := h3 ha
        simp only [nNew]
        split
        · rename_i e1
          rw [e1] at h4 ha
          rw [hz ha] at h4
          cases h4
        · exact h4
  dis := fun e he e' he' h => by
    rcases List.mem_cons.mp he with rfl | he <;> rcases List.mem_cons.mp he' with rfl | he'
    · rfl
    · have := (I.old e' he').1
      simp only at h; omega
    · have := (I.old e he).1
      simp only at h; omega
    · exact I.dis e he e' he' h
theorem NInv.str {ac : Str → Bool} {s : NS} {hist : List (Str × Nat)} (I : NInv ac s hist) (z : Str) : NInv ac (nStr ac s z).2 ((z, (nStr ac s z).1) :: hist) := by
  unfold nStr
  by_cases ha : ac z = true
  · rw [if_pos ha]
    cases e : s.1 z with
    | none => exact I.new fun _ => e
    | some k =>
      refine ⟨I.lt, I.inj, fun x hx => ?_, fun x hx y hy h => ?_⟩
      · rcases List.mem_cons.mp hx with rfl | hx
        · exact ⟨I.lt _ _ e, fun y h => I.inj _ _ _ h e, fun _ => e⟩
        · exact I.old x hx
      · rcases List.mem_cons.mp hx with rfl | hx <;> rcases List.mem_cons.mp hy with rfl | hy
        · rfl
        · exact (I.old y hy).2.1 z (by rw [e]; exact congrArg some h)
        · exact ((I.old x hx).2.1 z (by rw [e]; exact congrArg some h.symm)).symm
        · exact I.dis x hx y hy h
  · rw [if_neg ha]
    exact I.new fun h => absurd h ha
/-- a part and what it became -/
def Bec (hist : List (Str × Nat)) (p q : Prt) : Prop := (p = q ∧ ∀ z, p ≠ .str z) ∨ ∃ z k, p = .str z ∧ q = .str (vn k) ∧ (z, k) ∈ hist
theorem Bec.mono {h h' : List (Str × Nat)} {p q : Prt} (b : Bec h p q) (i : ∀ e ∈ h, e ∈ h') : Bec h' p q := b.elim .inl fun ⟨z, k, e1, e2, e3⟩ => .inr ⟨z, k, e1, e2, i _ e3⟩
theorem NInv.part {ac : Str → Bool} {s : NS} {hist : List (Str × Nat)} (I : NInv ac s hist) (p : Prt) : ∃ h', NInv ac (nPart ac s p).2 h' ∧ (∀ e ∈ hist, e ∈ h') ∧ Bec h' p (nPart ac s p).1 := by
  cases p with
  | non => exact ⟨hist, I, fun e he => he, .inl ⟨rfl, fun z h => nomatch h⟩⟩
  | int i => exact ⟨hist, I, fun e he => he, .inl ⟨rfl, fun z h => nomatch h⟩⟩
  | str z => exact ⟨_, I.str z, fun e he => List.mem_cons_of_mem _ he, .inr ⟨z, _, rfl, rfl, List.mem_cons_self⟩⟩
abbrev Becs (hist : List (Str × Nat)) : List Rw → List Rw → Prop := Paired fun p q => Bec hist p.1 q.1 ∧ Bec hist p.2 q.2
theorem NInv.rows {ac : Str → Bool} : ∀ (ps : List Rw) {s : NS} {hist : List (Str × Nat)}, NInv ac s hist → ∃ h', NInv ac (nRows ac s ps).2 h' ∧ (∀ e ∈ hist, e ∈ h') ∧ Becs h' ps (nRows ac s ps).1
  | [], s, hist, I => ⟨hist, I, fun e he => he, .nil⟩
  | p :: r, s, hist, I => by
    obtain ⟨h1, I1, i1, b1⟩ := I.part p.1
    obtain ⟨h2, I2, i2, b2⟩ := I1.part p.2
    obtain ⟨h3, I3, i3, b3⟩ := NInv.rows r I2
    exact ⟨h3, I3, fun e he => i3 _ (i2 _ (i1 _ he)), .cons ⟨b1.mono fun e he => i3 _ (i2 _ he), b2.mono i3⟩ b3⟩

theorem paired_get {α β : Type} {F : α → β → Prop} : ∀ {xs : List α} {ys : List β}, Paired F xs ys → ∀ {i : Nat} {a : α}, xs[i]? = some a → ∃ b, ys[i]? = some b ∧ F a b
  | _, _, .nil, i, a, h => by simp at h
  | _, _, .cons f r, 0, a, h => by
    simp only [List.getElem?_cons_zero, Option.some.injEq] at h
    subst h
    exact ⟨_, rfl, f⟩
  | _, _, .cons f r, i + 1, a, h => by
    simp only [List.getElem?_cons_succ] at h ⊢
    exact paired_get r h
theorem paired_get2 {α β : Type} {F : α → β → Prop} {xs : List α} {ys : List β} (h : Paired F xs ys) {i : Nat} {a : α} {b : β} (h1 : xs[i]? = some a) (h2 : ys[i]? = some b) : F a b := by
  obtain ⟨c, e, f⟩ := paired_get h h1
  rw [h2] at e
  cases e
  exact f
theorem paired_of {α β : Type} {F : α → β → Prop} : ∀ {xs : List α} {ys : List β}, xs.length = ys.length → (∀ (i : Nat) a b, xs[i]? = some a → ys[i]? = some b → F a b) → Paired F xs ys
  | [], [], _, _ => .nil
  | x :: xs, y :: ys, hl, h => .cons (h 0 x y rfl rfl) (paired_of (by simpa using hl) fun i a b h1 h2 => h (i + 1) a b (by simpa using h1) (by simpa using h2))

/-! names are told apart -/
theorem vn_inj {a b : Nat} (h : vn a = vn b) : a = b := by
  have h1 : (("v" : Str).cps ++ (Str.ofString (toString (a : Int))).cps) = (("v" : Str).cps ++ (Str.ofString (toString (b : Int))).cps) := congrArg Str.cps h
  have h2 := (Array.append_right_inj _).mp h1
  rw [Str.ofString_eq_toList, Str.ofString_eq_toList] at h2
  have h3 : (toString (a : Int)).toList.map Char.toNat = (toString (b : Int)).toList.map Char.toNat := by simpa using h2
  have h4 : (toString (a : Int)).toList = (toString (b : Int)).toList := (List.map_inj_right (fun x y e => Char.toNat_inj.mp e)).mp h3
  have e1 : ∀ n : Nat, toString (n : Int) = Nat.repr n := fun n => rfl
  rw [e1, e1, Nat.toList_repr, Nat.toList_repr] at h4
  have := congrArg (fun l => Nat.ofDigitChars 10 l 0) h4
  simpa using this
theorem norm_bec (ps : List Rw) : ∃ hist, Becs hist ps (norm ps) ∧ (∀ e ∈ hist, ∀ e' ∈ hist, e.2 = e'.2 → e.1 = e'.1) ∧ ∀ e ∈ hist, ∀ e' ∈ hist, e.1 = e'.1 → acr ps e.1 = true → e.2 = e'.2 := by
  have I0 : NInv (acr ps) ns0 [] := ⟨fun z k h => by simp [ns0] at h, fun z y k h => by simp [ns0] at h, fun e he => absurd he (by simp), fun e he => absurd he (by simp)⟩
  obtain ⟨h', I, _, b⟩ := NInv.rows ps I0
  refine ⟨h', b, I.dis, fun e he e' he' h ha => ?_⟩
  have h1 := (I.old e he).2.2 ha
  have h2 := (I.old e' he').2.2 (by rw [← h]; exact ha)
  rw [h, h2] at h1
  exact (Option.some.inj h1).symm
theorem norm_length (ps : List Rw) : (norm ps).length = ps.length := nRows_length _ _ _

/-! two rows alike have one normal form -/
def Kq (Z : Str → Str → Prop) (ac ac' : Str → Bool) (p q : Prt) : Prop := (p = q ∧ ∀ z, p ≠ .str z) ∨ ∃ z z', p = .str z ∧ q = .str z' ∧ (Z z z' ∨ (ac z = false ∧ ac' z' = false))
structure Sim (Z : Str → Str → Prop) (s s' : NS) : Prop where
  m : s.2 = s'.2
  f : ∀ z z', Z z z' → s.1 z = s'.1 z'
theorem sim_part {Z : Str → Str → Prop} {ac ac' : Str → Bool} (hZ : ∀ z z' y y', Z z z' → Z y y' → (z = y ↔ z' = y')) (ha : ∀ z z', Z z z' → ac z = true ∧ ac' z' = true) {s s' : NS} (S : Sim Z s s') {p q : Prt} (k : Kq Z ac ac' p q) :
    (nPart ac s p).1 = (nPart ac' s' q).1 ∧ Sim Z (nPart ac s p).2 (nPart ac' s' q).2 := by
  rcases k with ⟨rfl, h⟩ | ⟨z, z', rfl, rfl, h⟩
  · cases p with
    | non => exact ⟨rfl, S⟩
    | int i => exact ⟨rfl, S⟩
    | str z => exact absurd rfl (h z)
  · have new : (∀ y y', Z y y' → (y = z ↔ y' = z')) → Sim Z (nNew s z) (nNew s' z') := fun hy => ⟨by simp [nNew, S.m], fun y y' e => by
      have e1 := hy y y' e
      simp only [nNew]
      by_cases e2 : y = z
      · rw [if_pos e2, if_pos (e1.mp e2), S.m]
      · rw [if_neg e2, if_neg fun e3 => e2 (e1.mpr e3)]
        exact S.f y y' e⟩
    rcases h with h | ⟨h1, h2⟩
    · obtain ⟨a1, a2⟩ := ha z z' h
      have e := S.f z z' h
      simp only [nPart, nStr, a1, a2, if_true]
      rw [← e]
      cases s.1 z with
      | none => exact ⟨by simp only [S.m], new fun y y' hy => hZ y y' z z' hy h⟩
      | some k => exact ⟨rfl, S⟩
    · simp only [nPart, nStr, h1, h2, Bool.false_eq_true, if_false]
      refine ⟨by simp only [S.m], new fun y y' hy => ?_⟩
      obtain ⟨a1, a2⟩ := ha y y' hy
      refine ⟨fun e => ?_, fun e => ?_⟩
      · rw [e, h1] at a1
        cases a1
      · rw [e, h2] at a2
        cases a2
theorem sim_rows {Z : Str → Str → Prop} {ac ac' : Str → Bool} (hZ : ∀ z z' y y', Z z z' → Z y y' → (z = y ↔ z' = y')) (ha : ∀ z z', Z z z' → ac z = true ∧ ac' z' = true) :
    ∀ {ps qs : List Rw}, Paired (fun p q => Kq Z ac ac' p.1 q.1 ∧ Kq Z ac ac' p.2 q.2) ps qs → ∀ {s s' : NS}, Sim Z s s' → (nRows ac s ps).1 = (nRows ac' s' qs).1
  | _, _, .nil, s, s', S => rfl
  | _, _, .cons f r, s, s', S => by
    obtain ⟨e1, S1⟩ := sim_part hZ ha S f.1
    obtain ⟨e2, S2⟩ := sim_part hZ ha S1 f.2
    have e3 := sim_rows hZ ha r S2
    simp only [nRows, nRow, e1, e2, e3]
/-- what stands on both sides in one place of the first, does so in the second -/
def Sh (ps qs : List Rw) : Prop := ∀ (i j : Nat) p q p' q', ps[i]? = some p → ps[j]? = some q → qs[i]? = some p' → qs[j]? = some q' → ∀ z, p.1 = .str z → q.2 = .str z → ∃ z', p'.1 = .str z' ∧ q'.2 = .str z'
def kd (p q : Prt) : Prop := (p = q ∧ ∀ z, p ≠ .str z) ∨ ∃ z z', p = .str z ∧ q = .str z'
theorem kd.symm {p q : Prt} (h : kd p q) : kd q p := h.elim (fun ⟨e, n⟩ => .inl ⟨e.symm, e ▸ n⟩) fun ⟨z, z', a, b⟩ => .inr ⟨z', z, b, a⟩
abbrev Kinds : List Rw → List Rw → Prop := Paired fun p q => kd p.1 q.1 ∧ kd p.2 q.2
theorem Kinds.symm : ∀ {ps qs : List Rw}, Kinds ps qs → Kinds qs ps
  | _, _, .nil => .nil
  | _, _, .cons f r => .cons ⟨f.1.symm, f.2.symm⟩ (Kinds.symm r)
/-- at one place -/
def At1 (ps qs : List Rw) (z z' : Str) : Prop := ∃ (i : Nat) (p q : Rw), ps[i]? = some p ∧ qs[i]? = some q ∧ ((p.1 = .str z ∧ q.1 = .str z') ∨ (p.2 = .str z ∧ q.2 = .str z'))
theorem At1.symm {ps qs : List Rw} {z z' : Str} (h : At1 ps qs z z') : At1 qs ps z' z := by
  obtain ⟨i, p, q, h1, h2, h3⟩ := h
  exact ⟨i, q, p, h2, h1, h3.elim (fun h => .inl ⟨h.2, h.1⟩) fun h => .inr ⟨h.2, h.1⟩⟩
theorem acr_iff {ps : List Rw} {z : Str} : acr ps z = true ↔ (∃ (i : Nat) (p : Rw), ps[i]? = some p ∧ p.1 = .str z) ∧ ∃ (i : Nat) (p : Rw), ps[i]? = some p ∧ p.2 = .str z := by
  simp only [acr, Bool.and_eq_true, List.any_eq_true, decide_eq_true_eq]
  constructor
  · rintro ⟨⟨p, hp, e1⟩, ⟨q, hq, e2⟩⟩
    obtain ⟨i, hi⟩ := List.getElem?_of_mem hp
    obtain ⟨j, hj⟩ := List.getElem?_of_mem hq
    exact ⟨⟨i, p, hi, e1⟩, ⟨j, q, hj, e2⟩⟩
  · rintro ⟨⟨i, p, hi, e1⟩, ⟨j, q, hj, e2⟩⟩
    exact ⟨⟨p, List.mem_of_getElem? hi, e1⟩, ⟨q, List.mem_of_getElem? hj, e2⟩⟩
section
variable {ps qs : List Rw} (hk : Kinds ps qs) (h1 : Sh ps qs)
include hk h1
theorem acr_to {z z' : Str} (a : At1 ps qs z z') (h : acr ps z = true) : acr qs z' = true := by
  obtain ⟨⟨i1, p1, g1, e1⟩, ⟨i2, p2, g2, e2⟩⟩ := acr_iff.mp h
  obtain ⟨q1, f1, _⟩ := paired_get hk g1
  obtain ⟨q2, f2, _⟩ := paired_get hk g2
  obtain ⟨i, p, q, a1, a2, a3⟩ := a
  rcases a3 with ⟨c1, c2⟩ | ⟨c1, c2⟩
  · obtain ⟨y, y1, y2⟩ := h1 i i2 p p2 q q2 a1 g2 a2 f2 z c1 e2
    rw [c2] at y1
    cases y1
    exact acr_iff.mpr ⟨⟨i, q, a2, c2⟩, ⟨i2, q2, f2, y2⟩⟩
  · obtain ⟨y, y1, y2⟩ := h1 i1 i p1 p q1 q g1 a1 f1 a2 z e1 c1
    rw [c2] at y2
    cases y2
    exact acr_iff.mpr ⟨⟨i1, q1, f1, y1⟩, ⟨i, q, a2, c2⟩⟩
theorem at_eq {z z' y' : Str} (a : At1 ps qs z z') (b : At1 ps qs z y') (h : acr ps z = true) : z' = y' := by
  obtain ⟨⟨i1, p1, g1, e1⟩, ⟨i2, p2, g2, e2⟩⟩ := acr_iff.mp h
  obtain ⟨q1, f1, _⟩ := paired_get hk g1
  obtain ⟨q2, f2, _⟩ := paired_get hk g2
  -- what the partner on the other side says
  have side : ∀ x, At1 ps qs z x → (q1.1 = .str x ∨ q2.2 = .str x) ∧ (q1.1 = q2.2) := by
    rintro x ⟨i, p, q, a1, a2, a3⟩
    obtain ⟨w, w1, w2⟩ := h1 i1 i2 p1 p2 q1 q2 g1 g2 f1 f2 z e1 e2
    refine ⟨?_, w1.trans w2.symm⟩
    rcases a3 with ⟨c1, c2⟩ | ⟨c1, c2⟩
    · obtain ⟨y, y1, y2⟩ := h1 i i2 p p2 q q2 a1 g2 a2 f2 z c1 e2
      rw [c2] at y1
      cases y1
      exact .inr y2
    · obtain ⟨y, y1, y2⟩ := h1 i1 i p1 p q1 q g1 a1 f1 a2 z e1 c1
      rw [c2] at y2
      cases y2
      exact .inl y1
  obtain ⟨s1, e⟩ := side _ a
  obtain ⟨s2, _⟩ := side _ b
  have t1 : q1.1 = .str z' := s1.elim id fun h => e.trans h
  have t2 : q1.1 = .str y' := s2.elim id fun h => e.trans h
  rw [t1] at t2
  cases t2
  rfl
end
theorem norm_same {ps qs : List Rw} (hk : Kinds ps qs) (h1 : Sh ps qs) (h2 : Sh qs ps) : norm ps = norm qs := by
  unfold norm
  refine sim_rows (Z := fun z z' => At1 ps qs z z' ∧ acr ps z = true) ?_ ?_ (paired_of (by exact hk.length) ?_) ⟨rfl, fun _ _ _ => rfl⟩
  · rintro z z' y y' ⟨a, ha⟩ ⟨b, hb⟩
    constructor
    · rintro rfl
      exact at_eq hk h1 a b ha
    · rintro rfl
      exact at_eq hk.symm h2 a.symm b.symm (acr_to hk h1 a ha)
  · rintro z z' ⟨a, ha⟩
    exact ⟨ha, acr_to hk h1 a ha⟩
  · intro i p q hp hq
    have one : ∀ x y, kd x y → (∀ z z', x = .str z → y = .str z' → At1 ps qs z z') → Kq (fun z z' => At1 ps qs z z' ∧ acr ps z = true) (acr ps) (acr qs) x y := by
      rintro x y (h | ⟨z, z', e1, e2⟩) at_
      · exact .inl h
      · refine .inr ⟨z, z', e1, e2, ?_⟩
        have a := at_ z z' e1 e2
        cases e : acr ps z with
        | true => exact .inl ⟨a, e⟩
        | false =>
          refine .inr ⟨rfl, ?_⟩
          cases e' : acr qs z' with
          | false => rfl
          | true =>
            have := acr_to hk.symm h2 a.symm e'
            rw [e] at this
            cases this
    obtain ⟨k1, k2⟩ := paired_get2 hk hp hq
    exact ⟨one _ _ k1 fun z z' e1 e2 => ⟨i, p, q, hp, hq, .inl ⟨e1, e2⟩⟩, one _ _ k2 fun z z' e1 e2 => ⟨i, p, q, hp, hq, .inr ⟨e1, e2⟩⟩⟩
theorem bec_kd {h : List (Str × Nat)} {p q : Prt} (b : Bec h p q) : kd p q := b.elim .inl fun ⟨z, k, e1, e2, _⟩ => .inr ⟨z, _, e1, e2⟩
theorem bec_str {h : List (Str × Nat)} {p q : Prt} (b : Bec h p q) {z : Str} (e : p = .str z) : ∃ k, q = .str (vn k) ∧ (z, k) ∈ h := by
  rcases b with ⟨_, n⟩ | ⟨z', k, e1, e2, e3⟩
  · exact absurd e (n z)
  · rw [e] at e1
    cases e1
    exact ⟨k, e2, e3⟩
theorem bec_out {h : List (Str × Nat)} {p q : Prt} (b : Bec h p q) {y : Str} (e : q = .str y) : ∃ z k, p = .str z ∧ y = vn k ∧ (z, k) ∈ h := by
  rcases b with ⟨e1, n⟩ | ⟨z', k, e1, e2, e3⟩
  · rw [← e1] at e
    exact absurd e (n y)
  · rw [e2] at e
    cases e
    exact ⟨z', k, e1, rfl, e3⟩
theorem norm_kinds (ps : List Rw) : Kinds ps (norm ps) := by
  obtain ⟨h, b, _⟩ := norm_bec ps
  exact L2.Paired.mapP b fun p q ⟨b1, b2⟩ => ⟨bec_kd b1, bec_kd b2⟩
theorem norm_sh (ps : List Rw) : Sh ps (norm ps) := by
  obtain ⟨h, b, _, d⟩ := norm_bec ps
  intro i j p q p' q' g1 g2 f1 f2 z e1 e2
  obtain ⟨k1, r1, m1⟩ := bec_str (paired_get2 b g1 f1).1 e1
  obtain ⟨k2, r2, m2⟩ := bec_str (paired_get2 b g2 f2).2 e2
  have : k1 = k2 := d _ m1 _ m2 rfl (acr_iff.mpr ⟨⟨i, p, g1, e1⟩, ⟨j, q, g2, e2⟩⟩)
  subst this
  exact ⟨_, r1, r2⟩
theorem norm_hs (ps : List Rw) : Sh (norm ps) ps := by
  obtain ⟨h, b, d, _⟩ := norm_bec ps
  intro i j p q p' q' g1 g2 f1 f2 z e1 e2
  obtain ⟨z1, k1, r1, y1, m1⟩ := bec_out (paired_get2 b f1 g1).1 e1
  obtain ⟨z2, k2, r2, y2, m2⟩ := bec_out (paired_get2 b f2 g2).2 e2
  have ek : k1 = k2 := vn_inj (y1.symm.trans y2)
  have : z1 = z2 := d _ m1 _ m2 ek
  subst this
  exact ⟨z1, r1, r2⟩
theorem norm_norm (ps : List Rw) : norm (norm ps) = norm ps := (norm_same (norm_kinds ps) (norm_sh ps) (norm_hs ps)).symm

/-! ### the rule's pairs: instances -/
def alike : Prt → Prt → Prop
  | .non, .non => True
  | .non, _ => False
  | _, .non => False
  | .str _, _ => True
  | a, b => a = b
structure Inst (W G : List Rw) : Prop where
  len : W.length = G.length
  kin : ∀ (i : Nat) p q, W[i]? = some p → G[i]? = some q → alike p.1 q.1 ∧ alike p.2 q.2
  bnd : ∀ (i j : Nat) p q p' q', W[i]? = some p → W[j]? = some q → G[i]? = some p' → G[j]? = some q' → ∀ z, p.1 = .str z → q.2 = .str z → q'.2 = p'.1
theorem alike_refl : ∀ p, alike p p
  | .non => trivial | .int _ => rfl | .str _ => trivial
theorem Inst.refl (W : List Rw) : Inst W W := by
  refine ⟨rfl, fun i p q h1 h2 => ?_, fun i j p q p' q' h1 h2 h3 h4 z e1 e2 => ?_⟩
  · rw [h1] at h2
    cases h2
    exact ⟨alike_refl _, alike_refl _⟩
  · rw [h1] at h3
    rw [h2] at h4
    cases h3
    cases h4
    rw [e1, e2]
theorem get_of_len {W G : List Rw} (h : W.length = G.length) {i : Nat} {p : Rw} (e : W[i]? = some p) : ∃ q, G[i]? = some q := by
  obtain ⟨l, _⟩ := List.getElem?_eq_some_iff.mp e
  exact ⟨G[i]'(by omega), by simp [show i < G.length by omega]⟩
theorem alike_trans {a b c : Prt} (h1 : alike a b) (h2 : alike b c) : alike a c := by
  cases a <;> cases b <;> cases c <;> simp_all [alike]
theorem Inst.trans {A B C : List Rw} (h1 : Inst A B) (h2 : Inst B C) : Inst A C := by
  refine ⟨h1.len.trans h2.len, fun i p q e1 e2 => ?_, fun i j p q p' q' e1 e2 e3 e4 z z1 z2 => ?_⟩
  · obtain ⟨m, em⟩ := get_of_len h1.len e1
    obtain ⟨a1, a2⟩ := h1.kin i p m e1 em
    obtain ⟨b1, b2⟩ := h2.kin i m q em e2
    exact ⟨alike_trans a1 b1, alike_trans a2 b2⟩
  · obtain ⟨m, em⟩ := get_of_len h1.len e1
    obtain ⟨n, en⟩ := get_of_len h1.len e2
    have b := h1.bnd i j p q m n e1 e2 em en z z1 z2
    obtain ⟨k1, _⟩ := h2.kin i m p' em e3
    obtain ⟨_, k2⟩ := h2.kin j n q' en e4
    rw [b] at k2
    cases e : m.1 with
    | non =>
      rw [e] at k1 k2
      cases e5 : p'.1 <;> cases e6 : q'.2 <;> simp_all [alike]
    | int i =>
      rw [e] at k1 k2
      cases e5 : p'.1 <;> cases e6 : q'.2 <;> simp_all [alike]
    | str y => exact h2.bnd i j m n p' q' em en e3 e4 y e (b.trans e)
theorem inst_both {A B : List Rw} (h1 : Inst A B) (h2 : Inst B A) : Kinds A B ∧ Sh A B := by
  have both : ∀ a b : Prt, alike a b → alike b a → kd a b := by
    intro a b x y
    cases a <;> cases b <;> simp_all [alike, kd]
  refine ⟨paired_of h1.len fun i a b e1 e2 => ?_, fun i j p q p' q' e1 e2 e3 e4 z z1 z2 => ?_⟩
  · obtain ⟨a1, a2⟩ := h1.kin i a b e1 e2
    obtain ⟨b1, b2⟩ := h2.kin i b a e2 e1
    exact ⟨both _ _ a1 b1, both _ _ a2 b2⟩
  · have b := h1.bnd i j p q p' q' e1 e2 e3 e4 z z1 z2
    obtain ⟨a1, _⟩ := h1.kin i p p' e1 e3
    obtain ⟨b1, _⟩ := h2.kin i p' p e3 e1
    rw [z1] at a1 b1
    cases e : p'.1 with
    | str y => exact ⟨y, rfl, b.trans e⟩
    | _ => simp_all [alike]
/-- instances of each other are equal, in normal form -/
theorem inst_norm {ps qs : List Rw} (h1 : Inst (norm ps) (norm qs)) (h2 : Inst (norm qs) (norm ps)) : norm ps = norm qs := by
  obtain ⟨k, s1⟩ := inst_both h1 h2
  obtain ⟨_, s2⟩ := inst_both h2 h1
  have := norm_same k s1 s2
  rwa [norm_norm, norm_norm] at this
/-- an image of rows, in normal form, is an instance of them -/
def img (h : Str → Prt) : Prt → Prt
  | .str z => h z
  | p => p
theorem inst_img (W : List Rw) (h : Str → Prt) (hn : ∀ z, h z ≠ .non) : Inst W (norm (W.map fun p => (img h p.1, img h p.2))) := by
  have kk := norm_kinds (W.map fun p => (img h p.1, img h p.2))
  have one : ∀ a c, kd (img h a) c → alike a c := by
    intro a c k
    cases a with
    | non =>
      rcases k with ⟨e, _⟩ | ⟨z, z', e, _⟩
      · rw [← e]
        trivial
      · cases e
    | int i =>
      rcases k with ⟨e, _⟩ | ⟨z, z', e, _⟩
      · rw [← e]
        rfl
      · cases e
    | str z =>
      rcases k with ⟨e, _⟩ | ⟨y, y', e, e'⟩
      · have := hn z
        rw [← e]
        simp only [img]
        cases e2 : h z <;> simp_all [alike]
      · rw [e']
        trivial
  refine ⟨by rw [norm_length, List.length_map], fun i p q e1 e2 => ?_, fun i j p q p' q' e1 e2 e3 e4 z z1 z2 => ?_⟩
  · have m1 : (W.map fun p => (img h p.1, img h p.2))[i]? = some (img h p.1, img h p.2) := by rw [List.getElem?_map, e1]; rfl
    obtain ⟨k1, k2⟩ := paired_get2 kk m1 e2
    exact ⟨one _ _ k1, one _ _ k2⟩
  · have m1 : (W.map fun p => (img h p.1, img h p.2))[i]? = some (img h p.1, img h p.2) := by rw [List.getElem?_map, e1]; rfl
    have m2 : (W.map fun p => (img h p.1, img h p.2))[j]? = some (img h q.1, img h q.2) := by rw [List.getElem?_map, e2]; rfl
    obtain ⟨k1, _⟩ := paired_get2 kk m1 e3
    obtain ⟨_, k2⟩ := paired_get2 kk m2 e4
    simp only [z1, z2, img] at k1 k2
    cases e : h z with
    | non => exact absurd e (hn z)
    | int n =>
      rw [e] at k1 k2
      rcases k1 with ⟨r1, _⟩ | ⟨_, _, r1, _⟩
      · rcases k2 with ⟨r2, _⟩ | ⟨_, _, r2, _⟩
        · rw [← r1, ← r2]
        · cases r2
      · cases r1
    | str y =>
      obtain ⟨w, w1, w2⟩ := norm_sh _ i j _ _ p' q' m1 m2 e3 e4 y (by simp only [z1, img, e]) (by simp only [z2, img, e])
      rw [w1, w2]
/-- where the parts of a row are the same, they are so in an instance -/
theorem inst_same {W G : List Rw} (h : Inst W G) {i : Nat} {p q : Rw} (e1 : W[i]? = some p) (e2 : G[i]? = some q) (e : p.1 = p.2) : q.1 = q.2 := by
  obtain ⟨k1, k2⟩ := h.kin i p q e1 e2
  rw [← e] at k2
  cases e3 : p.1 with
  | str z => exact (h.bnd i i p p q q e1 e1 e2 e2 z e3 (e ▸ e3)).symm
  | non =>
    rw [e3] at k1 k2
    clear e e3 e1 e2 h
    cases e4 : q.1 <;> cases e5 : q.2 <;> rw [e4] at k1 <;> rw [e5] at k2 <;> simp_all [alike]
  | int n =>
    rw [e3] at k1 k2
    clear e e3 e1 e2 h
    cases e4 : q.1 <;> cases e5 : q.2 <;> rw [e4] at k1 <;> rw [e5] at k2 <;> simp_all [alike]
end Z
namespace Z
open PySem PySem.Spec PyProof.Rows L2
/-! ### rows as they lie -/
def RowAt (K : PySem.W.Frag) (H : Hp) (x : V) (p : Rw) : Prop := ∃ r, x = .ref r ∧ SqT K H r [p.1.v, p.2.v]
abbrev RowsAt (K : PySem.W.Frag) (H : Hp) : List V → List Rw → Prop := Paired (RowAt K H)
theorem Same.tup {K : PySem.W.Frag} {H H' : Hp} {a : Addr} {xs : List V} (s : Same H H') (h : SqT K H a xs) : SqT K H' a xs := by
  rcases h with (h | ⟨o, h⟩) | h
  · exact .inl (.inl (s _ _ h))
  · exact .inl (.inr ⟨o, s _ _ h⟩)
  · exact .inr h
theorem RowAt.same {K : PySem.W.Frag} {H H' : Hp} {x : V} {p : Rw} (h : RowAt K H x p) (s : Same H H') : RowAt K H' x p := by
  obtain ⟨r, e, q⟩ := h
  exact ⟨r, e, Z.Same.tup s q⟩
theorem RowsAt.same {K : PySem.W.Frag} {H H' : Hp} {xs : List V} {ps : List Rw} (h : RowsAt K H xs ps) (s : Same H H') : RowsAt K H' xs ps := L2.Paired.mapP h fun _ _ q => q.same s
def pick (b : Bool) (p : Rw) : Prt := if b = true then p.2 else p.1
/-- a set of texts -/
def SetHas (P : Program) (w : World) (H : Hp) (D : Addr) (f : Str → Bool) : Prop := ∃ S n, H D = some (SetK P w D S n) ∧ ∀ z, S (.inr z) = f z
theorem take_any {α : Type} {l : List α} {i : Nat} {p : α} (h : l[i]? = some p) (f : α → Bool) : (l.take (i + 1)).any f = ((l.take i).any f || f p) := by
  rw [List.take_add_one, h]
  simp
theorem sc_side {P : Program} {w : World} {K : PySem.W.Frag} (bb : Bool) {a : Addr} {xs : List V} {ps : List Rw} {s0 s1 s2 s3 s4 s5 s6 s7 s8 s9 : Option V} {H1 : Hp} {Q : VK} (hq : SqT K H1 a xs) (hr : RowsAt K H1 xs ps) (hl : xs.length ≤ 1000)
    (h : ∀ D H', H1 D = none → Same H1 H' → SetHas P w H' D (fun z => ps.any fun p => decide (pick bb p = .str z)) → Q (.ref D) H') :
    scGo P w (Itt K a) (gName 6) (zTru K (zIsiT K .str (tOp (zIx K) (zVar 6) (tC (.int (if bb = true then 1 else 0)))))) (tOp (zIx K) (zVar 6) (tC (.int (if bb = true then 1 else 0)))) [6] [s0, s1, s2, s3, s4, s5, s6, s7, s8, s9] H1 Q := by
  have hlen : ps.length = xs.length := hr.length.symm
  refine sc_z (walk_tup (xs := xs)) (fun D i H => Same H1 H ∧ ∃ S n, H D = some (SetK P w D S n) ∧ n ≤ i ∧ ∀ z, S (.inr z) = (ps.take i).any fun p => decide (pick bb p = .str z))
    (fun D hD => ⟨Same.put hD, _, 0, upd_same, Nat.le_refl _, fun z => by simp⟩) (fun D i H _ _ p => Z.Same.tup p.1 hq) (fun D i x H H' hD hi pv y => ?_) (fun D H hD pv => ?_)
  · obtain ⟨sm, S, n, e, hn, hS⟩ := pv
    obtain ⟨rfl, hx⟩ := y
    obtain ⟨p, hp, r, rfl, hrow⟩ := paired_get hr hx
    have hrow' := Z.Same.tup sm hrow
    have hat : atI [p.1.v, p.2.v] (if bb = true then 1 else 0) = some (pick bb p).v := by cases bb <;> rfl
    refine ⟨rfl, _, _, .inr hrow', hat, ?_⟩
    have nb : n + 1 < scanBound := Nat.lt_of_lt_of_le (show n + 1 < 1002 by omega) (by decide)
    cases ep : pick bb p with
    | non => exact ⟨sm, S, n, e, by omega, fun z => by rw [take_any hp, hS z, ep]; simp⟩
    | int j => exact ⟨sm, S, n, e, by omega, fun z => by rw [take_any hp, hS z, ep]; simp⟩
    | str z =>
      refine ⟨_, _, .inr hrow', hat, D, .inr z, S, n, rfl, by rw [ep]; rfl, e, nb, ?_, _, _, upd_same, ?_, fun y => ?_⟩
      · intro b o ho
        rw [upd_ne (ne_of_none ho hD)]
        exact sm _ _ ho
      · split <;> omega
      · rw [take_any hp, hS y, ep]
        by_cases hy : y = z
        · subst hy
          simp
        · have : ¬ z = y := fun e => hy e.symm
          simp [hy, this]
  · obtain ⟨sm, S, n, e, hn, hS⟩ := pv
    refine h D H hD sm ⟨S, n, e, fun z => ?_⟩
    rw [hS z, List.take_of_length_le (by omega)]

theorem len_app (x y : Str) : (x ++ y).length = x.length + y.length := by
  show (x.cps ++ y.cps).size = x.cps.size + y.cps.size
  simp
def But2 (a b : Addr) (H H' : Hp) : Prop := ∀ c o, H c = some o → c ≠ a → c ≠ b → H' c = some o
/-- the names that have been given -/
def NamesAt (H : Hp) (N : Addr) (st : NS) (c : Nat) : Prop := ∃ kvs, H N = some (.dK kvs) ∧ kvs.length ≤ c ∧ ∀ z, valV kvs (.inr z) = (st.1 z).map fun k => V.str (vn k)
theorem vn_txt (n : Nat) : (Str.empty ++ ("v" : Str)) ++ (toString ((n : Nat) : Int) : Str) = vn n := rfl
theorem small_log {n : Nat} (h : n ≤ 4000) : ((n : Nat) : Int).natAbs.log2 < 12 := by
  by_cases h0 : n = 0
  · subst h0
    decide
  · exact (Nat.log2_lt (by omega)).mpr (Nat.lt_of_le_of_lt (show ((n : Nat) : Int).natAbs ≤ 4000 by omega) (by decide))
theorem vn_len {n : Nat} (h : n ≤ 4000) : (vn n).length ≤ 14 := by
  have e := int_text_length_le (a := ((n : Nat) : Int)) (k := 12) (by decide) (small_log h)
  have e1 : (vn n).length = 1 + (Str.ofString (toString ((n : Nat) : Int))).length := by
    unfold vn
    rw [len_app]
    rfl
  rw [e1, PySem.ofString_length]
  omega
theorem names_new {H : Hp} {N : Addr} {st : NS} {c : Nat} {z : Str} {kvs : List (Key × V)} (hl : kvs.length ≤ c) (hv : ∀ y, valV kvs (.inr y) = (st.1 y).map fun k => V.str (vn k)) :
    NamesAt (upd H N (.dK (putK kvs (.inr z) (.str (vn st.2))))) N (nNew st z) (c + 1) := by
  refine ⟨_, upd_same, Nat.le_trans (length_putK _ _ _) (by omega), fun y => ?_⟩
  rw [valV_put]
  simp only [nNew]
  by_cases e : y = z
  · subst e
    simp
  · have : ¬ (Sum.inr y : Key) = .inr z := fun h => e (Sum.inr.inj h)
    rw [if_neg this, if_neg e, hv]
theorem part_step {P : Program} {w : World} {K : PySem.W.Frag} {g : Ads} {E : XK} {D : Ends} {C1 C2 N F S : Addr} {s0 s6 s9 : Option V} {f1 f2 : Str → Bool} {st : NS} {c : Nat} {acc : List V} (p : Prt) {H : Hp}
    (hN : NamesAt H N st c) (h1 : SetHas P w H C1 f1) (h2 : SetHas P w H C2 f2) (hS : H S = some (.lst acc)) (hNS : N ≠ S) (hc : c ≤ 3000) (ha : acc.length ≤ 3000) (hm : st.2 ≤ 3000)
    (k : ∀ H' s9', NamesAt H' N (nPart (fun z => f1 z && f2 z) st p).2 (c + 1) → H' S = some (.lst (acc ++ [(nPart (fun z => f1 z && f2 z) st p).1.v])) → But2 N S H H' →
      D.nx [s0, some (.ref C1), some (.ref C2), some (.ref N), some (.int ((nPart (fun z => f1 z && f2 z) st p).2.2 : Nat)), some (.ref F), s6, some (.ref S), some p.v, s9'] H') :
    R_normal_rows_9 P w K g E D [s0, some (.ref C1), some (.ref C2), some (.ref N), some (.int (st.2 : Nat)), some (.ref F), s6, some (.ref S), some p.v, s9] H := by
  have lt : acc.length < sizeLine := Nat.lt_of_le_of_lt ha (by decide)
  obtain ⟨kvs, eN, hl, hv⟩ := id hN
  have plain : (nPart (fun z => f1 z && f2 z) st p) = (p, st) → R_normal_rows_16 P w K g E D [s0, some (.ref C1), some (.ref C2), some (.ref N), some (.int (st.2 : Nat)), some (.ref F), s6, some (.ref S), some p.v, s9] H := by
    intro e
    refine ⟨.inl ⟨rfl, _, SqL.of hS⟩, S, acc, _, rfl, rfl, hS, lt, ?_⟩
    have k' := k (upd H S (.lst (acc ++ [p.v]))) s9 (by rw [e]; exact ⟨kvs, by rw [upd_ne hNS]; exact eN, by omega, hv⟩) (by rw [e, upd_same]) (fun b o hb n1 n2 => by rw [upd_ne n2]; exact hb)
    rw [e] at k'
    exact k'
  cases p with
  | non =>
    have p2 := plain rfl
    simp only [Prt.v] at p2 ⊢
    exact ifS_of false (fun Q q => q) (fun h => nomatch h) fun _ => p2
  | int i =>
    have p2 := plain rfl
    simp only [Prt.v] at p2 ⊢
    exact ifS_of false (fun Q q => q) (fun h => nomatch h) fun _ => p2
  | str z =>
    simp only [Prt.v]
    refine ifS_of true (fun Q q => q) (fun _ => ?_) fun h => nomatch h
    obtain ⟨S1, n1, e1, g1⟩ := h1
    obtain ⟨S2, n2, e2, g2⟩ := h2
    -- the name is given anew
    have fresh : ∀ s9', nStr (fun z => f1 z && f2 z) st z = (st.2, nNew st z) → R_normal_rows_12 P w K g E { D with nx := R_normal_rows_14 P w K g E D } [s0, some (.ref C1), some (.ref C2), some (.ref N), some (.int (st.2 : Nat)), some (.ref F), s6, some (.ref S), some (.str z), s9'] H := by
      intro s9' e
      have b1 : (Str.empty ++ ("v" : Str)).length ≤ sizeLine := by decide +kernel
      have b2 : ((Str.empty ++ ("v" : Str)) ++ (toString ((st.2 : Nat) : Int) : Str)).length ≤ sizeLine := by
        rw [vn_txt]
        exact Nat.le_trans (vn_len (by omega)) (by decide)
      refine ⟨_, rfl, b1, .inr ⟨_, rfl, Nat.lt_trans (small_log (by omega)) (by decide), _, rfl, b2, N, _, rfl, DPut.k (k := .inr z) eN (Nat.lt_of_le_of_lt (show kvs.length ≤ 3000 by omega) (by decide)), ?_⟩⟩
      refine ⟨_, rfl, _, _, rfl, rfl, ?_⟩
      have nn := names_new (H := H) (N := N) (z := z) hl hv
      obtain ⟨kvs', eN', hl', hv'⟩ := id nn
      have hg : DGet (upd H N (.dK (putK kvs (.inr z) (.str (vn st.2))))) N (.str z) (some (.str (vn st.2))) := by
        have q := DGet.k (k := .inr z) eN'
        rw [hv' z] at q
        simpa [nNew, kV] using q
      have hS' : upd H N (.dK (putK kvs (.inr z) (.str (vn st.2)))) S = some (.lst acc) := by
        rw [upd_ne hNS.symm]
        exact hS
      refine ⟨.inl ⟨rfl, _, SqL.of hS'⟩, N, _, rfl, hg, S, acc, _, rfl, rfl, hS', lt, ?_⟩
      have k' := k (upd (upd H N (.dK (putK kvs (.inr z) (.str (vn st.2))))) S (.lst (acc ++ [.str (vn st.2)]))) s9'
        (by simp only [nPart, e]; exact ⟨kvs', by rw [upd_ne hNS]; exact eN', hl', hv'⟩) (by simp only [nPart, e, Prt.v]; exact upd_same) (fun b o hb n1 n2 => by rw [upd_ne n2, upd_ne n1]; exact hb)
      simp only [nPart, e] at k'
      have ei : ((st.2 : Nat) : Int) + 1 = (((nNew st z).2 : Nat) : Int) := by simp [nNew]
      rw [← ei] at k'
      exact k'
    have old : ∀ s9' j, st.1 z = some j → nStr (fun z => f1 z && f2 z) st z = (j, st) → R_normal_rows_14 P w K g E D [s0, some (.ref C1), some (.ref C2), some (.ref N), some (.int (st.2 : Nat)), some (.ref F), s6, some (.ref S), some (.str z), s9'] H := by
      intro s9' j ej e
      have hg : DGet H N (.str z) (some (.str (vn j))) := by
        have q := DGet.k (k := .inr z) eN
        rw [hv z, ej] at q
        exact q
      refine ⟨.inl ⟨rfl, _, SqL.of hS⟩, N, _, rfl, hg, S, acc, _, rfl, rfl, hS, lt, ?_⟩
      have k' := k (upd H S (.lst (acc ++ [.str (vn j)]))) s9'
        (by simp only [nPart, e]; exact ⟨kvs, by rw [upd_ne hNS]; exact eN, by omega, hv⟩) (by simp only [nPart, e, Prt.v]; exact upd_same) (fun b o hb n1 n2 => by rw [upd_ne n2]; exact hb)
      simp only [nPart, e] at k'
      exact k'
    -- is it across?
    have test : ∀ c : Bool, c = (f1 z && f2 z) → R_normal_rows_11 P w K g E D [s0, some (.ref C1), some (.ref C2), some (.ref N), some (.int (st.2 : Nat)), some (.ref F), s6, some (.ref S), some (.str z), some (.bl c)] H := by
      intro c ec
      -- what is done once it is known whether the name is there
      have both : (if (!c) = true then True else (st.1 z).isSome = false) → R_normal_rows_12 P w K g E { D with nx := R_normal_rows_14 P w K g E D } [s0, some (.ref C1), some (.ref C2), some (.ref N), some (.int (st.2 : Nat)), some (.ref F), s6, some (.ref S), some (.str z), some (.bl c)] H := by
        intro h
        refine fresh _ ?_
        show (if (f1 z && f2 z) = true then _ else _) = _
        rw [← ec]
        cases c with
        | false => rfl
        | true =>
          have h' : (st.1 z).isSome = false := by simpa using h
          cases e : st.1 z with
          | none => rfl
          | some j => rw [e] at h'; cases h'
      refine seq_of (ifS_of (if (!c) = true then true else !(valV kvs (.inr z)).isSome) (fun Q q => ?_) (fun h => both ?_) fun h => ?_)
      · cases c with
        | false => exact q
        | true => exact ⟨N, valV kvs (.inr z), rfl, DGet.k (k := .inr z) eN, q⟩
      · cases c with
        | false => trivial
        | true =>
          have hd' : (!(valV kvs (.inr z)).isSome) = true := h
          rw [hv z] at hd'
          simpa using hd'
      · cases c with
        | false => cases h
        | true =>
          have hd' : (!(valV kvs (.inr z)).isSome) = false := h
          rw [hv z] at hd'
          cases e : st.1 z with
          | none => rw [e] at hd'; cases hd'
          | some j =>
            refine old _ j e ?_
            show (if (f1 z && f2 z) = true then _ else _) = _
            rw [← ec, if_pos rfl, e]
    refine ⟨.inr z, C1, S1, n1, rfl, rfl, e1, zite (fun b1 => ⟨.inr z, C2, S2, n2, rfl, rfl, e2, ?_⟩) fun b1 => ?_⟩
    · refine test _ ?_
      have : f1 z = true := (g1 z).symm.trans b1
      rw [this]
      exact g2 z
    · refine test false ?_
      have : f1 z = false := (g1 z).symm.trans b1
      rw [this]
      rfl

theorem nPart_le (ac : Str → Bool) (st : NS) (p : Prt) : (nPart ac st p).2.2 ≤ st.2 + 1 := by
  cases p with
  | non => exact Nat.le_succ _
  | int i => exact Nat.le_succ _
  | str z =>
    simp only [nPart, nStr]
    split
    · split <;> simp [nNew]
    · simp [nNew]
theorem nRows_le (ac : Str → Bool) : ∀ (ps : List Rw) (st : NS), (nRows ac st ps).2.2 ≤ st.2 + 2 * ps.length
  | [], st => by simp [nRows]
  | p :: r, st => by
    have h1 := nPart_le ac st p.1
    have h2 := nPart_le ac (nPart ac st p.1).2 p.2
    have h3 := nRows_le ac r (nRow ac st p).2
    simp only [nRows, nRow, List.length_cons] at h3 ⊢
    omega
theorem RowAt.but2 {K : PySem.W.Frag} {H H' : Hp} {x : V} {p : Rw} {N F : Addr} {kvs : List (Key × V)} {l : List V} (h : RowAt K H x p) (hN : H N = some (.dK kvs)) (hF : H F = some (.lst l)) (b : But2 N F H H') : RowAt K H' x p := by
  obtain ⟨r, e, q⟩ := h
  refine ⟨r, e, ?_⟩
  rcases q with (h | ⟨o, h⟩) | h
  · exact .inl (.inl (b _ _ h (fun z => by rw [z, hN] at h; cases h) fun z => by rw [z, hF] at h; cases h))
  · exact .inl (.inr ⟨o, b _ _ h (fun z => by rw [z, hN] at h; cases h) fun z => by rw [z, hF] at h; cases h⟩)
  · exact .inr h
theorem SetHas.to {P : Program} {w : World} {H H' : Hp} {D : Addr} {f : Str → Bool} (h : SetHas P w H D f) (k : ∀ o, H D = some o → H' D = some o) : SetHas P w H' D f := by
  obtain ⟨S, n, e, g⟩ := h
  exact ⟨S, n, k _ e, g⟩
theorem row_step {P : Program} {w : World} {K : PySem.W.Frag} {g : Ads} {E : XK} {D : Ends} {C1 C2 N F r : Addr} {s0 s7 s8 s9 : Option V} {f1 f2 : Str → Bool} {st : NS} {c : Nat} {acc : List V} {p : Rw} {H : Hp}
    (hN : NamesAt H N st c) (h1 : SetHas P w H C1 f1) (h2 : SetHas P w H C2 f2) (hF : H F = some (.lst acc)) (hNF : N ≠ F) (n1 : C1 ≠ N) (n2 : C2 ≠ N) (hr : SqT K H r [p.1.v, p.2.v]) (hc : c ≤ 2900) (ha : acc.length ≤ 2900) (hm : st.2 ≤ 2900)
    (k : ∀ H' T s6' s7' s8' s9', NamesAt H' N (nRow (fun z => f1 z && f2 z) st p).2 (c + 2) → H' F = some (.lst (acc ++ [.ref T])) → SqT K H' T [(nRow (fun z => f1 z && f2 z) st p).1.1.v, (nRow (fun z => f1 z && f2 z) st p).1.2.v] → But2 N F H H' →
      D.nx [s0, some (.ref C1), some (.ref C2), some (.ref N), some (.int ((nRow (fun z => f1 z && f2 z) st p).2.2 : Nat)), some (.ref F), s6', s7', s8', s9'] H') :
    R_normal_rows_7 P w K g E D [s0, some (.ref C1), some (.ref C2), some (.ref N), some (.int (st.2 : Nat)), some (.ref F), some (.ref r), s7, s8, s9] H := by
  refine ⟨show 0 ≤ sizeLine by decide, fun S hS => ?_⟩
  have sS : Same H (upd H S (.lst [])) := Same.put hS
  obtain ⟨kvs, eN, hl, hv⟩ := id hN
  have nNS : N ≠ S := ne_of_none eN hS
  have nFS : F ≠ S := ne_of_none hF hS
  have hN0 : NamesAt (upd H S (.lst [])) N st c := ⟨kvs, sS _ _ eN, hl, hv⟩
  have h10 := h1.to (H' := upd H S (.lst [])) fun o e => sS _ _ e
  have h20 := h2.to (H' := upd H S (.lst [])) fun o e => sS _ _ e
  have nC1 : C1 ≠ S := by obtain ⟨_, _, e, _⟩ := h1; exact ne_of_none e hS
  have nC2 : C2 ≠ S := by obtain ⟨_, _, e, _⟩ := h2; exact ne_of_none e hS
  have hS0 : (upd H S (.lst [])) S = some (.lst []) := upd_same
  have hr0 := Z.Same.tup sS hr
  generalize hHs : upd H S (.lst []) = Hs at hN0 h10 h20 hS0 sS hr0
  let ac : Str → Bool := fun z => f1 z && f2 z
  let sti : Nat → NS := fun i => match i with | 0 => st | 1 => (nPart ac st p.1).2 | _ => (nRow ac st p).2
  let aci : Nat → List V := fun i => match i with | 0 => [] | 1 => [(nPart ac st p.1).1.v] | _ => [(nRow ac st p).1.1.v, (nRow ac st p).1.2.v]
  have le1 := nPart_le ac st p.1
  refine ⟨r, rfl, ⟨_, hr0⟩, for_z (walk_tup (xs := [p.1.v, p.2.v])) (fun i σ H' => (∃ s8 s9, σ = [s0, some (.ref C1), some (.ref C2), some (.ref N), some (.int ((sti i).2 : Nat)), some (.ref F), some (.ref r), some (.ref S), s8, s9]) ∧
    NamesAt H' N (sti i) (c + i) ∧ H' S = some (.lst (aci i)) ∧ But2 N S Hs H') ⟨⟨_, _, rfl⟩, hN0, hS0, fun _ _ e _ _ => e⟩ (fun i σ H' _ pv => ?_) (fun i x σ H1 H1' hi pv y => ?_) (fun σ H1 pv => ?_)⟩
  · have b := pv.2.2.2
    obtain ⟨kv, eN1, _⟩ := hN0
    rcases hr0 with (h | ⟨o, h⟩) | h
    · exact .inl (.inl (b _ _ h (fun z => by rw [z, eN1] at h; cases h) fun z => by rw [z, hS0] at h; cases h))
    · exact .inl (.inr ⟨o, b _ _ h (fun z => by rw [z, eN1] at h; cases h) fun z => by rw [z, hS0] at h; cases h⟩)
    · exact .inr h
  · obtain ⟨⟨s8', s9', e1⟩, pN, pS, b⟩ := pv
    obtain ⟨rfl, hx⟩ := y
    subst e1
    have g1 := h10.to (H' := H1') fun o e => b _ _ e n1 nC1
    have g2 := h20.to (H' := H1') fun o e => b _ _ e n2 nC2
    match i, hx, hi with
    | 0, hx, _ =>
      cases hx
      exact part_step p.1 pN g1 g2 pS nNS (by omega) (by simp [aci]) (by simp only [sti]; omega) fun H' s9'' q1 q2 q3 => ⟨⟨_, _, rfl⟩, q1, q2, fun c o e x1 x2 => q3 _ _ (b _ _ e x1 x2) x1 x2⟩
    | 1, hx, _ =>
      cases hx
      exact part_step p.2 pN g1 g2 pS nNS (by omega) (by simp [aci]) (by simp only [sti]; omega) fun H' s9'' q1 q2 q3 => ⟨⟨_, _, rfl⟩, q1, q2, fun c o e x1 x2 => q3 _ _ (b _ _ e x1 x2) x1 x2⟩
    | i + 2, hx, hi => simp at hi; omega
  · obtain ⟨⟨s8', s9', e1⟩, pN, pS, b⟩ := pv
    subst e1
    have pF : H1 F = some (.lst acc) := b _ _ (sS _ _ hF) hNF.symm nFS
    refine ⟨.inl ⟨rfl, _, SqL.of pF⟩, aci 2, .inl ⟨SqL.of pS, fun T hT => ?_⟩⟩
    have sT : Same H1 (upd H1 T (.tup (aci 2))) := Same.put hT
    have pF' := sT _ _ pF
    refine ⟨F, acc, _, rfl, rfl, pF', Nat.lt_of_le_of_lt ha (by decide), ?_⟩
    have nTF : T ≠ F := (ne_of_none pF hT).symm
    obtain ⟨kvs2, eN2, hl2, hv2⟩ := pN
    refine k _ T _ _ _ _ ⟨kvs2, by rw [upd_ne hNF]; exact sT _ _ eN2, hl2, hv2⟩ upd_same (.inl (.inl ?_)) fun b' o e x1 x2 => ?_
    · rw [upd_ne nTF, upd_same]
      rfl
    · rw [upd_ne x2]
      exact sT _ _ (b _ _ (sS _ _ e) x1 (ne_of_none e hS))

def sp_normal_rows (K : PySem.W.Frag) (g : Ads) : Sp := fun vs H Q E => ∃ a xs ps, vs = [.ref a] ∧ SqT K H a xs ∧ RowsAt K H xs ps ∧ xs.length ≤ 1000 ∧
  ∀ D ys H', Same H H' → SqT K H' D ys → RowsAt K H' ys (norm ps) → Q (.ref D) H'
theorem pf_normal_rows {P : Program} {w : World} {K : PySem.W.Frag} {g : Ads} (vs : List V) (H : Hp) (Q : VK) (E : XK) (h : sp_normal_rows K g vs H Q E) : rw_normal_rows P w K g vs H Q E := by
  obtain ⟨a, xs, ps, rfl, hq, hr, hl, q⟩ := h
  refine ⟨rfl, a, rfl, ⟨_, hq⟩, sc_side (P := P) (w := w) false hq hr hl fun C1 H1 c1 s1 g1 => ?_⟩
  refine ⟨a, rfl, ⟨_, Z.Same.tup s1 hq⟩, sc_side (P := P) (w := w) true (Z.Same.tup s1 hq) (RowsAt.same hr s1) hl fun C2 H2 c2 s2 g2 => ?_⟩
  refine fun N hN => ⟨show 0 ≤ sizeLine by decide, fun F hF => ?_⟩
  have g1' := g1.to (H' := H2) fun o e => s2 _ _ e
  have uN : Same H2 (upd H2 N (.dK [])) := Same.put hN
  have uF : Same (upd H2 N (.dK [])) (upd (upd H2 N (.dK [])) F (.lst [])) := Same.put hF
  have nNF : N ≠ F := ne_of_none upd_same hF
  have n1 : C1 ≠ N := by obtain ⟨_, _, e, _⟩ := g1'; exact ne_of_none e hN
  have n2 : C2 ≠ N := by obtain ⟨_, _, e, _⟩ := g2; exact ne_of_none e hN
  have m1 : C1 ≠ F := by obtain ⟨_, _, e, _⟩ := g1'; exact ne_of_none (uN _ _ e) hF
  have m2 : C2 ≠ F := by obtain ⟨_, _, e, _⟩ := g2; exact ne_of_none (uN _ _ e) hF
  have hN0 : NamesAt (upd (upd H2 N (.dK [])) F (.lst [])) N ns0 0 := ⟨[], by rw [upd_ne nNF, upd_same], Nat.le_refl _, fun z => rfl⟩
  have hF0 : (upd (upd H2 N (.dK [])) F (.lst [])) F = some (.lst []) := upd_same
  have g10 := g1'.to (H' := upd (upd H2 N (.dK [])) F (.lst [])) fun o e => uF _ _ (uN _ _ e)
  have g20 := g2.to (H' := upd (upd H2 N (.dK [])) F (.lst [])) fun o e => uF _ _ (uN _ _ e)
  have sb : Same H (upd (upd H2 N (.dK [])) F (.lst [])) := ((s1.trans s2).trans uN).trans uF
  have fresh : ∀ b o, H b = some o → b ≠ N ∧ b ≠ F := fun b o e => ⟨ne_of_none (s2 _ _ (s1 _ _ e)) hN, ne_of_none (uN _ _ (s2 _ _ (s1 _ _ e))) hF⟩
  generalize upd (upd H2 N (.dK [])) F (.lst []) = Hb at hN0 hF0 g10 g20 sb
  have hqb := Z.Same.tup sb hq
  have hrb := RowsAt.same hr sb
  have eac : (fun z => (ps.any fun p => decide (pick false p = .str z)) && ps.any fun p => decide (pick true p = .str z)) = acr ps := rfl
  have len : ps.length = xs.length := hr.length.symm
  have keep : ∀ H', But2 N F Hb H' → Same H H' := fun H' b c o e => b _ _ (sb _ _ e) (fresh c o e).1 (fresh c o e).2
  refine ⟨a, rfl, ⟨_, hqb⟩, for_z (walk_tup (xs := xs)) (fun i σ H' => (∃ s6 s7 s8 s9, σ = [some (.ref a), some (.ref C1), some (.ref C2), some (.ref N), some (.int ((nRows (acr ps) ns0 (ps.take i)).2.2 : Nat)), some (.ref F), s6, s7, s8, s9]) ∧
    NamesAt H' N (nRows (acr ps) ns0 (ps.take i)).2 (2 * i) ∧ (∃ acc, H' F = some (.lst acc) ∧ RowsAt K H' acc (nRows (acr ps) ns0 (ps.take i)).1) ∧ But2 N F Hb H')
    ⟨⟨_, _, _, _, rfl⟩, hN0, ⟨[], hF0, .nil⟩, fun _ _ e _ _ => e⟩ (fun i σ H' _ pv => Z.Same.tup (keep _ pv.2.2.2) hq) (fun i x σ H3 H3' hi pv y => ?_) (fun σ H3 pv => ?_)⟩
  · obtain ⟨⟨s6, s7, s8, s9, e1⟩, pN, ⟨acc, pF, pr⟩, b⟩ := pv
    obtain ⟨rfl, hx⟩ := y
    subst e1
    obtain ⟨p, hp, r, rfl, hrow⟩ := paired_get hr hx
    have hlt : (nRows (acr ps) ns0 (ps.take i)).2.2 ≤ 2 * i := by
      have := nRows_le (acr ps) (ps.take i) ns0
      rw [show ns0.2 = 0 from rfl, List.length_take] at this
      omega
    have hac : acc.length = (ps.take i).length := by rw [pr.length, nRows_length]
    have take : ps.take (i + 1) = ps.take i ++ [p] := by rw [List.take_add_one, hp]; rfl
    have en : nRows (acr ps) ns0 (ps.take (i + 1)) = ((nRows (acr ps) ns0 (ps.take i)).1 ++ [(nRow (acr ps) (nRows (acr ps) ns0 (ps.take i)).2 p).1], (nRow (acr ps) (nRows (acr ps) ns0 (ps.take i)).2 p).2) := by
      rw [take, nRows_append]
      rfl
    refine row_step pN (g10.to fun o e => b _ _ e n1 m1) (g20.to fun o e => b _ _ e n2 m2) pF nNF n1 n2 (Z.Same.tup (keep _ b) hrow) (by omega) (by rw [hac, List.length_take]; omega) (by omega) fun H' T s6' s7' s8' s9' q1 q2 q3 q4 => ?_
    rw [eac] at q1 q3 ⊢
    show (∃ s6 s7 s8 s9, _) ∧ _
    rw [en]
    refine ⟨⟨_, _, _, _, rfl⟩, q1, ⟨_, q2, ?_⟩, fun c o e x1 x2 => q4 _ _ (b _ _ e x1 x2) x1 x2⟩
    obtain ⟨kv, eN, _⟩ := pN
    exact (L2.Paired.mapP pr fun x p h => h.but2 eN pF q4).snoc ⟨T, rfl, q3⟩
  · obtain ⟨⟨s6, s7, s8, s9, e1⟩, pN, ⟨acc, pF, pr⟩, b⟩ := pv
    subst e1
    have en : (nRows (acr ps) ns0 (ps.take xs.length)).1 = norm ps := by
      rw [List.take_of_length_le (by omega)]
      rfl
    rw [en] at pr
    refine ⟨acc, .inl ⟨SqL.of pF, fun D hD => ?_⟩⟩
    have sD : Same H3 (upd H3 D (.tup acc)) := Same.put hD
    exact q D acc _ ((keep _ b).trans sD) (.inl (.inl upd_same)) (RowsAt.same pr sD)
theorem ok_normal_rows {P : Program} {w : World} {K : PySem.W.Frag} {mg : Str → Option Value} {base : Heap} {g : Ads} (T : Txt K mg g) : FnG false P w K mg base 1 g.f_normal_rows g.d_normal_rows ["rows"] (sp_normal_rows K g) := (raw_normal_rows T).imp pf_normal_rows
end Z
namespace Z
open PySem PySem.Spec PyProof.Rows L2
theorem sc_BadPair_init : FnScope ["self", "index"] ["self", "index"] (defScope s_BadPair_init) := ⟨rfl, rfl, rfl, by decide +kernel, rfl, by decide +kernel, by decide +kernel⟩
def R_BadPair_init (K : PySem.W.Frag) (g : Ads) (E : XK) : TS :=
  (tOst K "index" (zVar 0) (zVar 1))
def rw_BadPair_init (K : PySem.W.Frag) (g : Ads) : Sp := fun vs H Q E => vs.length = 2 ∧ R_BadPair_init K g E { nx := fun _ H' => Q .non H', rt := Q } (start ["self", "index"] vs) H
theorem raw_BadPair_init {P : Program} {w : World} {K : PySem.W.Frag} {mg : Str → Option Value} {base : Heap} {g : Ads} (T : Txt K mg g) : FnG false P w K mg base 1 g.f_BadPair_init g.d_BadPair_init ["self", "index"] (rw_BadPair_init K g) := by
  refine okZ T.f_BadPair_init sc_BadPair_init (fun vs H Q E h => h.1) (fun cdv A outer s H vs Q E hr hgu h => ⟨R_BadPair_init K g E, ?_, h.2⟩)
  exact (pss_one (ps_ost (zv 0) (zv 1)))
def pOk (p : Prt) : Prop := ∀ i, p = .int i → -100000000000000000000 < i ∧ i < 100000000000000000000
def sp_is_int (K : PySem.W.Frag) (g : Ads) : Sp := fun vs H Q E => ∃ i, vs = [.int i] ∧ -100000000000000000000 < i ∧ i < 100000000000000000000 ∧ Q (.bl true) H
theorem pf_is_int {K : PySem.W.Frag} {g : Ads} (vs : List V) (H : Hp) (Q : VK) (E : XK) (h : sp_is_int K g vs H Q E) : rw_is_int K g vs H Q E := by
  obtain ⟨i, rfl, h1, h2, q⟩ := h
  refine ⟨rfl, ?_⟩
  show if decide (-100000000000000000000 < i) = true then Q (.bl (decide (i < 100000000000000000000))) H else Q (.bl false) H
  refine zite (fun h => ?_) (fun h => ?_)
  · rw [decide_eq_true h2]
    exact q
  · rw [decide_eq_true h1] at h
    cases h
theorem ok_is_int {P : Program} {w : World} {K : PySem.W.Frag} {mg : Str → Option Value} {base : Heap} {g : Ads} (T : Txt K mg g) : FnG false P w K mg base 1 g.f_is_int g.d_is_int ["thing"] (sp_is_int K g) := (raw_is_int T).imp pf_is_int
theorem sc_is_part : FnScope ["thing"] ["thing"] (defScope s_is_part) := ⟨rfl, rfl, rfl, by decide +kernel, rfl, by decide +kernel, by decide +kernel⟩
def R_is_part (K : PySem.W.Frag) (g : Ads) (E : XK) : TS :=
  (tRet (zOrV (tOp zIs (zVar 0) (tC .non)) (zOrV (zIsiT K .str (zVar 0)) (zCall (sp_is_int K g) [] (WE (fun cls d _ H => E cls d H)) (tCons (zVar 0) tNil)))))
def rw_is_part (K : PySem.W.Frag) (g : Ads) : Sp := fun vs H Q E => vs.length = 1 ∧ R_is_part K g E { nx := fun _ H' => Q .non H', rt := Q } (start ["thing"] vs) H
theorem raw_is_part {P : Program} {w : World} {K : PySem.W.Frag} {mg : Str → Option Value} {base : Heap} {g : Ads} (T : Txt K mg g) : FnG false P w K mg base 2 g.f_is_part g.d_is_part ["thing"] (rw_is_part K g) := by
  refine okZ T.f_is_part sc_is_part (fun vs H Q E h => h.1) (fun cdv A outer s H vs Q E hr hgu h => ⟨R_is_part K g E, ?_, h.2⟩)
  exact (pss_one (ps_ret (pez_or (pe_cmpR op_zIs (zv 0) pe_non (nomark _)) (pez_or (pe_isi (kd := .str) (zv 0) (by rfl) T.b_isinstance (by decide +kernel) (by rfl) T.b_str (by decide +kernel)) (pe_one (pe_callZ (ok_is_int T) (hr.mono (by decide)) (fun z => nomatch z) rfl T.g_is_int T.k_is_int T.e_is_int .nil (fun σ => passAt (takes_of rfl rfl rfl rfl) σ) (pa_cons (zv 0) pa_nil)))))))
def sp_is_part (K : PySem.W.Frag) (g : Ads) : Sp := fun vs H Q E => ∃ p : Prt, vs = [p.v] ∧ pOk p ∧ Q (.bl true) H
theorem pf_is_part {K : PySem.W.Frag} {g : Ads} (vs : List V) (H : Hp) (Q : VK) (E : XK) (h : sp_is_part K g vs H Q E) : rw_is_part K g vs H Q E := by
  obtain ⟨p, rfl, ok, q⟩ := h
  refine ⟨rfl, ?_⟩
  cases p with
  | non => exact ⟨rfl, q⟩
  | str z => exact ⟨rfl, q⟩
  | int i => exact ⟨rfl, i, rfl, (ok i rfl).1, (ok i rfl).2, q⟩
theorem ok_is_part {P : Program} {w : World} {K : PySem.W.Frag} {mg : Str → Option Value} {base : Heap} {g : Ads} (T : Txt K mg g) : FnG false P w K mg base 2 g.f_is_part g.d_is_part ["thing"] (sp_is_part K g) := (raw_is_part T).imp pf_is_part
theorem sc_is_pair_row : FnScope ["thing"] ["thing"] (defScope s_is_pair_row) := ⟨rfl, rfl, rfl, by decide +kernel, rfl, by decide +kernel, by decide +kernel⟩
def R_is_pair_row (K : PySem.W.Frag) (g : Ads) (E : XK) : TS :=
  (tRet (zAndV (zIsiT K .tuple (zVar 0)) (zAndV (tOp (zEq K) (tCB (zLen K) (tCons (zVar 0) tNil)) (tC (.int 2))) (zAndV (zCall (sp_is_part K g) [] (WE (fun cls d _ H => E cls d H)) (tCons (tOp (zIx K) (zVar 0) (tC (.int 0))) tNil)) (zCall (sp_is_part K g) [] (WE (fun cls d _ H => E cls d H)) (tCons (tOp (zIx K) (zVar 0) (tC (.int 1))) tNil))))))
def rw_is_pair_row (K : PySem.W.Frag) (g : Ads) : Sp := fun vs H Q E => vs.length = 1 ∧ R_is_pair_row K g E { nx := fun _ H' => Q .non H', rt := Q } (start ["thing"] vs) H
theorem raw_is_pair_row {P : Program} {w : World} {K : PySem.W.Frag} {mg : Str → Option Value} {base : Heap} {g : Ads} (T : Txt K mg g) : FnG false P w K mg base 3 g.f_is_pair_row g.d_is_pair_row ["thing"] (rw_is_pair_row K g) := by
  refine okZ T.f_is_pair_row sc_is_pair_row (fun vs H Q E h => h.1) (fun cdv A outer s H vs Q E hr hgu h => ⟨R_is_pair_row K g E, ?_, h.2⟩)
  exact (pss_one (ps_ret (pez_and (pe_isi (kd := .tuple) (zv 0) (by rfl) T.b_isinstance (by decide +kernel) (by rfl) T.b_tuple (by decide +kernel)) (pez_and (pe_cmpR (op_zEq hr.units) (pe_callB call_lenZ (by rfl) T.b_len (by decide +kernel) (pa_cons (zv 0) pa_nil)) pe_int (nomark _)) (pez_and (pe_callZ (ok_is_part T) (hr.mono (by decide)) hgu rfl T.g_is_part T.k_is_part T.e_is_part .nil (fun σ => passAt (takes_of rfl rfl rfl rfl) σ) (pa_cons (pe_ix ix_z (zv 0) pe_int (fun _ _ => rfl)) pa_nil)) (pe_one (pe_callZ (ok_is_part T) (hr.mono (by decide)) hgu rfl T.g_is_part T.k_is_part T.e_is_part .nil (fun σ => passAt (takes_of rfl rfl rfl rfl) σ) (pa_cons (pe_ix ix_z (zv 0) pe_int (fun _ _ => rfl)) pa_nil))))))))
def sp_is_pair_row (K : PySem.W.Frag) (g : Ads) : Sp := fun vs H Q E => ∃ (x : V) (p : Rw), vs = [x] ∧ RowAt K H x p ∧ pOk p.1 ∧ pOk p.2 ∧ Q (.bl true) H
theorem pf_is_pair_row {K : PySem.W.Frag} {g : Ads} (vs : List V) (H : Hp) (Q : VK) (E : XK) (h : sp_is_pair_row K g vs H Q E) : rw_is_pair_row K g vs H Q E := by
  obtain ⟨x, p, rfl, ⟨r, rfl, hr⟩, o1, o2, q⟩ := h
  exact ⟨rfl, .tuple, ⟨_, hr⟩, _, .inr hr, .inl ⟨rfl, _, _, .inr hr, rfl, p.1, rfl, o1, _, _, .inr hr, rfl, p.2, rfl, o2, q⟩⟩
theorem ok_is_pair_row {P : Program} {w : World} {K : PySem.W.Frag} {mg : Str → Option Value} {base : Heap} {g : Ads} (T : Txt K mg g) : FnG false P w K mg base 3 g.f_is_pair_row g.d_is_pair_row ["thing"] (sp_is_pair_row K g) := (raw_is_pair_row T).imp pf_is_pair_row
def sp_are_alike_in_kind (K : PySem.W.Frag) (g : Ads) : Sp := fun vs H Q E => ∃ p q : Prt, vs = [p.v, q.v] ∧ ∀ b : Bool, (b = true ↔ alike p q) → Q (.bl b) H
theorem pf_are_alike_in_kind {K : PySem.W.Frag} {g : Ads} (vs : List V) (H : Hp) (Q : VK) (E : XK) (h : sp_are_alike_in_kind K g vs H Q E) : rw_are_alike_in_kind K g vs H Q E := by
  obtain ⟨p, q, rfl, k⟩ := h
  refine ⟨rfl, ?_⟩
  cases p with
  | non =>
    cases q with
    | non => exact ⟨rfl, rfl, rfl, k true (by simp [alike])⟩
    | int j => exact ⟨rfl, rfl, rfl, k false (by simp [alike])⟩
    | str y => exact ⟨rfl, rfl, rfl, k false (by simp [alike])⟩
  | int i =>
    cases q with
    | non => exact ⟨rfl, rfl, rfl, k false (by simp [alike])⟩
    | int j => exact ⟨rfl, rfl, .inl ⟨rfl, k _ (by simp [alike, Prt.v])⟩⟩
    | str y => exact ⟨rfl, rfl, .inl ⟨rfl, k _ (by simp [alike, Prt.v])⟩⟩
  | str z =>
    cases q with
    | non => exact ⟨rfl, rfl, rfl, k false (by simp [alike])⟩
    | int j => exact ⟨rfl, rfl, k true (by simp [alike])⟩
    | str y => exact ⟨rfl, rfl, k true (by simp [alike])⟩
theorem ok_are_alike_in_kind {P : Program} {w : World} {K : PySem.W.Frag} {mg : Str → Option Value} {base : Heap} {g : Ads} (T : Txt K mg g) : FnG false P w K mg base 1 g.f_are_alike_in_kind g.d_are_alike_in_kind ["wide", "given"] (sp_are_alike_in_kind K g) := (raw_are_alike_in_kind T).imp pf_are_alike_in_kind
theorem sc_is_instance : FnScope ["wide", "rows", "one", "other", "at", "row", "place", "beside"] ["wide", "rows"] (defScope s_is_instance) := ⟨rfl, rfl, rfl, by decide +kernel, rfl, by decide +kernel, by decide +kernel⟩
def R_is_instance_4 (K : PySem.W.Frag) (g : Ads) (E : XK) : TS :=
  (tIfS (tOr (tNot (zTru K (zCall (sp_are_alike_in_kind K g) [] (WE (fun cls d _ H => E cls d H)) (tCons (tOp (zIx K) (zVar 2) (tC (.int 0))) (tCons (tOp (zIx K) (zVar 3) (tC (.int 0))) tNil))))) (tNot (zTru K (zCall (sp_are_alike_in_kind K g) [] (WE (fun cls d _ H => E cls d H)) (tCons (tOp (zIx K) (zVar 2) (tC (.int 1))) (tCons (tOp (zIx K) (zVar 3) (tC (.int 1))) tNil))))))
  (tRet (tC (.bl false)))
  tNext)
def R_is_instance_9 (K : PySem.W.Frag) (g : Ads) (E : XK) : TS :=
  (tIfS (tAnd (zTest (tOp (zEq K) (tOp (zIx K) (zVar 7) (tC (.int 1))) (tOp (zIx K) (zVar 5) (tC (.int 0))))) (zTest (tOp (zNe K) (tOp (zIx K) (tOp (zIx K) (zVar 1) (zVar 6)) (tC (.int 1))) (tOp (zIx K) (tOp (zIx K) (zVar 1) (zVar 4)) (tC (.int 0))))))
  (tRet (tC (.bl false)))
  tNext)
def R_is_instance_8 (K : PySem.W.Frag) (g : Ads) (E : XK) : TS :=
  (zFor (zEnum K (tCons (zVar 0) tNil)) (gTup K 2 (gCons (gName 6) (gCons (gName 7) gNil)))
  (R_is_instance_9 K g E))
def R_is_instance_7 (K : PySem.W.Frag) (g : Ads) (E : XK) : TS :=
  (tIfS (zTru K (zIsiT K .str (tOp (zIx K) (zVar 5) (tC (.int 0)))))
  (R_is_instance_8 K g E)
  tNext)
def R_is_instance_6 (K : PySem.W.Frag) (g : Ads) (E : XK) : TS :=
  (tSeq (zFor (zEnum K (tCons (zVar 0) tNil)) (gTup K 2 (gCons (gName 4) (gCons (gName 5) gNil)))
  (R_is_instance_7 K g E))
  (tRet (tC (.bl true))))
def R_is_instance_3 (K : PySem.W.Frag) (g : Ads) (E : XK) : TS :=
  (tSeq (zFor (RZ.iZipA K (tCons (zVar 0) (tCons (zVar 1) tNil))) (gTup K 2 (gCons (gName 2) (gCons (gName 3) gNil)))
  (R_is_instance_4 K g E))
  (R_is_instance_6 K g E))
def R_is_instance (K : PySem.W.Frag) (g : Ads) (E : XK) : TS :=
  (tSeq (tIfS (zTest (tOp (zNe K) (tCB (zLen K) (tCons (zVar 0) tNil)) (tCB (zLen K) (tCons (zVar 1) tNil))))
  (tRet (tC (.bl false)))
  tNext)
  (R_is_instance_3 K g E))
def rw_is_instance (K : PySem.W.Frag) (g : Ads) : Sp := fun vs H Q E => vs.length = 2 ∧ R_is_instance K g E { nx := fun _ H' => Q .non H', rt := Q } (start ["wide", "rows", "one", "other", "at", "row", "place", "beside"] vs) H
theorem raw_is_instance {P : Program} {w : World} {K : PySem.W.Frag} {mg : Str → Option Value} {base : Heap} {g : Ads} (T : Txt K mg g) : FnG false P w K mg base 2 g.f_is_instance g.d_is_instance ["wide", "rows"] (rw_is_instance K g) := by
  refine okZ T.f_is_instance sc_is_instance (fun vs H Q E h => h.1) (fun cdv A outer s H vs Q E hr hgu h => ⟨R_is_instance K g E, ?_, h.2⟩)
  exact (pss_cons (ps_if (ptz_cmp (op_zNe hr.units) (pe_callB call_lenZ (by rfl) T.b_len (by decide +kernel) (pa_cons (zv 0) pa_nil)) (pe_callB call_lenZ (by rfl) T.b_len (by decide +kernel) (pa_cons (zv 1) pa_nil)) (nomark _))
  (pss_one (ps_ret pe_bl))
  pss_nil)
  (pss_cons (psz_for PassesOwn.leaving rfl (RZ.pi_zipA (by rfl) T.b_zip (pa_cons (zv 0) (pa_cons (zv 1) pa_nil))) (pg_tup rfl (pgs_cons (pg_name (i := 2) sc_is_instance.nd rfl (Or.inl rfl)) (pgs_cons (pg_name (i := 3) sc_is_instance.nd rfl (Or.inl rfl)) pgs_nil)))
  (pss_one (ps_if (PW.pt (pw_or (pt_not (ptz_truth (pe_callZ (ok_are_alike_in_kind T) (hr.mono (by decide)) (fun z => nomatch z) rfl T.g_are_alike_in_kind T.k_are_alike_in_kind T.e_are_alike_in_kind .nil (fun σ => passAt (takes_of rfl rfl rfl rfl) σ) (pa_cons (pe_ix ix_z (zv 2) pe_int (fun _ _ => rfl)) (pa_cons (pe_ix ix_z (zv 3) pe_int (fun _ _ => rfl)) pa_nil))) (by intro _; rfl))) (pw_or1 (pt_not (ptz_truth (pe_callZ (ok_are_alike_in_kind T) (hr.mono (by decide)) (fun z => nomatch z) rfl T.g_are_alike_in_kind T.k_are_alike_in_kind T.e_are_alike_in_kind .nil (fun σ => passAt (takes_of rfl rfl rfl rfl) σ) (pa_cons (pe_ix ix_z (zv 2) pe_int (fun _ _ => rfl)) (pa_cons (pe_ix ix_z (zv 3) pe_int (fun _ _ => rfl)) pa_nil))) (by intro _; rfl))))))
  (pss_one (ps_ret pe_bl))
  pss_nil)))
  (pss_cons (psz_for PassesOwn.leaving rfl (pi_zEnum (by rfl) T.b_enumerate (pa_cons (zv 0) pa_nil)) (pg_tup rfl (pgs_cons (pg_name (i := 4) sc_is_instance.nd rfl (Or.inl rfl)) (pgs_cons (pg_name (i := 5) sc_is_instance.nd rfl (Or.inl rfl)) pgs_nil)))
  (pss_one (ps_if (ptz_truth (pe_isi (kd := .str) (pe_ix ix_z (zv 5) pe_int (fun _ _ => rfl)) (by rfl) T.b_isinstance (by decide +kernel) (by rfl) T.b_str (by decide +kernel)) (by intro _; rfl))
  (pss_one (psz_for PassesOwn.leaving rfl (pi_zEnum (by rfl) T.b_enumerate (pa_cons (zv 0) pa_nil)) (pg_tup rfl (pgs_cons (pg_name (i := 6) sc_is_instance.nd rfl (Or.inl rfl)) (pgs_cons (pg_name (i := 7) sc_is_instance.nd rfl (Or.inl rfl)) pgs_nil)))
  (pss_one (ps_if (PW.pt (pw_and (ptz_cmp (op_zEq hr.units) (pe_ix ix_z (zv 7) pe_int (fun _ _ => rfl)) (pe_ix ix_z (zv 5) pe_int (fun _ _ => rfl)) (nomark _)) (pw_and1 (ptz_cmp (op_zNe hr.units) (pe_ix ix_z (pe_ix ix_z (zv 1) (zv 6) (fun _ _ => rfl)) pe_int (fun _ _ => rfl)) (pe_ix ix_z (pe_ix ix_z (zv 1) (zv 4) (fun _ _ => rfl)) pe_int (fun _ _ => rfl)) (nomark _)))))
  (pss_one (ps_ret pe_bl))
  pss_nil))))
  pss_nil)))
  (pss_one (ps_ret pe_bl)))))

theorem walk_zt {K : PySem.W.Frag} {a b : Addr} {xs ys : List V} {n : Nat} (hx : xs.length = n) (hy : ys.length = n) : Walk (RZ.ItzT K a b) n (fun H => SqT K H a xs ∧ SqT K H b ys) (YPair (fun i => xs[i]?) (fun i => ys[i]?)) := by
  refine ⟨fun i H hi q => ⟨xs, ys, xs[i]'(by omega), ys[i]'(by omega), q.1, q.2, by simp [show i < xs.length by omega], by simp [show i < ys.length by omega]⟩, fun H q => ⟨xs, ys, q.1, q.2, .inl (by omega)⟩, fun i H v H' _ q y => ?_⟩
  obtain ⟨T, x, z, h1, h2, h3, h4, h5⟩ := y
  exact ⟨T, x, z, h1, h2, h3, h4 xs q.1, h5 ys q.2⟩
theorem scal_v (a b : Prt) : scal a.v b.v = true := by cases a <;> cases b <;> rfl
theorem at_n {xs : List V} {i : Nat} {x : V} (h : xs[i]? = some x) : atI xs ((i : Nat) : Int) = some x := atI_nat h
def sp_is_instance (K : PySem.W.Frag) (g : Ads) : Sp := fun vs H Q E => ∃ (a b : Addr) (xs ys : List V) (W G : List Rw), vs = [.ref a, .ref b] ∧ SqT K H a xs ∧ SqT K H b ys ∧ RowsAt K H xs W ∧ RowsAt K H ys G ∧
  ∀ (c : Bool) H', Same H H' → (c = true ↔ Inst W G) → Q (.bl c) H'
theorem pf_is_instance {K : PySem.W.Frag} {g : Ads} (vs : List V) (H : Hp) (Q : VK) (E : XK) (h : sp_is_instance K g vs H Q E) : rw_is_instance K g vs H Q E := by
  obtain ⟨a, b, xs, ys, W, G, rfl, hx, hy, rx, ry, q⟩ := h
  have lx : xs.length = W.length := rx.length
  have ly : ys.length = G.length := ry.length
  have no : ∀ H', Same H H' → ¬ Inst W G → Q (.bl false) H' := fun H' s n => q false H' s ⟨fun h => (nomatch h), fun h => absurd h n⟩
  refine ⟨rfl, _, .inr hx, _, .inr hy, .inl ⟨rfl, zite (fun h => ?_) fun h => ?_⟩⟩
  · refine no H (Same.refl H) fun I => ?_
    have e : xs.length = ys.length := by rw [lx, ly]; exact I.len
    simp [e] at h
  have el : ys.length = xs.length := by
    have : (xs.length : Int) = ys.length := by simpa using h
    omega
  have eW : W.length = G.length := by omega
  -- the kinds
  refine ⟨a, b, xs, ys, rfl, .inr ⟨hx, hy, for_z (walk_zt (n := xs.length) rfl el) (fun i σ H' => (∃ s2 s3, σ = [some (.ref a), some (.ref b), s2, s3, none, none, none, none]) ∧ Same H H' ∧
    ∀ j p p', j < i → W[j]? = some p → G[j]? = some p' → alike p.1 p'.1 ∧ alike p.2 p'.2) ⟨⟨_, _, rfl⟩, Same.refl H, fun j p p' hj => absurd hj (Nat.not_lt_zero _)⟩
    (fun i σ H' _ pv => ⟨Z.Same.tup pv.2.1 hx, Z.Same.tup pv.2.1 hy⟩) (fun i x σ H1 H2 hi pv y => ?_) (fun σ H1 pv => ?_)⟩⟩
  · obtain ⟨⟨s2, s3, e1⟩, s1, kk⟩ := pv
    obtain ⟨T, x1, x2, rfl, hT, rfl, g1, g2⟩ := y
    have g1 : xs[i]? = some x1 := g1
    have g2 : ys[i]? = some x2 := g2
    subst e1
    obtain ⟨p, gp, r1, rfl, hr1⟩ := paired_get rx g1
    obtain ⟨p', gp', r2, rfl, hr2⟩ := paired_get ry g2
    have sT := s1.trans (Same.put (o := .tup [.ref r1, .ref r2]) hT)
    have h1 := Z.Same.tup sT hr1
    have h2 := Z.Same.tup sT hr2
    refine ⟨T, _, rfl, SqT.of upd_same, rfl, _, _, rfl, _, _, rfl, rfl, ?_⟩
    refine ⟨_, _, .inr h1, rfl, _, _, .inr h2, rfl, p.1, p'.1, rfl, fun b1 hb1 => zite (fun e1 => ?_) (fun e1 => ⟨_, _, .inr h1, rfl, _, _, .inr h2, rfl, p.2, p'.2, rfl, fun b2 hb2 => zite (fun e2 => ?_) (fun e2 => ?_)⟩)⟩
    · refine zite (fun _ => no _ sT fun I => ?_) fun h => by cases h
      have := hb1.mpr (I.kin i p p' gp gp').1
      rw [this] at e1
      cases e1
    · refine no _ sT fun I => ?_
      have := hb2.mpr (I.kin i p p' gp gp').2
      rw [this] at e2
      cases e2
    · refine ⟨⟨_, _, rfl⟩, sT, fun j u u' hj gu gu' => ?_⟩
      rcases Nat.lt_or_ge j i with lt | ge
      · exact kk j u u' lt gu gu'
      · obtain rfl : j = i := by omega
        rw [gp] at gu
        rw [gp'] at gu'
        cases gu
        cases gu'
        exact ⟨hb1.mp (by simpa using e1), hb2.mp (by simpa using e2)⟩
  · obtain ⟨⟨s2, s3, e1⟩, s1, kk⟩ := pv
    subst e1
    -- the bindings
    let Bd : Nat → Nat → Prop := fun i j => ∀ p u p' u', W[i]? = some p → W[j]? = some u → G[i]? = some p' → G[j]? = some u' → ∀ z, p.1 = .str z → u.2 = .str z → u'.2 = p'.1
    refine ⟨a, xs, rfl, .inr ⟨Z.Same.tup s1 hx, for_z (walk_zeT (xs := xs)) (fun i σ H' => (∃ s2 s3 s4 s5 s6 s7, σ = [some (.ref a), some (.ref b), s2, s3, s4, s5, s6, s7]) ∧ Same H H' ∧ ∀ k j, k < i → Bd k j)
      ⟨⟨_, _, _, _, _, _, rfl⟩, s1, fun k j hk => absurd hk (Nat.not_lt_zero _)⟩ (fun i σ H' _ pv => Z.Same.tup pv.2.1 hx) (fun i x σ H1 H2 hi pv y => ?_) (fun σ H1 pv => ?_)⟩⟩
    · obtain ⟨⟨s2, s3, s4, s5, s6, s7, e1⟩, s1, bb⟩ := pv
      obtain ⟨T, x1, x2, rfl, hT, rfl, g1, g2⟩ := y
      cases g1
      have g2 : xs[i]? = some x2 := g2
      subst e1
      obtain ⟨p, gp, r1, rfl, hr1⟩ := paired_get rx g2
      obtain ⟨x', gx'⟩ : ∃ x', ys[i]? = some x' := ⟨ys[i]'(by omega), by simp [show i < ys.length by omega]⟩
      obtain ⟨p', gp', r2, rfl, hr2⟩ := paired_get ry gx'
      have sT := s1.trans (Same.put (o := .tup [.int (i : Nat), .ref r1]) hT)
      have h1 := Z.Same.tup sT hr1
      have step : ∀ H', Same H H' → (∀ j, Bd i j) → ∀ k j, k < i + 1 → Bd k j := by
        intro H' _ h k j hk
        rcases Nat.lt_or_ge k i with lt | ge
        · exact bb k j lt
        · obtain rfl : k = i := by omega
          exact h j
      refine ⟨T, _, rfl, SqT.of upd_same, rfl, _, _, rfl, _, _, rfl, rfl, ?_⟩
      refine ⟨_, _, .inr h1, rfl, ?_⟩
      cases ep : p.1 with
      | non => exact ⟨⟨_, _, _, _, _, _, rfl⟩, sT, step _ sT fun j u v u' v' w1 _ _ _ z hz => by rw [gp] at w1; cases w1; rw [ep] at hz; cases hz⟩
      | int n => exact ⟨⟨_, _, _, _, _, _, rfl⟩, sT, step _ sT fun j u v u' v' w1 _ _ _ z hz => by rw [gp] at w1; cases w1; rw [ep] at hz; cases hz⟩
      | str z =>
        refine ⟨a, xs, rfl, .inr ⟨Z.Same.tup sT hx, for_z (walk_zeT (xs := xs)) (fun j σ H' => (∃ s6 s7, σ = [some (.ref a), some (.ref b), s2, s3, some (.int (i : Nat)), some (.ref r1), s6, s7]) ∧ Same H H' ∧ ∀ k, k < j → Bd i k)
          ⟨⟨_, _, rfl⟩, sT, fun k hk => absurd hk (Nat.not_lt_zero _)⟩ (fun j σ H' _ pv => Z.Same.tup pv.2.1 hx) (fun j x σ H3 H4 hj pv y => ?_) (fun σ H3 pv => ?_)⟩⟩
        · obtain ⟨⟨s6, s7, e1⟩, s3', cc⟩ := pv
          obtain ⟨T2, y1, y2, rfl, hT2, rfl, f1, f2⟩ := y
          cases f1
          have f2 : xs[j]? = some y2 := f2
          subst e1
          obtain ⟨u, gu, r3, rfl, hr3⟩ := paired_get rx f2
          obtain ⟨v', gv'⟩ : ∃ x', ys[j]? = some x' := ⟨ys[j]'(by omega), by simp [show j < ys.length by omega]⟩
          obtain ⟨u', gu', r4, rfl, hr4⟩ := paired_get ry gv'
          have s5 := s3'.trans (Same.put (o := .tup [.int (j : Nat), .ref r3]) hT2)
          have m1 := Z.Same.tup s5 hr1
          have m3 := Z.Same.tup s5 hr3
          have m2 := Z.Same.tup s5 hr2
          have m4 := Z.Same.tup s5 hr4
          have my := Z.Same.tup s5 hy
          have next : (u.2 = p.1 → u'.2 = p'.1) → ∀ k, k < j + 1 → Bd i k := by
            intro h k hk
            rcases Nat.lt_or_ge k j with lt | ge
            · exact cc k lt
            · obtain rfl : k = j := by omega
              intro a1 a2 a3 a4 w1 w2 w3 w4 z' z1 z2
              rw [gp] at w1
              rw [gu] at w2
              rw [gp'] at w3
              rw [gu'] at w4
              cases w1
              cases w2
              cases w3
              cases w4
              exact h (z2.trans z1.symm)
          refine ⟨T2, _, rfl, SqT.of upd_same, rfl, _, _, rfl, _, _, rfl, rfl, ?_⟩
          refine ⟨_, _, .inr m3, rfl, _, _, .inr m1, rfl, .inl ⟨scal_v _ _, zite (fun e1 => ?_) fun e1 => ?_⟩⟩
          · have e1 : u.2 = p.1 := Prt.v_inj (of_decide_eq_true e1)
            refine ⟨_, _, .inr my, at_n gv', _, _, .inr m4, rfl, _, _, .inr my, at_n gx', _, _, .inr m2, rfl, .inl ⟨scal_v _ _, zite (fun e2 => ?_) fun e2 => ?_⟩⟩
            · refine no _ s5 fun I => ?_
              have := I.bnd i j p u p' u' gp gu gp' gu' z ep (e1.trans ep)
              rw [this] at e2
              simp at e2
            · refine ⟨⟨_, _, rfl⟩, s5, next fun _ => ?_⟩
              have : u'.2.v = p'.1.v := by simpa using e2
              exact Prt.v_inj this
          · refine zite (fun h => by cases h) fun _ => ⟨⟨_, _, rfl⟩, s5, next fun h => ?_⟩
            rw [h] at e1
            simp at e1
        · obtain ⟨⟨s6, s7, e1⟩, s3', cc⟩ := pv
          subst e1
          refine ⟨⟨_, _, _, _, _, _, rfl⟩, s3', step _ s3' fun j => ?_⟩
          rcases Nat.lt_or_ge j xs.length with lt | ge
          · exact cc j lt
          · intro a1 a2 a3 a4 w1 w2
            have := (List.getElem?_eq_some_iff.mp w2).1
            omega
    · obtain ⟨_, s1, bb⟩ := pv
      refine q true H1 s1 ⟨fun _ => ⟨eW, fun i p p' gp gp' => ?_, fun i j p u p' u' gp gu gp' gu' => ?_⟩, fun _ => rfl⟩
      · exact kk i p p' (by have := (List.getElem?_eq_some_iff.mp gp).1; omega) gp gp'
      · exact bb i j (by have := (List.getElem?_eq_some_iff.mp gp).1; omega) p u p' u' gp gu gp' gu'
theorem ok_is_instance {P : Program} {w : World} {K : PySem.W.Frag} {mg : Str → Option Value} {base : Heap} {g : Ads} (T : Txt K mg g) : FnG false P w K mg base 2 g.f_is_instance g.d_is_instance ["wide", "rows"] (sp_is_instance K g) := (raw_is_instance T).imp pf_is_instance
end Z
namespace Z
open PySem PySem.Spec PyProof.Rows L2
def sp_BadPair_init (K : PySem.W.Frag) (g : Ads) : Sp := rw_BadPair_init K g
theorem ok_BadPair_init {P : Program} {w : World} {K : PySem.W.Frag} {mg : Str → Option Value} {base : Heap} {g : Ads} (T : Txt K mg g) : FnG false P w K mg base 1 g.f_BadPair_init g.d_BadPair_init ["self", "index"] (sp_BadPair_init K g) := raw_BadPair_init T
/-! ### a pair as it lies -/
def apUpTo (R : List Rw) (i : Nat) : List Nat := (List.range i).filter fun j => match R[j]? with | some p => !decide (p.1 = p.2) | none => false
/-- the indices of the rows whose parts differ -/
def ApartOf (R : List Rw) (ap : List Nat) : Prop := ap = apUpTo R R.length
structure PairAt (K : PySem.W.Frag) (g : Ads) (H : Hp) (o : Addr) (R : List Rw) (ap : List Nat) : Prop where
  ex : ∃ (dx ra aa : Addr) (fs : List (Str × V)) (ys : List V), H o = some (.ins g.c_Pair dx fs) ∧ fs.lookup ("rows" : Str) = some (V.ref ra) ∧ fs.lookup ("apart" : Str) = some (V.ref aa) ∧ SqT K H ra ys ∧ RowsAt K H ys R ∧
    SqT K H aa (ap.map fun i => V.int (i : Nat))
  apo : ApartOf R ap
  nf : ∃ ps, R = norm ps
  ln : R.length ≤ 1000 ∧ ap.length ≤ 1000
theorem PairAt.same {K : PySem.W.Frag} {g : Ads} {H H' : Hp} {o : Addr} {R : List Rw} {ap : List Nat} (h : PairAt K g H o R ap) (s : Same H H') : PairAt K g H' o R ap := by
  obtain ⟨⟨dx, ra, aa, fs, ys, h1, h2, h3, h4, h5, h6⟩, h7, h8, h9⟩ := h
  exact ⟨⟨dx, ra, aa, fs, ys, s _ _ h1, h2, h3, Z.Same.tup s h4, RowsAt.same h5 s, Z.Same.tup s h6⟩, h7, h8, h9⟩
theorem sc_Pair_init : FnScope ["self", "rows", "index", "row"] ["self", "rows"] (defScope s_Pair_init) := ⟨rfl, rfl, rfl, by decide +kernel, rfl, by decide +kernel, by decide +kernel⟩
def R_Pair_init_3 (K : PySem.W.Frag) (g : Ads) (E : XK) : TS :=
  (zRaise (fun cls d _ H => E cls d H) g.c_BadPair (sp_BadPair_init K g) (tCons (zVar 2) tNil))
def R_Pair_init_2 (K : PySem.W.Frag) (g : Ads) (E : XK) : TS :=
  (tIfS (tNot (zTru K (zCall (sp_is_pair_row K g) [] (WE (fun cls d _ H => E cls d H)) (tCons (zVar 3) tNil))))
  (R_Pair_init_3 K g E)
  tNext)
def R_Pair_init_5 (K : PySem.W.Frag) (g : Ads) (E : XK) : TS :=
  (sFld K (zVar 0) (tCB (zTupOf K) (tCons (zLc (zEnum K (tCons (tFld K (zVar 0) "rows") tNil)) (gTup K 2 (gCons (gName 2) (gCons (gName 3) gNil))) (zTest (tOp (zNe K) (tOp (zIx K) (zVar 3) (tC (.int 0))) (tOp (zIx K) (zVar 3) (tC (.int 1))))) (zVar 2) [2, 3]) tNil)) "apart")
def R_Pair_init_4 (K : PySem.W.Frag) (g : Ads) (E : XK) : TS :=
  (tSeq (sFld K (zVar 0) (zCall (sp_normal_rows K g) [] (WE (fun cls d _ H => E cls d H)) (tCons (zVar 1) tNil)) "rows")
  (R_Pair_init_5 K g E))
def R_Pair_init (K : PySem.W.Frag) (g : Ads) (E : XK) : TS :=
  (tSeq (zFor (zEnum K (tCons (zVar 1) tNil)) (gTup K 2 (gCons (gName 2) (gCons (gName 3) gNil)))
  (R_Pair_init_2 K g E))
  (R_Pair_init_4 K g E))
def rw_Pair_init (K : PySem.W.Frag) (g : Ads) : Sp := fun vs H Q E => vs.length = 2 ∧ R_Pair_init K g E { nx := fun _ H' => Q .non H', rt := Q } (start ["self", "rows", "index", "row"] vs) H
theorem raw_Pair_init {P : Program} {w : World} {K : PySem.W.Frag} {mg : Str → Option Value} {base : Heap} {g : Ads} (T : Txt K mg g) : FnR P w K mg base (L2.CX P w) 4 g.f_Pair_init (spStar 1 (rw_Pair_init K g)) := by
  refine okStar (ps := ["self"]) (pv := "rows") T.f_Pair_init sc_Pair_init (fun kV doc pm an cdv ct => StX.bind_star1 (B := fun l => bindArgs (PySem.W.fnOf "__init__" "Pair.__init__" (defArgs s_Pair_init) (defBody s_Pair_init) (defScope s_Pair_init) .none kV doc pm an cdv ct) ⟨l, []⟩) (fun _ => rfl) (fun _ _ _ => rfl)) (fun cdv A outer s H vs Q E hr h => ⟨R_Pair_init K g E, ?_, h.2⟩)
  exact (pss_cons (psz_for PassesOwn.leaving rfl (pi_zEnum (by rfl) T.b_enumerate (pa_cons (zv 1) pa_nil)) (pg_tup rfl (pgs_cons (pg_name (i := 2) sc_Pair_init.nd rfl (Or.inl rfl)) (pgs_cons (pg_name (i := 3) sc_Pair_init.nd rfl (Or.inl rfl)) pgs_nil)))
  (pss_one (ps_if (pt_not (ptz_truth (pe_callZ (ok_is_pair_row T) (hr.mono (by decide)) (fun z => nomatch z) rfl T.g_is_pair_row T.k_is_pair_row T.e_is_pair_row .nil (fun σ => passAt (takes_of rfl rfl rfl rfl) σ) (pa_cons (zv 3) pa_nil)) (by intro _; rfl)))
  (pss_one (ps_raise rfl (takes_of rfl rfl rfl rfl) (pmk_Z T.o_BadPair T.i_BadPair T.t_BadPair (ok_BadPair_init T) (hr.mono (by decide)) (fun z => nomatch z) T.e_BadPair_init rfl T.g_BadPair (by exact (pa_cons (zv 2) pa_nil)))))
  pss_nil)))
  (pss_cons (ps_fld (zv 0) (pe_callZ (ok_normal_rows T) (hr.mono (by decide)) (fun z => nomatch z) rfl T.g_normal_rows T.k_normal_rows T.e_normal_rows .nil (fun σ => passAt (takes_of rfl rfl rfl rfl) σ) (pa_cons (zv 1) pa_nil)) rfl)
  (pss_one (ps_fld (zv 0) (pe_callTy call_tupZ (by rfl) T.b_tuple (by decide +kernel) (pa_cons (pez_lc (own := [("index", 2), ("row", 3)]) rfl sc_Pair_init.nd (pi_zEnum (by rfl) T.b_enumerate (pa_cons (pe_fld (zv 0) rfl) pa_nil)) (blkOk_by (own := [("index", 2), ("row", 3)]) (N := ["self", "rows", "index", "row"]) (sc := defScope s_Pair_init) (by decide +kernel)) (fun _ _ _ _ _ => pg_tup rfl (pgs_cons (pg_name (i := 2) sc_Pair_init.nd rfl (Or.inl rfl)) (pgs_cons (pg_name (i := 3) sc_Pair_init.nd rfl (Or.inl rfl)) pgs_nil))) (fun _ _ _ _ _ => pts_one (ptz_cmp (op_zNe hr.units) (pe_ix ix_z (zv 3) pe_int (fun _ _ => rfl)) (pe_ix ix_z (zv 3) pe_int (fun _ _ => rfl)) (nomark _))) (fun _ _ _ _ _ => (zv 2))) pa_nil)) rfl))))
theorem apUpTo_succ {R : List Rw} {i : Nat} {p : Rw} (h : R[i]? = some p) : apUpTo R (i + 1) = if p.1 = p.2 then apUpTo R i else apUpTo R i ++ [i] := by
  unfold apUpTo
  rw [List.range_succ, List.filter_append]
  by_cases e : p.1 = p.2
  · rw [if_pos e]
    simp [h, e]
  · rw [if_neg e]
    simp [h, e]
theorem apUpTo_all (R : List Rw) : ApartOf R (apUpTo R R.length) := rfl
def sp_Pair_init (K : PySem.W.Frag) (g : Ads) : Sp := fun vs H Q E => ∃ (o dx : Addr) (xs : List V) (ps : List Rw), vs = .ref o :: xs ∧ H o = some (.ins g.c_Pair dx []) ∧ RowsAt K H xs ps ∧ (∀ p ∈ ps, pOk p.1 ∧ pOk p.2) ∧ xs.length ≤ 1000 ∧
  ∀ H' ap, But o H H' → PairAt K g H' o (norm ps) ap → Q .non H'
theorem pf_Pair_init {K : PySem.W.Frag} {mg : Str → Option Value} {g : Ads} (T : Txt K mg g) (vs : List V) (H : Hp) (Q : VK) (E : XK) (h : sp_Pair_init K g vs H Q E) : spStar 1 (rw_Pair_init K g) vs H Q E := by
  obtain ⟨o, dx, xs, ps, rfl, ho, hr, ok, hl, q⟩ := h
  refine ⟨[.ref o], xs, rfl, rfl, Nat.le_trans hl (by decide), fun t ht => ⟨rfl, ?_⟩⟩
  have st : Same H (upd H t (.tup xs)) := Same.put ht
  have ho1 := st _ _ ho
  have hr1 := RowsAt.same hr st
  have hq1 : SqT K (upd H t (.tup xs)) t xs := .inl (.inl upd_same)
  generalize upd H t (.tup xs) = H1 at st ho1 hr1 hq1
  have len : ps.length = xs.length := hr.length.symm
  refine ⟨t, xs, rfl, .inr ⟨hq1, for_z (walk_zeT (xs := xs)) (fun i σ H' => (∃ s2 s3, σ = [some (.ref o), some (.ref t), s2, s3]) ∧ Same H1 H') ⟨⟨_, _, rfl⟩, Same.refl H1⟩ (fun i σ H' _ pv => Z.Same.tup pv.2 hq1) (fun i x σ H2 H3 hi pv y => ?_) (fun σ H2 pv => ?_)⟩⟩
  · obtain ⟨⟨s2, s3, e1⟩, s1⟩ := pv
    obtain ⟨T2, x1, x2, rfl, hT, rfl, g1, g2⟩ := y
    cases g1
    have g2 : xs[i]? = some x2 := g2
    subst e1
    obtain ⟨p, gp, hrow⟩ := paired_get hr1 g2
    have s5 := s1.trans (Same.put (o := .tup [.int (i : Nat), x2]) hT)
    obtain ⟨o1, o2⟩ := ok p (List.mem_of_getElem? gp)
    exact ⟨T2, _, rfl, SqT.of upd_same, rfl, _, _, rfl, _, _, rfl, rfl, x2, p, rfl, hrow.same s5, o1, o2, zite (fun h => by cases h) fun _ => ⟨⟨_, _, rfl⟩, s5⟩⟩
  · obtain ⟨⟨s2, s3, e1⟩, s1⟩ := pv
    subst e1
    refine ⟨t, xs, ps, rfl, Z.Same.tup s1 hq1, RowsAt.same hr1 s1, hl, fun D ys H3 s3' hD hy => ?_⟩
    have ho3 := s3' _ _ (s1 _ _ ho1)
    refine ⟨o, _, dx, [], rfl, ho3, T.cl_Pair, T.na_Pair_rows, by decide, ?_⟩
    have b1 : But o H3 (upd H3 o (.ins g.c_Pair dx [("rows", .ref D)])) := But.put
    have e4 : (upd H3 o (.ins g.c_Pair dx [("rows", .ref D)])) o = some (.ins g.c_Pair dx [("rows", .ref D)]) := upd_same
    have nt : ∀ {a : Addr} {zs : List V} {H' : Hp}, But o H3 H' → SqT K H3 a zs → SqT K H' a zs := by
      intro a zs H' b h
      rcases h with (h | ⟨u, h⟩) | h
      · exact .inl (.inl (b _ _ h fun z => by rw [z, ho3] at h; cases h))
      · exact .inl (.inr ⟨u, b _ _ h fun z => by rw [z, ho3] at h; cases h⟩)
      · exact .inr h
    have nr : ∀ {H' : Hp}, But o H3 H' → RowsAt K H' ys (norm ps) := fun b => L2.Paired.mapP hy fun x p ⟨r, e, h⟩ => ⟨r, e, nt b h⟩
    show R_Pair_init_5 K g E { nx := fun _ H' => Q .non H', rt := Q } [some (.ref o), some (.ref t), s2, s3] (upd H3 o (.ins g.c_Pair dx [("rows", .ref D)]))
    generalize upd H3 o (.ins g.c_Pair dx [("rows", .ref D)]) = H4 at b1 e4
    have ln : ys.length = (norm ps).length := hy.length
    have l2 : (norm ps).length = xs.length := by rw [norm_length, len]
    refine ⟨o, _, dx, _, .ref D, rfl, e4, T.cl_Pair, T.na_Pair_rows, rfl, D, ys, rfl, .inr ⟨nt b1 hD, ?_⟩⟩
    refine lc_z (walk_zeT (xs := ys)) (fun L i H' => Same H4 H' ∧ H' L = some (.lst ((apUpTo (norm ps) i).map fun i => V.int (i : Nat)))) (fun L hL => ⟨Same.put hL, upd_same⟩) (fun L i H' hL _ pv => Z.Same.tup pv.1 (nt b1 hD)) (fun L i x H5 H6 hL hi pv y => ?_) (fun L H5 hL pv => ?_)
    · obtain ⟨s4, e5⟩ := pv
      obtain ⟨T2, x1, x2, rfl, hT, rfl, g1, g2⟩ := y
      cases g1
      have g2 : ys[i]? = some x2 := g2
      obtain ⟨p, gp, r, rfl, hrow⟩ := paired_get (nr b1) g2
      have sT : Same H5 (upd H5 T2 (.tup [.int (i : Nat), .ref r])) := Same.put hT
      have s6 := s4.trans sT
      have hrow' := Z.Same.tup s6 hrow
      refine ⟨T2, _, rfl, SqT.of upd_same, rfl, _, _, rfl, _, _, rfl, rfl, rfl, ?_⟩
      refine ⟨_, _, .inr hrow', rfl, _, _, .inr hrow', rfl, .inl ⟨scal_v _ _, zite (fun h => ?_) fun h => ?_⟩⟩
      · have ne : p.1 ≠ p.2 := fun e => by rw [e] at h; simp at h
        refine ⟨_, sT _ _ e5, ?_, ?_, ?_⟩
        · refine Nat.lt_of_le_of_lt (show _ ≤ 1000 from ?_) (by decide)
          rw [List.length_map]
          refine Nat.le_trans (List.length_filter_le _ _) ?_
          rw [List.length_range]
          omega
        · intro b u e
          rw [upd_ne (ne_of_none e hL)]
          exact s6 _ _ e
        · rw [upd_same, apUpTo_succ gp, if_neg ne, List.map_append]
          rfl
      · have eq : p.1 = p.2 := by
          have : p.1.v = p.2.v := by simpa using h
          exact Prt.v_inj this
        exact ⟨s6, by rw [apUpTo_succ gp, if_pos eq]; exact sT _ _ e5⟩
    · obtain ⟨s4, e5⟩ := pv
      refine ⟨_, .inl ⟨SqL.of e5, fun A hA => ?_⟩⟩
      have sA : Same H5 (upd H5 A (.tup ((apUpTo (norm ps) ys.length).map fun i => V.int (i : Nat)))) := Same.put hA
      refine ⟨o, _, dx, _, rfl, sA _ _ (s4 _ _ e4), T.cl_Pair, T.na_Pair_apart, (show 1 < 1000 by decide), ?_⟩
      have nAo : A ≠ o := (ne_of_none (s4 _ _ e4) hA).symm
      have b9 : But o H3 (upd (upd H5 A (.tup ((apUpTo (norm ps) ys.length).map fun i => V.int (i : Nat)))) o (.ins g.c_Pair dx [("rows", .ref D), ("apart", .ref A)])) :=
        (b1.trans (But.same (s4.trans sA))).trans But.put
      refine q _ (apUpTo (norm ps) ys.length) ?_ ⟨⟨dx, D, A, [("rows", .ref D), ("apart", .ref A)], ys, upd_same, rfl, rfl, nt b9 hD, nr b9, .inl (.inl ?_)⟩, ?_, ⟨_, rfl⟩, by omega, ?_⟩
      · exact ((But.same (st.trans s1)).trans (But.same s3')).trans b9
      · rw [upd_ne nAo, upd_same]
      · rw [ln]
        exact apUpTo_all _
      · refine Nat.le_trans (List.length_filter_le _ _) ?_
        rw [List.length_range]
        omega
theorem ok_Pair_init {P : Program} {w : World} {K : PySem.W.Frag} {mg : Str → Option Value} {base : Heap} {g : Ads} (T : Txt K mg g) : FnR P w K mg base (L2.CX P w) 4 g.f_Pair_init (sp_Pair_init K g) := (raw_Pair_init T).imp (pf_Pair_init T)

theorem sc_Pair_made : FnScope ["cls", "rows"] ["cls", "rows"] (defScope s_Pair_made) := ⟨rfl, rfl, rfl, by decide +kernel, rfl, by decide +kernel, by decide +kernel⟩
def R_Pair_made (K : PySem.W.Frag) (g : Ads) (E : XK) : TS :=
  (tRet (zNewL K 0 g.c_Pair (sp_Pair_init K g) (fun _ _ _ => False) (zVar 1)))
def rw_Pair_made (K : PySem.W.Frag) (g : Ads) : Sp := fun vs H Q E => vs.length = 2 ∧ R_Pair_made K g E { nx := fun _ H' => Q .non H', rt := Q } (start ["cls", "rows"] vs) H
theorem raw_Pair_made {P : Program} {w : World} {K : PySem.W.Frag} {mg : Str → Option Value} {base : Heap} {g : Ads} (T : Txt K mg g) : FnG false P w K mg base 6 g.f_Pair_made g.d_Pair_made ["cls", "rows"] (rw_Pair_made K g) := by
  refine okZ T.f_Pair_made sc_Pair_made (fun vs H Q E h => h.1) (fun cdv A outer s H vs Q E hr hgu h => ⟨R_Pair_made K g E, ?_, h.2⟩)
  exact (pss_one (ps_ret (pe_zNewL (i := 0) T.m_Pair (ok_Pair_init T) (hr.mono (by decide)) rfl (Or.inl rfl) passN (zv 1))))
def sp_Pair_made (K : PySem.W.Frag) (g : Ads) : Sp := fun vs H Q E => ∃ (a : Addr) (xs : List V) (ps : List Rw), vs = [.ref g.c_Pair, .ref a] ∧ (SqT K H a xs ∨ SqL K H a xs) ∧ RowsAt K H xs ps ∧ (∀ p ∈ ps, pOk p.1 ∧ pOk p.2) ∧ xs.length ≤ 1000 ∧
  ∀ o H' ap, Same H H' → H o = none → PairAt K g H' o (norm ps) ap → Q (.ref o) H'
theorem pf_Pair_made {K : PySem.W.Frag} {g : Ads} (vs : List V) (H : Hp) (Q : VK) (E : XK) (h : sp_Pair_made K g vs H Q E) : rw_Pair_made K g vs H Q E := by
  obtain ⟨a, xs, ps, rfl, hq, hr, ok, hl, q⟩ := h
  refine ⟨rfl, rfl, a, xs, rfl, hq, fun o dx ho hdx ne => ?_⟩
  have s1 : Same H (upd H dx (.own o)) := Same.put hdx
  have ho1 : (upd H dx (.own o)) o = none := by
    rw [upd_ne ne.symm]
    exact ho
  have s2 : Same (upd H dx (.own o)) (upd (upd H dx (.own o)) o (.ins g.c_Pair dx [])) := Same.put ho1
  have s3 := s1.trans s2
  refine ⟨o, dx, xs, ps, rfl, upd_same, RowsAt.same hr s3, ok, hl, fun H' ap b hp => ⟨rfl, q o H' ap ?_ ho hp⟩⟩
  intro c u e
  exact b _ _ (s3 _ _ e) (ne_of_none e ho)
theorem ok_Pair_made {P : Program} {w : World} {K : PySem.W.Frag} {mg : Str → Option Value} {base : Heap} {g : Ads} (T : Txt K mg g) : FnG false P w K mg base 6 g.f_Pair_made g.d_Pair_made ["cls", "rows"] (sp_Pair_made K g) := (raw_Pair_made T).imp pf_Pair_made
theorem sc_Pair_contains : FnScope ["self", "other"] ["self", "other"] (defScope s_Pair_contains) := ⟨rfl, rfl, rfl, by decide +kernel, rfl, by decide +kernel, by decide +kernel⟩
def R_Pair_contains (K : PySem.W.Frag) (g : Ads) (E : XK) : TS :=
  (tRet (zAndV (tCB (rIsi K) (tCons (zVar 1) (tCons (tC (.ref g.c_Pair)) tNil))) (zCall (sp_is_instance K g) [] (WE (fun cls d _ H => E cls d H)) (tCons (tFld K (zVar 0) "rows") (tCons (tFld K (zVar 1) "rows") tNil)))))
def rw_Pair_contains (K : PySem.W.Frag) (g : Ads) : Sp := fun vs H Q E => vs.length = 2 ∧ R_Pair_contains K g E { nx := fun _ H' => Q .non H', rt := Q } (start ["self", "other"] vs) H
theorem raw_Pair_contains {P : Program} {w : World} {K : PySem.W.Frag} {mg : Str → Option Value} {base : Heap} {g : Ads} (T : Txt K mg g) : FnG false P w K mg base 3 g.f_Pair_contains g.d_Pair_contains ["self", "other"] (rw_Pair_contains K g) := by
  refine okZ T.f_Pair_contains sc_Pair_contains (fun vs H Q E h => h.1) (fun cdv A outer s H vs Q E hr hgu h => ⟨R_Pair_contains K g E, ?_, h.2⟩)
  exact (pss_one (ps_ret (pez_and (pe_callB call_isi (by rfl) T.b_isinstance (by decide +kernel) (pa_cons (zv 1) (pa_cons (pe_glob rfl T.g_Pair rfl) pa_nil))) (pe_one (pe_callZ (ok_is_instance T) (hr.mono (by decide)) (fun z => nomatch z) rfl T.g_is_instance T.k_is_instance T.e_is_instance .nil (fun σ => passAt (takes_of rfl rfl rfl rfl) σ) (pa_cons (pe_fld (zv 0) rfl) (pa_cons (pe_fld (zv 1) rfl) pa_nil)))))))
theorem sc_Pair_eq : FnScope ["self", "other"] ["self", "other"] (defScope s_Pair_eq) := ⟨rfl, rfl, rfl, by decide +kernel, rfl, by decide +kernel, by decide +kernel⟩
def R_Pair_eq (K : PySem.W.Frag) (g : Ads) (E : XK) : TS :=
  (tRet (zAndV (tCB (rIsi K) (tCons (zVar 1) (tCons (tC (.ref g.c_Pair)) tNil))) (tOp (zEq K) (tFld K (zVar 0) "rows") (tFld K (zVar 1) "rows"))))
def rw_Pair_eq (K : PySem.W.Frag) (g : Ads) : Sp := fun vs H Q E => vs.length = 2 ∧ R_Pair_eq K g E { nx := fun _ H' => Q .non H', rt := Q } (start ["self", "other"] vs) H
theorem raw_Pair_eq {P : Program} {w : World} {K : PySem.W.Frag} {mg : Str → Option Value} {base : Heap} {g : Ads} (T : Txt K mg g) : FnG false P w K mg base 1 g.f_Pair_eq g.d_Pair_eq ["self", "other"] (rw_Pair_eq K g) := by
  refine okZ T.f_Pair_eq sc_Pair_eq (fun vs H Q E h => h.1) (fun cdv A outer s H vs Q E hr hgu h => ⟨R_Pair_eq K g E, ?_, h.2⟩)
  exact (pss_one (ps_ret (pez_and (pe_callB call_isi (by rfl) T.b_isinstance (by decide +kernel) (pa_cons (zv 1) (pa_cons (pe_glob rfl T.g_Pair rfl) pa_nil))) (pe_one (pe_cmpR (op_zEq hr.units) (pe_fld (zv 0) rfl) (pe_fld (zv 1) rfl) (nomark _))))))
/-! ### rows as data -/
def Prt.d : Prt → PyData
  | .non => .none | .int i => .int i | .str z => .str z
def rowD (p : Rw) : PyData := .tuple [p.1.d, p.2.d]
theorem prt_dp {K : PySem.W.Frag} {H : Hp} : ∀ p : Prt, Dp K H p.v p.d
  | .non => .non | .int i => .int i | .str z => .str z
theorem rows_dp {K : PySem.W.Frag} {H : Hp} : ∀ {xs : List V} {ps : List Rw}, RowsAt K H xs ps → DpAll K H xs (ps.map rowD)
  | _, _, .nil => .nil
  | _, _, .cons ⟨r, e, h⟩ t => by
    subst e
    exact .cons (.tup h (.cons (prt_dp _) (.cons (prt_dp _) .nil))) (rows_dp t)
theorem prt_eqv (a b : Prt) : PyData.eqv a.d b.d = decide (a = b) := by
  rw [Bool.eq_iff_iff]
  cases a <;> cases b <;> simp [Prt.d, PyData.eqv]
theorem rows_eqv : ∀ ps qs : List Rw, PyData.eqvAll (ps.map rowD) (qs.map rowD) = decide (ps = qs)
  | [], [] => by simp [PyData.eqvAll]
  | [], q :: qs => by simp [PyData.eqvAll]
  | p :: ps, [] => by simp [PyData.eqvAll]
  | p :: ps, q :: qs => by
    have ih := rows_eqv ps qs
    simp only [List.map_cons, PyData.eqvAll, ih, rowD, PyData.eqv, prt_eqv, Bool.and_true]
    obtain ⟨p1, p2⟩ := p
    obtain ⟨q1, q2⟩ := q
    by_cases h1 : p1 = q1 <;> by_cases h2 : p2 = q2 <;> by_cases h3 : ps = qs <;> simp [h1, h2, h3]
theorem vn_ok (k : Nat) : PyData.strOk (vn k) = true := by
  have e : (vn k).cps = ("v" : Str).cps ++ (Str.ofString (toString (k : Int))).cps := rfl
  unfold PyData.strOk
  rw [e, Array.all_append]
  simp only [Bool.and_eq_true]
  refine ⟨by decide +kernel, ?_⟩
  rw [Str.ofString_eq_toList, Array.all_eq_true']
  intro x hx
  have hx' : x ∈ (toString (k : Int)).toList.map Char.toNat := by simpa using hx
  obtain ⟨c, _, rfl⟩ := List.mem_map.mp hx'
  have v := c.valid
  simp only [UInt32.isValidChar, Nat.isValidChar] at v
  refine decide_eq_true ?_
  show c.val.toNat < 0x110000
  omega
def PrtOk (p : Prt) : Prop := ∀ z, p = .str z → PyData.strOk z = true
theorem norm_ok (ps : List Rw) : ∀ p ∈ norm ps, PrtOk p.1 ∧ PrtOk p.2 := by
  obtain ⟨h, b, _⟩ := norm_bec ps
  intro q hq
  obtain ⟨i, hi⟩ := List.getElem?_of_mem hq
  have hl := norm_length ps
  have lt := (List.getElem?_eq_some_iff.mp hi).1
  have e : ps[i]? = some (ps[i]'(by omega)) := by simp [show i < ps.length by omega]
  obtain ⟨b1, b2⟩ := paired_get2 b e hi
  constructor
  · intro z hz
    obtain ⟨_, k, _, e2, _⟩ := bec_out b1 hz
    rw [e2]
    exact vn_ok k
  · intro z hz
    obtain ⟨_, k, _, e2, _⟩ := bec_out b2 hz
    rw [e2]
    exact vn_ok k
theorem prt_lay {p : Prt} (h : PrtOk p) : p.d.canLay0 = true ∧ p.d.depth = 0 := by
  cases p with
  | str z => exact ⟨by simpa [Prt.d, PyData.canLay0] using h z rfl, by simp [Prt.d, PyData.depth]⟩
  | _ => simp [Prt.d, PyData.canLay0, PyData.depth]
theorem rows_lay : ∀ ps : List Rw, (∀ p ∈ ps, PrtOk p.1 ∧ PrtOk p.2) → PyData.canLayAll0 (ps.map rowD) = true ∧ PyData.depthAll (ps.map rowD) ≤ 1
  | [], _ => by simp [PyData.canLayAll0, PyData.depthAll]
  | p :: ps, h => by
    obtain ⟨h1, h2⟩ := rows_lay ps fun q hq => h q (List.mem_cons_of_mem _ hq)
    obtain ⟨o1, o2⟩ := h p List.mem_cons_self
    obtain ⟨a1, a2⟩ := prt_lay o1
    obtain ⟨b1, b2⟩ := prt_lay o2
    constructor
    · simp only [List.map_cons, PyData.canLayAll0, rowD, PyData.canLay0, a1, b1, h1, Bool.and_self]
    · simp only [List.map_cons, PyData.depthAll, rowD, PyData.depth, a2, b2]
      omega
theorem rows_shaped {ps : List Rw} (h : ∀ p ∈ ps, PrtOk p.1 ∧ PrtOk p.2) : SeqAt.shaped (.tuple (ps.map rowD)) = true := by
  obtain ⟨h1, h2⟩ := rows_lay ps h
  simp only [SeqAt.shaped, PyData.canLay0, PyData.depth, h1, Bool.true_and]
  exact decide_eq_true (by omega)
theorem kit_self {K : PySem.W.Frag} {C : Addr} : PySem.W.kitOne K (.ref C) (.ref C) = some true := by simp [PySem.W.kitOne]
def sp_Pair_two (K : PySem.W.Frag) (g : Ads) (f : List Rw → List Rw → Prop) : Sp := fun vs H Q E => ∃ (a b : Addr) (R G : List Rw) (ap bp : List Nat), vs = [.ref a, .ref b] ∧ PairAt K g H a R ap ∧ PairAt K g H b G bp ∧ ∀ (c : Bool) H', Same H H' → (c = true ↔ f R G) → Q (.bl c) H'
def sp_Pair_contains (K : PySem.W.Frag) (g : Ads) : Sp := sp_Pair_two K g Inst
def sp_Pair_eq (K : PySem.W.Frag) (g : Ads) : Sp := fun vs H Q E => sp_Pair_two K g (fun R G => R = G) vs H Q E ∨ ∃ a v, vs = [.ref a, v] ∧ Oth K H v ∧ Q (.bl false) H
theorem pf_Pair_contains {K : PySem.W.Frag} {mg : Str → Option Value} {g : Ads} (T : Txt K mg g) (vs : List V) (H : Hp) (Q : VK) (E : XK) (h : sp_Pair_contains K g vs H Q E) : rw_Pair_contains K g vs H Q E := by
  obtain ⟨a, b, R, G, ap, bp, rfl, ⟨⟨dx, ra, aa, fs, ys, h1, h2, h3, h4, h5, h6⟩, h7, ⟨ps, eR⟩, _⟩, ⟨⟨dy, rb, ab, gs, zs, g1, g2, g3, g4, g5, g6⟩, g7, ⟨qs, eG⟩, _⟩, q⟩ := h
  refine ⟨rfl, _, _, .ref g.c_Pair, .ref g.c_Pair, true, rfl, .own _, .base (.ins g1 T.ci_Pair.cl T.ci_Pair.ha T.ci_Pair.hn T.ci_Pair.ht T.ci_Pair.hm), kit_self, ?_⟩
  exact ⟨a, _, _, _, _, rfl, h1, T.cl_Pair, T.na_Pair_rows, h2, b, _, _, _, _, rfl, g1, T.cl_Pair, T.na_Pair_rows, g2, ra, rb, ys, zs, R, G, rfl, h4, g4, h5, g5, fun c H' s hc => q c H' s hc⟩
theorem pf_Pair_eq {K : PySem.W.Frag} {mg : Str → Option Value} {g : Ads} (T : Txt K mg g) (vs : List V) (H : Hp) (Q : VK) (E : XK) (h : sp_Pair_eq K g vs H Q E) : rw_Pair_eq K g vs H Q E := by
  rcases h with h | ⟨a, v, rfl, ot, q⟩
  case inr =>
    have end_ : zAndV (tCB (rIsi K) (tCons (zVar 1) (tCons (tC (.ref g.c_Pair)) tNil))) (tOp (zEq K) (tFld K (zVar 0) "rows") (tFld K (zVar 1) "rows")) [some (.ref a), some v] H Q := by
      rcases ot with rfl | ⟨z, rfl⟩ | ⟨b, ys, rfl, hb⟩ | ⟨b, ys, rfl, hb⟩
      · exact ⟨_, _, .type "NoneType", .ref g.c_Pair, false, rfl, .own _, .base .non, T.kt_Pair_NoneType, zite (fun h => by cases h) fun _ => q⟩
      · exact ⟨_, _, .type "str", .ref g.c_Pair, false, rfl, .own _, .base (.str z), T.kt_Pair_str, zite (fun h => by cases h) fun _ => q⟩
      · exact ⟨_, _, .type "list", .ref g.c_Pair, false, rfl, .own _, .base (.lst hb), T.kt_Pair_list, zite (fun h => by cases h) fun _ => q⟩
      · rcases hb with (h | ⟨o, h⟩) | ⟨o, its, n, h1, h2, _⟩
        · exact ⟨_, _, .type "tuple", .ref g.c_Pair, false, rfl, .own _, .base (.tup h), T.kt_Pair_tuple, zite (fun h => by cases h) fun _ => q⟩
        · exact ⟨_, _, .type "tuple", .ref g.c_Pair, false, rfl, .own _, .fTuple h, T.kt_Pair_tuple, zite (fun h => by cases h) fun _ => q⟩
        · exact ⟨_, _, .type "tuple", .ref g.c_Pair, false, rfl, .own _, .kTuple h1 h2, T.kt_Pair_tuple, zite (fun h => by cases h) fun _ => q⟩
    exact ⟨rfl, end_⟩
  obtain ⟨a, b, R, G, ap, bp, rfl, ⟨⟨dx, ra, aa, fs, ys, h1, h2, h3, h4, h5, h6⟩, h7, ⟨ps, eR⟩, _⟩, ⟨⟨dy, rb, ab, gs, zs, g1, g2, g3, g4, g5, g6⟩, g7, ⟨qs, eG⟩, _⟩, q⟩ := h
  refine ⟨rfl, _, _, .ref g.c_Pair, .ref g.c_Pair, true, rfl, .own _, .base (.ins g1 T.ci_Pair.cl T.ci_Pair.ha T.ci_Pair.hn T.ci_Pair.ht T.ci_Pair.hm), kit_self, ?_⟩
  refine ⟨a, _, _, _, _, rfl, h1, T.cl_Pair, T.na_Pair_rows, h2, b, _, _, _, _, rfl, g1, T.cl_Pair, T.na_Pair_rows, g2, .inr ⟨_, _, .tup h4 (rows_dp h5), .tup g4 (rows_dp g5), rows_shaped (eR ▸ norm_ok ps), rows_shaped (eG ▸ norm_ok qs), ?_⟩⟩
  have e : PyData.eqv (.tuple (R.map rowD)) (.tuple (G.map rowD)) = decide (R = G) := by
    simp only [PyData.eqv]
    exact rows_eqv R G
  rw [e]
  exact q _ H (Same.refl H) (by simp)
theorem ok_Pair_contains {P : Program} {w : World} {K : PySem.W.Frag} {mg : Str → Option Value} {base : Heap} {g : Ads} (T : Txt K mg g) : FnG false P w K mg base 3 g.f_Pair_contains g.d_Pair_contains ["self", "other"] (sp_Pair_contains K g) := (raw_Pair_contains T).imp (pf_Pair_contains T)
theorem ok_Pair_eq {P : Program} {w : World} {K : PySem.W.Frag} {mg : Str → Option Value} {base : Heap} {g : Ads} (T : Txt K mg g) : FnG false P w K mg base 1 g.f_Pair_eq g.d_Pair_eq ["self", "other"] (sp_Pair_eq K g) := (raw_Pair_eq T).imp (pf_Pair_eq T)
end Z
namespace Z
open PySem PySem.Spec PyProof.Rows L2
theorem sc_law_digits : FnScope ["script", "at", "cell", "blend", "k", "each"] ["script", "at"] (defScope s_law_digits) := ⟨rfl, rfl, rfl, by decide +kernel, rfl, by decide +kernel, by decide +kernel⟩
def R_law_digits_4 (K : PySem.W.Frag) (g : Ads) (E : XK) : TS :=
  (tAsg (tOp zMod (tCB rInt1 (tCons (tOp zAdd (tOp zAdd (tOp zAdd (tOp zMul (zVar 3) (tC (.int 48271))) (tOp zMod (tCB rInt1 (tCons (zVar 5) tNil)) (tC (.int 2147483587)))) (tOp zMul (tC (.int 97)) (zVar 4))) (tC (.int 5))) tNil)) (tC (.int 2147483629))) (gName 3))
def R_law_digits_5 (K : PySem.W.Frag) (g : Ads) (E : XK) : TS :=
  (tRet (tLst (tCons (tIf (zTest (tOp zGe (tCB rAbs (tCons (zVar 2) tNil)) (tOp zPow (tC (.int 10)) (tC (.int 18))))) (tCB rAbs (tCons (zVar 2) tNil)) (tC (.int 0))) (tCons (zVar 3) tNil))))
def R_law_digits_3 (K : PySem.W.Frag) (g : Ads) (E : XK) : TS :=
  (tSeq (zFor (zEnum K (tCons (tSl (rSlL K) (zVar 0) tNoPart (tPart (tC (.int 48)))) tNil)) (gTup K 2 (gCons (gName 4) (gCons (gName 5) gNil)))
  (R_law_digits_4 K g E))
  (R_law_digits_5 K g E))
def R_law_digits_2 (K : PySem.W.Frag) (g : Ads) (E : XK) : TS :=
  (tSeq (tAsg (tOp zAdd (tOp zMul (tC (.int 7331)) (zVar 1)) (tC (.int 619))) (gName 3))
  (R_law_digits_3 K g E))
def R_law_digits (K : PySem.W.Frag) (g : Ads) (E : XK) : TS :=
  (tSeq (tAsg (tIf (zTest (tOp zLt (zVar 1) (tCB (zLen K) (tCons (zVar 0) tNil)))) (tOp (zIx K) (zVar 0) (zVar 1)) (tC (.int 0))) (gName 2))
  (R_law_digits_2 K g E))
def rw_law_digits (K : PySem.W.Frag) (g : Ads) : Sp := fun vs H Q E => vs.length = 2 ∧ R_law_digits K g E { nx := fun _ H' => Q .non H', rt := Q } (start ["script", "at", "cell", "blend", "k", "each"] vs) H
theorem raw_law_digits {P : Program} {w : World} {K : PySem.W.Frag} {mg : Str → Option Value} {base : Heap} {g : Ads} (T : Txt K mg g) : FnG true P w K mg base 1 g.f_law_digits g.d_law_digits ["script", "at"] (rw_law_digits K g) := by
  refine okZ T.f_law_digits sc_law_digits (fun vs H Q E h => h.1) (fun cdv A outer s H vs Q E hr hgu h => ⟨R_law_digits K g E, ?_, h.2⟩)
  exact (pss_cons (ps_set (i := 2) sc_law_digits.nd rfl (Or.inl rfl) (pe_ifExp (ptz_cmp op_zLt (zv 1) (pe_callB call_lenZ (by rfl) T.b_len (by decide +kernel) (pa_cons (zv 0) pa_nil)) (nomark _)) (pe_ix ix_z (zv 0) (zv 1) (fun _ _ => rfl)) pe_int))
  (pss_cons (ps_set (i := 3) sc_law_digits.nd rfl (Or.inl rfl) (pe_op op_zAdd (pe_op op_zMul pe_int (zv 1)) pe_int))
  (pss_cons (psz_for PassesOwn.leaving rfl (pi_zEnum (by rfl) T.b_enumerate (pa_cons (pe_slice sl_list (zv 0) po_none (po_some pe_int)) pa_nil)) (pg_tup rfl (pgs_cons (pg_name (i := 4) sc_law_digits.nd rfl (Or.inl rfl)) (pgs_cons (pg_name (i := 5) sc_law_digits.nd rfl (Or.inl rfl)) pgs_nil)))
  (pss_one (ps_set (i := 3) sc_law_digits.nd rfl (Or.inl rfl) (pe_op op_zMod (pe_callTy call_intZ (by rfl) T.b_int (by decide +kernel) (pa_cons (pe_op op_zAdd (pe_op op_zAdd (pe_op op_zAdd (pe_op op_zMul (zv 3) pe_int) (pe_op op_zMod (pe_callTy call_intZ (by rfl) T.b_int (by decide +kernel) (pa_cons (zv 5) pa_nil)) pe_int)) (pe_op op_zMul pe_int (zv 4))) pe_int) pa_nil)) pe_int))))
  (pss_one (ps_ret (pe_lst (pa_cons (pe_ifExp (ptz_cmp op_zGe (pe_callB call_absZ (by rfl) T.b_abs (by decide +kernel) (pa_cons (zv 2) pa_nil)) (pe_op op_zPow pe_int pe_int) (nomark _)) (pe_callB call_absZ (by rfl) T.b_abs (by decide +kernel) (pa_cons (zv 2) pa_nil)) pe_int) (pa_cons (zv 3) pa_nil))))))))
theorem sc_law_take : FnScope ["bag", "many", "digit"] ["bag", "many"] (defScope s_law_take) := ⟨rfl, rfl, rfl, by decide +kernel, rfl, by decide +kernel, by decide +kernel⟩
def R_law_take_3 (K : PySem.W.Frag) (g : Ads) (E : XK) : TS :=
  (tSeq (tAsg (tOp zFdiv (tOp (zIx K) (zVar 0) (tC (.int 0))) (zVar 1)) (gSub (zVar 0) (tC (.int 0)) rSetL))
  (tRet (zVar 2)))
def R_law_take_2 (K : PySem.W.Frag) (g : Ads) (E : XK) : TS :=
  (tSeq (tAsg (tOp zMod (tCB rIntS (tCons (tOp (zIx K) (zVar 0) (tC (.int 0))) tNil)) (zVar 1)) (gName 2))
  (R_law_take_3 K g E))
def R_law_take_6 (K : PySem.W.Frag) (g : Ads) (E : XK) : TS :=
  (tRet (tOp zMod (tOp zFdiv (tOp zMod (tCB rInt1 (tCons (tOp zMul (tOp zFdiv (tOp (zIx K) (zVar 0) (tC (.int 1))) (tC (.int 13))) (tC (.int 44497))) tNil)) (tC (.int 2147483563))) (tC (.int 64))) (zVar 1)))
def R_law_take_5 (K : PySem.W.Frag) (g : Ads) (E : XK) : TS :=
  (tSeq (tAsg (tOp zMod (tCB rInt1 (tCons (tOp zAdd (tOp zMul (tOp (zIx K) (zVar 0) (tC (.int 1))) (tC (.int 39373))) (tC (.int 7919))) tNil)) (tC (.int 2147483647))) (gSub (zVar 0) (tC (.int 1)) rSetL))
  (R_law_take_6 K g E))
def R_law_take (K : PySem.W.Frag) (g : Ads) (E : XK) : TS :=
  (tSeq (tIfS (zTest (tOp zGt (tOp (zIx K) (zVar 0) (tC (.int 0))) (tC (.int 0))))
  (R_law_take_2 K g E)
  tNext)
  (R_law_take_5 K g E))
def rw_law_take (K : PySem.W.Frag) (g : Ads) : Sp := fun vs H Q E => vs.length = 2 ∧ R_law_take K g E { nx := fun _ H' => Q .non H', rt := Q } (start ["bag", "many", "digit"] vs) H
theorem raw_law_take {P : Program} {w : World} {K : PySem.W.Frag} {mg : Str → Option Value} {base : Heap} {g : Ads} (T : Txt K mg g) : FnG true P w K mg base 1 g.f_law_take g.d_law_take ["bag", "many"] (rw_law_take K g) := by
  refine okZ T.f_law_take sc_law_take (fun vs H Q E h => h.1) (fun cdv A outer s H vs Q E hr hgu h => ⟨R_law_take K g E, ?_, h.2⟩)
  exact (pss_cons (ps_if (ptz_cmp op_zGt (pe_ix ix_z (zv 0) pe_int (fun _ _ => rfl)) pe_int (nomark _))
  (pss_cons (ps_set (i := 2) sc_law_take.nd rfl (Or.inl rfl) (pe_op op_zMod (pe_callTy call_intS (by rfl) T.b_int (by decide +kernel) (pa_cons (pe_ix ix_z (zv 0) pe_int (fun _ _ => rfl)) pa_nil)) (zv 1)))
  (pss_cons (ps_asg (pe_op op_zFdiv (pe_ix ix_z (zv 0) pe_int (fun _ _ => rfl)) (zv 1)) (pg_sub (zv 0) pe_int set_list))
  (pss_one (ps_ret (zv 2)))))
  pss_nil)
  (pss_cons (ps_asg (pe_op op_zMod (pe_callTy call_intZ (by rfl) T.b_int (by decide +kernel) (pa_cons (pe_op op_zAdd (pe_op op_zMul (pe_ix ix_z (zv 0) pe_int (fun _ _ => rfl)) pe_int) pe_int) pa_nil)) pe_int) (pg_sub (zv 0) pe_int set_list))
  (pss_one (ps_ret (pe_op op_zMod (pe_op op_zFdiv (pe_op op_zMod (pe_callTy call_intZ (by rfl) T.b_int (by decide +kernel) (pa_cons (pe_op op_zMul (pe_op op_zFdiv (pe_ix ix_z (zv 0) pe_int (fun _ _ => rfl)) pe_int) pe_int) pa_nil)) pe_int) pe_int) (zv 1))))))

def BagAt (H : Hp) (p : Addr) : Prop := ∃ c m : Int, H p = some (.lst [.int c, .int m])
theorem BagAt.same {H H' : Hp} {p : Addr} (b : BagAt H p) (s : Same H H') : BagAt H' p := by
  obtain ⟨c, m, e⟩ := b
  exact ⟨c, m, s _ _ e⟩
theorem BagAt.ne {H : Hp} {p b : Addr} (h : BagAt H p) (n : H b = none) : b ≠ p := by
  obtain ⟨c, m, e⟩ := h
  intro z
  rw [z, e] at n
  cases n
theorem divW {n : Int} (h0 : 0 < n) (h : n ≤ 1000000000000000000000000) : CDivW 1 n := wide_div h0 (b := 80) (by omega) (by decide) (by decide)
theorem cut_ints (ns : List Int) (lo hi : Option Int) : ∃ ms : List Int, cutV (ns.map V.int) lo hi = ms.map V.int ∧ ms.length ≤ ns.length := by
  refine ⟨(ns.drop (HT.sIx ns.length 0 lo)).take (HT.sIx ns.length ns.length hi - HT.sIx ns.length 0 lo), ?_, ?_⟩
  · simp [cutV, List.map_take, List.map_drop]
  · simp; omega
def sp_law_digits (K : PySem.W.Frag) (g : Ads) : Sp := fun vs H Q E => ∃ (a : Addr) (ns : List Int) (t : Int), vs = [.ref a, .int t] ∧ SqL K H a (ns.map V.int) ∧ ns.length ≤ 63 ∧ 0 ≤ t ∧
  ∀ p H', H p = none → Same H H' → BagAt H' p → Q (.ref p) H'
theorem pf_law_digits {K : PySem.W.Frag} {g : Ads} (vs : List V) (H : Hp) (Q : VK) (E : XK) (h : sp_law_digits K g vs H Q E) : rw_law_digits K g vs H Q E := by
  obtain ⟨a, ns, t, rfl, hS, hl, ht, q⟩ := h
  refine ⟨rfl, ⟨_, .inl hS, ?_⟩⟩
  have go : ∀ c : Int, R_law_digits_2 K g E { nx := fun _ H' => Q .non H', rt := Q } [some (.ref a), some (.int t), some (.int c), none, none, none] H := by
    intro c
    refine ⟨.inl (by decide), 48, rfl, a, _, rfl, hS, fun p hp => ?_⟩
    obtain ⟨ms, em, lm⟩ := cut_ints ns none (some 48)
    rw [em]
    have s1 : Same H (upd H p (.lst (ms.map V.int))) := Same.put hp
    have e1 : (upd H p (.lst (ms.map V.int))) p = some (.lst (ms.map V.int)) := upd_same
    generalize upd H p (.lst (ms.map V.int)) = H1 at s1 e1
    refine ⟨p, _, rfl, .inl ⟨SqL.of e1, for_z walk_enum (fun i σ H2 => ∃ (m : Int) (v4 v5 : Option V), σ = [some (.ref a), some (.int t), some (.int c), some (.int m), v4, v5] ∧ Same H1 H2)
      ⟨_, none, none, rfl, Same.refl _⟩ (fun i σ H2 _ ⟨_, _, _, _, s2⟩ => SqL.of (s2 _ _ e1)) ?_ ?_⟩⟩
    · rintro i x σ H2 H3 hi ⟨m, v4, v5, rfl, s2⟩ ⟨T, x1, x2, rfl, hT, rfl, f1, f2⟩
      cases f1
      have f2 : (ms.map V.int)[i]? = some x2 := f2
      rw [List.getElem?_map] at f2
      cases e : ms[i]? with
      | none => rw [e] at f2; cases f2
      | some z =>
        rw [e] at f2
        cases f2
        exact ⟨T, _, rfl, SqT.of upd_same, rfl, _, _, rfl, _, _, rfl, rfl, .inr (by decide), by decide, .inl (by decide), by decide, _, _, _, rfl, s2.trans (Same.put hT)⟩
    · rintro σ H2 ⟨m, v4, v5, rfl, s2⟩
      have fin : ∀ c' : Int, (2 ≤ sizeLine ∧ ∀ p2, H2 p2 = none → Q (.ref p2) (upd H2 p2 (.lst [.int c', .int m]))) := fun c' =>
        ⟨by decide, fun p2 hp2 => q _ _ ((s1.trans s2).free hp2) ((s1.trans s2).trans (Same.put hp2)) ⟨c', m, upd_same⟩⟩
      exact ⟨⟨by decide, by decide, by decide⟩, zite (fun _ => fin _) (fun _ => fin _)⟩
  refine zite (fun h1 => ?_) (fun h1 => go 0)
  have h1' : t < (ns.map V.int).length := by simpa using h1
  obtain ⟨k, rfl⟩ : ∃ k : Nat, t = k := ⟨t.toNat, by omega⟩
  have hk : k < ns.length := by
    rw [List.length_map] at h1'
    omega
  exact ⟨_, .int ns[k], .inl hS, atI_nat (by simp [hk]), go _⟩
theorem ok_law_digits {P : Program} {w : World} {K : PySem.W.Frag} {mg : Str → Option Value} {base : Heap} {g : Ads} (T : Txt K mg g) : FnZ P w K mg base 1 g.f_law_digits g.d_law_digits ["script", "at"] (sp_law_digits K g) := (raw_law_digits T).imp pf_law_digits
def sp_law_take (K : PySem.W.Frag) (g : Ads) : Sp := fun vs H Q E => ∃ (p : Addr) (n : Int), vs = [.ref p, .int n] ∧ BagAt H p ∧ 0 < n ∧ n ≤ 1000000000000000000000000 ∧
  ∀ r H', 0 ≤ r → r < n → BagAt H' p → But p H H' → Q (.int r) H'
theorem pf_law_take {K : PySem.W.Frag} {g : Ads} (vs : List V) (H : Hp) (Q : VK) (E : XK) (h : sp_law_take K g vs H Q E) : rw_law_take K g vs H Q E := by
  obtain ⟨p, n, rfl, ⟨c, m, h1⟩, n0, n1, q⟩ := h
  refine ⟨rfl, ⟨_, _, .inl (SqL.of h1), rfl, zite (fun hc => ?_) (fun hc => ?_)⟩⟩
  · refine ⟨_, _, .inl (SqL.of h1), rfl, n0, _, _, .inl (SqL.of h1), rfl, divW n0 n1, p, _, _, _, rfl, rfl, h1, rfl, ?_⟩
    exact q _ _ (Int.emod_nonneg _ (by omega)) (Int.emod_lt_of_pos _ n0) ⟨c / n, m, upd_same⟩ But.put
  · refine ⟨_, _, .inl (SqL.of h1), rfl, .inr (by decide), by decide, p, _, _, _, rfl, rfl, h1, rfl, ?_⟩
    refine ⟨_, _, .inl (SqL.of upd_same), rfl, ⟨by decide, by decide⟩, .inr (by decide), by decide, ⟨by decide, by decide⟩, n0, ?_⟩
    exact q _ _ (Int.emod_nonneg _ (by omega)) (Int.emod_lt_of_pos _ n0) ⟨c, _, upd_same⟩ But.put
theorem ok_law_take {P : Program} {w : World} {K : PySem.W.Frag} {mg : Str → Option Value} {base : Heap} {g : Ads} (T : Txt K mg g) : FnZ P w K mg base 1 g.f_law_take g.d_law_take ["bag", "many"] (sp_law_take K g) := (raw_law_take T).imp pf_law_take
theorem sc_law_number : FnScope ["bag"] ["bag"] (defScope s_law_number) := ⟨rfl, rfl, rfl, by decide +kernel, rfl, by decide +kernel, by decide +kernel⟩
def R_law_number_2 (K : PySem.W.Frag) (g : Ads) (E : XK) : TS :=
  (tRet (tOp zSub (zCall (sp_law_take K g) [] (WE (fun cls d _ H => E cls d H)) (tCons (zVar 0) (tCons (tC (.int 5)) tNil))) (tC (.int 2))))
def R_law_number_3 (K : PySem.W.Frag) (g : Ads) (E : XK) : TS :=
  (tRet (tOp zMul (zCall (sp_law_take K g) [] (WE (fun cls d _ H => E cls d H)) (tCons (zVar 0) (tCons (tOp zPow (tC (.int 10)) (tC (.int 20))) tNil))) (tOp zSub (tC (.int 1)) (tOp zMul (tC (.int 2)) (zCall (sp_law_take K g) [] (WE (fun cls d _ H => E cls d H)) (tCons (zVar 0) (tCons (tC (.int 2)) tNil)))))))
def R_law_number (K : PySem.W.Frag) (g : Ads) (E : XK) : TS :=
  (tSeq (tIfS (zTest (tOp zGt (zCall (sp_law_take K g) [] (WE (fun cls d _ H => E cls d H)) (tCons (zVar 0) (tCons (tC (.int 3)) tNil))) (tC (.int 0))))
  (R_law_number_2 K g E)
  tNext)
  (R_law_number_3 K g E))
def rw_law_number (K : PySem.W.Frag) (g : Ads) : Sp := fun vs H Q E => vs.length = 1 ∧ R_law_number K g E { nx := fun _ H' => Q .non H', rt := Q } (start ["bag"] vs) H
theorem raw_law_number {P : Program} {w : World} {K : PySem.W.Frag} {mg : Str → Option Value} {base : Heap} {g : Ads} (T : Txt K mg g) : FnG true P w K mg base 2 g.f_law_number g.d_law_number ["bag"] (rw_law_number K g) := by
  refine okZ T.f_law_number sc_law_number (fun vs H Q E h => h.1) (fun cdv A outer s H vs Q E hr hgu h => ⟨R_law_number K g E, ?_, h.2⟩)
  exact (pss_cons (ps_if (ptz_cmp op_zGt (pe_callZ (ok_law_take T) (hr.mono (by decide)) hgu rfl T.g_law_take T.k_law_take T.e_law_take .nil (fun σ => passAt (takes_of rfl rfl rfl rfl) σ) (pa_cons (zv 0) (pa_cons pe_int pa_nil))) pe_int (nomark _))
  (pss_one (ps_ret (pe_op op_zSub (pe_callZ (ok_law_take T) (hr.mono (by decide)) hgu rfl T.g_law_take T.k_law_take T.e_law_take .nil (fun σ => passAt (takes_of rfl rfl rfl rfl) σ) (pa_cons (zv 0) (pa_cons pe_int pa_nil))) pe_int)))
  pss_nil)
  (pss_one (ps_ret (pe_op op_zMul (pe_callZ (ok_law_take T) (hr.mono (by decide)) hgu rfl T.g_law_take T.k_law_take T.e_law_take .nil (fun σ => passAt (takes_of rfl rfl rfl rfl) σ) (pa_cons (zv 0) (pa_cons (pe_op op_zPow pe_int pe_int) pa_nil))) (pe_op op_zSub pe_int (pe_op op_zMul pe_int (pe_callZ (ok_law_take T) (hr.mono (by decide)) hgu rfl T.g_law_take T.k_law_take T.e_law_take .nil (fun σ => passAt (takes_of rfl rfl rfl rfl) σ) (pa_cons (zv 0) (pa_cons pe_int pa_nil)))))))))
def sp_law_number (K : PySem.W.Frag) (g : Ads) : Sp := fun vs H Q E => ∃ (p : Addr), vs = [.ref p] ∧ BagAt H p ∧ ∀ i H', -100000000000000000000 < i → i < 100000000000000000000 → BagAt H' p → But p H H' → Q (.int i) H'
theorem pf_law_number {K : PySem.W.Frag} {g : Ads} (vs : List V) (H : Hp) (Q : VK) (E : XK) (h : sp_law_number K g vs H Q E) : rw_law_number K g vs H Q E := by
  obtain ⟨p, rfl, hb, q⟩ := h
  refine ⟨rfl, p, _, rfl, hb, by decide, by decide, fun r H1 r0 r1 d1 b1 => zite (fun h1 => ?_) (fun h1 => ?_)⟩
  · exact ⟨p, _, rfl, d1, by decide, by decide, fun r2 H2 r3 r4 d2 b2 => q _ _ (by omega) (by omega) d2 (b1.trans b2)⟩
  · refine ⟨⟨by decide, by decide, by decide⟩, p, _, rfl, d1, by decide, by decide, fun r2 H2 r3 r4 d2 b2 => ⟨p, _, rfl, d2, by decide, by decide, fun r5 H3 r6 r7 d3 b3 => ⟨.inl (by decide), ?_⟩⟩⟩
    have r4' : r2 < 100000000000000000000 := r4
    have e : r5 = 0 ∨ r5 = 1 := by omega
    rcases e with rfl | rfl
    · exact ⟨.inr (by decide), q _ _ (by omega) (by omega) d3 ((b1.trans b2).trans b3)⟩
    · exact ⟨.inr (by decide), q _ _ (by omega) (by omega) d3 ((b1.trans b2).trans b3)⟩
theorem ok_law_number {P : Program} {w : World} {K : PySem.W.Frag} {mg : Str → Option Value} {base : Heap} {g : Ads} (T : Txt K mg g) : FnZ P w K mg base 2 g.f_law_number g.d_law_number ["bag"] (sp_law_number K g) := (raw_law_number T).imp pf_law_number
theorem sc_law_drawn : FnScope ["bag", "many", "words", "rows", "turn", "parts", "side", "pick"] ["bag", "many"] (defScope s_law_drawn) := ⟨rfl, rfl, rfl, by decide +kernel, rfl, by decide +kernel, by decide +kernel⟩
def R_law_drawn_8 (K : PySem.W.Frag) (g : Ads) (E : XK) : TS :=
  (tDrop (tBM K "list" rAppend (zVar 5) (tCons (tC .non) tNil)))
def R_law_drawn_10 (K : PySem.W.Frag) (g : Ads) (E : XK) : TS :=
  (tDrop (tBM K "list" rAppend (zVar 5) (tCons (zCall (sp_law_number K g) [] (WE (fun cls d _ H => E cls d H)) (tCons (zVar 0) tNil)) tNil)))
def R_law_drawn_12 (K : PySem.W.Frag) (g : Ads) (E : XK) : TS :=
  (tDrop (tBM K "list" rAppend (zVar 5) (tCons (tOp (zIx K) (zVar 2) (zCall (sp_law_take K g) [] (WE (fun cls d _ H => E cls d H)) (tCons (zVar 0) (tCons (tCB (zLen K) (tCons (zVar 2) tNil)) tNil)))) tNil)))
def R_law_drawn_9 (K : PySem.W.Frag) (g : Ads) (E : XK) : TS :=
  (tIfS (zTest (tOp (zEq K) (zVar 7) (tC (.int 1))))
  (R_law_drawn_10 K g E)
  (R_law_drawn_12 K g E))
def R_law_drawn_7 (K : PySem.W.Frag) (g : Ads) (E : XK) : TS :=
  (tIfS (zTest (tOp (zEq K) (zVar 7) (tC (.int 0))))
  (R_law_drawn_8 K g E)
  (R_law_drawn_9 K g E))
def R_law_drawn_6 (K : PySem.W.Frag) (g : Ads) (E : XK) : TS :=
  (tSeq (tAsg (zCall (sp_law_take K g) [] (WE (fun cls d _ H => E cls d H)) (tCons (zVar 0) (tCons (tC (.int 8)) tNil))) (gName 7))
  (R_law_drawn_7 K g E))
def R_law_drawn_13 (K : PySem.W.Frag) (g : Ads) (E : XK) : TS :=
  (tDrop (tBM K "list" rAppend (zVar 3) (tCons (tTup (tCons (tOp (zIx K) (zVar 5) (tC (.int 0))) (tCons (tOp (zIx K) (zVar 5) (tC (.int 1))) tNil))) tNil)))
def R_law_drawn_5 (K : PySem.W.Frag) (g : Ads) (E : XK) : TS :=
  (tSeq (zFor (iRng1 (tCons (tC (.int 2)) tNil)) (gName 6)
  (R_law_drawn_6 K g E))
  (R_law_drawn_13 K g E))
def R_law_drawn_4 (K : PySem.W.Frag) (g : Ads) (E : XK) : TS :=
  (tSeq (tAsg (tLst tNil) (gName 5))
  (R_law_drawn_5 K g E))
def R_law_drawn_3 (K : PySem.W.Frag) (g : Ads) (E : XK) : TS :=
  (tSeq (zFor (iRng1 (tCons (zVar 1) tNil)) (gName 4)
  (R_law_drawn_4 K g E))
  (tRet (zVar 3)))
def R_law_drawn_2 (K : PySem.W.Frag) (g : Ads) (E : XK) : TS :=
  (tSeq (tAsg (tLst tNil) (gName 3))
  (R_law_drawn_3 K g E))
def R_law_drawn (K : PySem.W.Frag) (g : Ads) (E : XK) : TS :=
  (tSeq (tAsg (tSl (rSlL K) (tLst (tCons (tC (.str "")) (tCons (tC (.str "none")) (tCons (tC (.str "v0")) (tCons (tC (.str "v1")) (tCons (tC (.str "v10")) (tCons (tC (.str "V0")) (tCons (tC (.str "x y")) tNil)))))))) tNoPart (tPart (tOp zAdd (tC (.int 1)) (zCall (sp_law_take K g) [] (WE (fun cls d _ H => E cls d H)) (tCons (zVar 0) (tCons (tC (.int 7)) tNil)))))) (gName 2))
  (R_law_drawn_2 K g E))
def rw_law_drawn (K : PySem.W.Frag) (g : Ads) : Sp := fun vs H Q E => vs.length = 2 ∧ R_law_drawn K g E { nx := fun _ H' => Q .non H', rt := Q } (start ["bag", "many", "words", "rows", "turn", "parts", "side", "pick"] vs) H
theorem raw_law_drawn {P : Program} {w : World} {K : PySem.W.Frag} {mg : Str → Option Value} {base : Heap} {g : Ads} (T : Txt K mg g) : FnG true P w K mg base 3 g.f_law_drawn g.d_law_drawn ["bag", "many"] (rw_law_drawn K g) := by
  refine okZ T.f_law_drawn sc_law_drawn (fun vs H Q E h => h.1) (fun cdv A outer s H vs Q E hr hgu h => ⟨R_law_drawn K g E, ?_, h.2⟩)
  exact (pss_cons (ps_set (i := 2) sc_law_drawn.nd rfl (Or.inl rfl) (pe_slice sl_list (pe_lst (pa_cons pe_str (pa_cons pe_str (pa_cons pe_str (pa_cons pe_str (pa_cons pe_str (pa_cons pe_str (pa_cons pe_str pa_nil)))))))) po_none (po_some (pe_op op_zAdd pe_int (pe_callZ (ok_law_take T) (hr.mono (by decide)) hgu rfl T.g_law_take T.k_law_take T.e_law_take .nil (fun σ => passAt (takes_of rfl rfl rfl rfl) σ) (pa_cons (zv 0) (pa_cons pe_int pa_nil)))))))
  (pss_cons (ps_set (i := 3) sc_law_drawn.nd rfl (Or.inl rfl) (pe_lst pa_nil))
  (pss_cons (psz_for PassesOwn.leaving rfl (pi_range1 rfl T.b_range (pa_cons (zv 1) pa_nil)) (pg_name (i := 4) sc_law_drawn.nd rfl (Or.inl rfl))
  (pss_cons (ps_set (i := 5) sc_law_drawn.nd rfl (Or.inl rfl) (pe_lst pa_nil))
  (pss_cons (psz_for PassesOwn.leaving rfl (pi_range1 rfl T.b_range (pa_cons pe_int pa_nil)) (pg_name (i := 6) sc_law_drawn.nd rfl (Or.inl rfl))
  (pss_cons (ps_set (i := 7) sc_law_drawn.nd rfl (Or.inl rfl) (pe_callZ (ok_law_take T) (hr.mono (by decide)) hgu rfl T.g_law_take T.k_law_take T.e_law_take .nil (fun σ => passAt (takes_of rfl rfl rfl rfl) σ) (pa_cons (zv 0) (pa_cons pe_int pa_nil))))
  (pss_one (ps_if (ptz_cmp (op_zEq hr.units) (zv 7) pe_int (nomark _))
  (pss_one (ps_expr (pe_bm PySem.F.plainAttrs_list PySem.F.slot_list_append PySem.F.type_list_append mt_append (zv 5) (pa_cons pe_non pa_nil))))
  (pss_one (ps_if (ptz_cmp (op_zEq hr.units) (zv 7) pe_int (nomark _))
  (pss_one (ps_expr (pe_bm PySem.F.plainAttrs_list PySem.F.slot_list_append PySem.F.type_list_append mt_append (zv 5) (pa_cons (pe_callZ (ok_law_number T) (hr.mono (by decide)) hgu rfl T.g_law_number T.k_law_number T.e_law_number .nil (fun σ => passAt (takes_of rfl rfl rfl rfl) σ) (pa_cons (zv 0) pa_nil)) pa_nil))))
  (pss_one (ps_expr (pe_bm PySem.F.plainAttrs_list PySem.F.slot_list_append PySem.F.type_list_append mt_append (zv 5) (pa_cons (pe_ix ix_z (zv 2) (pe_callZ (ok_law_take T) (hr.mono (by decide)) hgu rfl T.g_law_take T.k_law_take T.e_law_take .nil (fun σ => passAt (takes_of rfl rfl rfl rfl) σ) (pa_cons (zv 0) (pa_cons (pe_callB call_lenZ (by rfl) T.b_len (by decide +kernel) (pa_cons (zv 2) pa_nil)) pa_nil))) (fun _ _ => rfl)) pa_nil))))))))))
  (pss_one (ps_expr (pe_bm PySem.F.plainAttrs_list PySem.F.slot_list_append PySem.F.type_list_append mt_append (zv 3) (pa_cons (pe_tup (pa_cons (pe_ix ix_z (zv 5) pe_int (fun _ _ => rfl)) (pa_cons (pe_ix ix_z (zv 5) pe_int (fun _ _ => rfl)) pa_nil))) pa_nil)))))))
  (pss_one (ps_ret (zv 3))))))

/-! ### what is kept while lists change -/
def KeepT (H H' : Hp) : Prop := ∀ b o, H b = some o → (∀ l, o ≠ .lst l) → H' b = some o
theorem KeepT.refl (H : Hp) : KeepT H H := fun _ _ e _ => e
theorem KeepT.trans {A B C : Hp} (h : KeepT A B) (k : KeepT B C) : KeepT A C := fun b o e n => k b o (h b o e n) n
theorem KeepT.same {H H' : Hp} (s : Same H H') : KeepT H H' := fun b o e _ => s b o e
theorem KeepT.but {H H' : Hp} {p : Addr} (h : BagAt H p) (b : But p H H') : KeepT H H' := fun c o e n => b c o e fun z => by
  obtain ⟨x, y, e2⟩ := h
  rw [z, e2] at e
  cases e
  exact n _ rfl
theorem KeepT.put {H : Hp} {a : Addr} {l : List V} {o : HO} (e : H a = some (.lst l)) : KeepT H (upd H a o) := fun b u e2 n => by
  rw [upd_ne fun z => ?_]
  · exact e2
  · rw [z, e] at e2
    cases e2
    exact n _ rfl
theorem SqT.keepT {K : PySem.W.Frag} {H H' : Hp} {a : Addr} {xs : List V} (k : KeepT H H') (h : SqT K H a xs) : SqT K H' a xs := by
  rcases h with (h | ⟨o, h⟩) | h
  · exact .inl (.inl (k _ _ h fun l z => (nomatch z)))
  · exact .inl (.inr ⟨o, k _ _ h fun l z => (nomatch z)⟩)
  · exact .inr h
theorem RowAt.keepT {K : PySem.W.Frag} {H H' : Hp} {x : V} {p : Rw} (k : KeepT H H') (h : RowAt K H x p) : RowAt K H' x p := by
  obtain ⟨r, e, q⟩ := h
  exact ⟨r, e, Z.SqT.keepT k q⟩
theorem RowsAt.keepT {K : PySem.W.Frag} {H H' : Hp} {xs : List V} {ps : List Rw} (k : KeepT H H') (h : RowsAt K H xs ps) : RowsAt K H' xs ps := L2.Paired.mapP h fun _ _ q => q.keepT k
theorem PairAt.keepT {K : PySem.W.Frag} {g : Ads} {H H' : Hp} {o : Addr} {R : List Rw} {ap : List Nat} (k : KeepT H H') (h : PairAt K g H o R ap) : PairAt K g H' o R ap := by
  obtain ⟨⟨dx, ra, aa, fs, ys, h1, h2, h3, h4, h5, h6⟩, h7, h8, h9⟩ := h
  exact ⟨⟨dx, ra, aa, fs, ys, k _ _ h1 fun l z => (nomatch z), h2, h3, Z.SqT.keepT k h4, RowsAt.keepT k h5, Z.SqT.keepT k h6⟩, h7, h8, h9⟩
/-- a short text of plain signs -/
def wTxt (z : Str) : Prop := z.length ≤ 20 ∧ ∀ c ∈ z.cps.toList, c < 1114112
def uOk (p : Prt) : Prop := pOk p ∧ ∀ z, p = .str z → wTxt z
abbrev pwords : List Str := ["", "none", "v0", "v1", "v10", "V0", "x y"]
theorem pwords_ok : ∀ z ∈ pwords, z.length ≤ 20 ∧ ∀ c ∈ z.cps.toList, c < 1114112 := by decide +kernel
theorem cut_words {r : Int} (h0 : 0 ≤ r) (h1 : r < 7) : ∃ zs : List Str, cutV (pwords.map V.str) none (some (1 + r)) = zs.map V.str ∧ 0 < zs.length ∧ zs.length ≤ 7 ∧ ∀ z ∈ zs, wTxt z := by
  have e : r = 0 ∨ r = 1 ∨ r = 2 ∨ r = 3 ∨ r = 4 ∨ r = 5 ∨ r = 6 := by omega
  rcases e with rfl | rfl | rfl | rfl | rfl | rfl | rfl
  · exact ⟨pwords.take 1, rfl, by decide, by decide, fun z hz => pwords_ok z (List.mem_of_mem_take hz)⟩
  · exact ⟨pwords.take 2, rfl, by decide, by decide, fun z hz => pwords_ok z (List.mem_of_mem_take hz)⟩
  · exact ⟨pwords.take 3, rfl, by decide, by decide, fun z hz => pwords_ok z (List.mem_of_mem_take hz)⟩
  · exact ⟨pwords.take 4, rfl, by decide, by decide, fun z hz => pwords_ok z (List.mem_of_mem_take hz)⟩
  · exact ⟨pwords.take 5, rfl, by decide, by decide, fun z hz => pwords_ok z (List.mem_of_mem_take hz)⟩
  · exact ⟨pwords.take 6, rfl, by decide, by decide, fun z hz => pwords_ok z (List.mem_of_mem_take hz)⟩
  · exact ⟨pwords.take 7, rfl, by decide, by decide, fun z hz => pwords_ok z (List.mem_of_mem_take hz)⟩
def rOk (p : Rw) : Prop := uOk p.1 ∧ uOk p.2
def sp_law_drawn (K : PySem.W.Frag) (g : Ads) : Sp := fun vs H Q E => ∃ (p : Addr) (n : Int), vs = [.ref p, .int n] ∧ BagAt H p ∧ 0 ≤ n ∧ n ≤ 500 ∧
  ∀ D xs ps H', BagAt H' p → But p H H' → H D = none → H' D = some (.lst xs) → RowsAt K H' xs ps → (∀ q ∈ ps, rOk q) → ps.length ≤ 500 → (ps.length : Int) ≤ n → Q (.ref D) H'
theorem pf_law_drawn {K : PySem.W.Frag} {g : Ads} (vs : List V) (H : Hp) (Q : VK) (E : XK) (h : sp_law_drawn K g vs H Q E) : rw_law_drawn K g vs H Q E := by
  obtain ⟨p, n, rfl, hb, n0, n1, q⟩ := h
  refine ⟨rfl, show 7 ≤ sizeLine by decide, fun l hl => ⟨p, 7, rfl, hb.same (Same.put hl), by decide, by decide, fun r H1 r0 r1 b1 bt1 => ?_⟩⟩
  have sl : Same H (upd H l (.lst (pwords.map V.str))) := Same.put hl
  have nl : l ≠ p := hb.ne hl
  have el : H1 l = some (.lst (pwords.map V.str)) := bt1 _ _ upd_same nl
  refine ⟨1 + r, rfl, l, _, rfl, SqL.of el, fun W hW => ?_⟩
  obtain ⟨zs, ez, z0, z7, zw⟩ := cut_words r0 r1
  show R_law_drawn_2 K g E { nx := fun _ H' => Q .non H', rt := Q } [some (.ref p), some (.int n), some (.ref W), none, none, none, none, none] (upd H1 W (.lst (cutV (pwords.map V.str) none (some (1 + r)))))
  rw [ez]
  have sW : Same H1 (upd H1 W (.lst (zs.map V.str))) := Same.put hW
  refine ⟨show 0 ≤ sizeLine by decide, fun R hR => ?_⟩
  have sR : Same (upd H1 W (.lst (zs.map V.str))) (upd (upd H1 W (.lst (zs.map V.str))) R (.lst [])) := Same.put hR
  have b2 : BagAt (upd (upd H1 W (.lst (zs.map V.str))) R (.lst [])) p := b1.same (sW.trans sR)
  have nW : W ≠ p := b1.ne hW
  have nR : R ≠ p := (b1.same sW).ne hR
  have nWR : W ≠ R := ne_of_none upd_same hR
  have bt : But p H (upd (upd H1 W (.lst (zs.map V.str))) R (.lst [])) := (But.same sl).trans (bt1.trans (But.same (sW.trans sR)))
  have hRn : H R = none := by
    cases e : H R with
    | none => rfl
    | some o =>
      have e2 := (sW) _ _ (bt1 _ _ (sl _ _ e) nR)
      rw [e2] at hR
      cases hR
  have eW : (upd (upd H1 W (.lst (zs.map V.str))) R (.lst [])) W = some (.lst (zs.map V.str)) := sR _ _ upd_same
  have eR : (upd (upd H1 W (.lst (zs.map V.str))) R (.lst [])) R = some (.lst []) := upd_same
  generalize upd (upd H1 W (.lst (zs.map V.str))) R (.lst []) = H2 at b2 bt eW eR
  refine ⟨n, rfl, by omega, by omega, for_z (walk_range (lo := 0) (n := n.toNat)) (fun i σ H' => (∃ s4 s5 s6 s7, σ = [some (.ref p), some (.int n), some (.ref W), some (.ref R), s4, s5, s6, s7]) ∧ BagAt H' p ∧ But p H H' ∧ H' W = some (.lst (zs.map V.str)) ∧
    ∃ acc ps, H' R = some (.lst acc) ∧ RowsAt K H' acc ps ∧ (∀ q ∈ ps, rOk q) ∧ ps.length = i) ⟨⟨none, none, none, none, rfl⟩, b2, bt, eW, [], [], eR, .nil, fun q hq => absurd hq (by simp), rfl⟩ (fun _ _ _ _ _ => trivial) (fun i x σ H3 H3' hi pv y => ?_) (fun σ H3 pv => ?_)⟩
  · obtain ⟨⟨s4, s5, s6, s7, e1⟩, c1, c2, c3, acc, ps, c4, c5, c6, c7⟩ := pv
    obtain ⟨rfl, rfl⟩ := y
    subst e1
    refine ⟨show 0 ≤ sizeLine by decide, fun S hS => ?_⟩
    have sS : Same H3' (upd H3' S (.lst [])) := Same.put hS
    have nS : S ≠ p := c1.ne hS
    have nSW : S ≠ W := (ne_of_none c3 hS).symm
    have nSR : S ≠ R := (ne_of_none c4 hS).symm
    have hSn : H S = none := by
      cases e : H S with
      | none => rfl
      | some o =>
        have e2 := c2 _ _ e nS
        rw [e2] at hS
        cases hS
    refine ⟨2, rfl, by decide, by decide, for_z (walk_range (lo := 0) (n := 2)) (fun j σ H' => (∃ s6 s7, σ = [some (.ref p), some (.int n), some (.ref W), some (.ref R), some (.int (0 + (i : Nat))), some (.ref S), s6, s7]) ∧ BagAt H' p ∧ But p H H' ∧ H' W = some (.lst (zs.map V.str)) ∧
      H' R = some (.lst acc) ∧ RowsAt K H' acc ps ∧ ∃ qs : List Prt, H' S = some (.lst (qs.map Prt.v)) ∧ qs.length = j ∧ ∀ u ∈ qs, uOk u)
      ⟨⟨_, _, rfl⟩, c1.same sS, c2.trans (But.same sS), sS _ _ c3, sS _ _ c4, RowsAt.same c5 sS, [], upd_same, rfl, fun u hu => absurd hu (by simp)⟩ (fun _ _ _ _ _ => trivial) (fun j x σ H4 H4' hj pv y => ?_) (fun σ H4 pv => ?_)⟩
    · obtain ⟨⟨s6, s7, e1⟩, d1, d2, d3, d4, d5, qs, d6, d7, d8⟩ := pv
      obtain ⟨rfl, rfl⟩ := y
      subst e1
      -- one more part
      have app : ∀ (H5 : Hp) (u : Prt) (s7' : Option V), BagAt H5 p → But p H4' H5 → uOk u →
          (∃ s6 s7, [some (V.ref p), some (.int n), some (.ref W), some (.ref R), some (.int (0 + (i : Nat))), some (.ref S), some (.int (0 + (j : Nat))), s7'] = [some (.ref p), some (.int n), some (.ref W), some (.ref R), some (.int (0 + (i : Nat))), some (.ref S), s6, s7]) ∧
          BagAt (upd H5 S (.lst (qs.map Prt.v ++ [u.v]))) p ∧ But p H (upd H5 S (.lst (qs.map Prt.v ++ [u.v]))) ∧ (upd H5 S (.lst (qs.map Prt.v ++ [u.v]))) W = some (.lst (zs.map V.str)) ∧
          (upd H5 S (.lst (qs.map Prt.v ++ [u.v]))) R = some (.lst acc) ∧ RowsAt K (upd H5 S (.lst (qs.map Prt.v ++ [u.v]))) acc ps ∧
          ∃ qs2 : List Prt, (upd H5 S (.lst (qs.map Prt.v ++ [u.v]))) S = some (.lst (qs2.map Prt.v)) ∧ qs2.length = j + 1 ∧ ∀ u ∈ qs2, uOk u := by
        intro H5 u s7' a1 a2 a3
        have a4 : H5 S = some (.lst (qs.map Prt.v)) := a2 _ _ d6 nS
        refine ⟨⟨_, _, rfl⟩, ?_, ?_, ?_, ?_, ?_, qs ++ [u], ?_, by simp [d7], ?_⟩
        · obtain ⟨c, m, e⟩ := a1
          exact ⟨c, m, by rw [upd_ne nS.symm]; exact e⟩
        · intro b o e nb
          rw [upd_ne (ne_of_none e hSn)]
          exact a2 _ _ (d2 _ _ e nb) nb
        · rw [upd_ne nSW.symm]
          exact a2 _ _ d3 nW
        · rw [upd_ne nSR.symm]
          exact a2 _ _ d4 nR
        · exact RowsAt.keepT ((KeepT.but d1 a2).trans (KeepT.put a4)) d5
        · rw [upd_same, List.map_append]
          rfl
        · intro v hv
          rcases List.mem_append.mp hv with h | h
          · exact d8 v h
          · obtain rfl : v = u := by simpa using h
            exact a3
      have lt : (qs.map Prt.v).length < sizeLine := Nat.lt_of_le_of_lt (show _ ≤ 2 by rw [List.length_map]; omega) (by decide)
      refine ⟨p, 8, rfl, d1, by decide, by decide, fun k H5 k0 k1 e1 f1 => .inl ⟨rfl, zite (fun _ => ?_) (fun _ => .inl ⟨rfl, zite (fun _ => ?_) (fun _ => ?_)⟩)⟩⟩
      · exact ⟨.inl ⟨rfl, _, SqL.of (f1 _ _ d6 nS)⟩, S, _, _, rfl, rfl, f1 _ _ d6 nS, lt, app H5 .non _ e1 f1 ⟨fun i h => (nomatch h), fun z h => (nomatch h)⟩⟩
      · exact ⟨.inl ⟨rfl, _, SqL.of (f1 _ _ d6 nS)⟩, p, rfl, e1, fun m H6 m0 m1 e2 f2 => ⟨S, _, _, rfl, rfl, f2 _ _ (f1 _ _ d6 nS) nS, lt, app H6 (.int m) _ e2 (f1.trans f2) ⟨fun i h => by cases h; exact ⟨m0, m1⟩, fun z h => (nomatch h)⟩⟩⟩
      · have eW5 := f1 _ _ d3 nW
        have l0 : (0 : Int) < ((zs.map V.str).length : Nat) := by
          rw [List.length_map]
          omega
        refine ⟨.inl ⟨rfl, _, SqL.of (f1 _ _ d6 nS)⟩, _, .inl (SqL.of eW5), p, _, rfl, e1, l0, ?_, fun k2 H6 g0 g1 e2 f2 => ?_⟩
        · rw [List.length_map]
          omega
        · have lz : k2.toNat < zs.length := by
            rw [List.length_map] at g1
            omega
          have hat : atI (zs.map V.str) k2 = some (.str zs[k2.toNat]) := by
            have := atI_nat (xs := zs.map V.str) (j := k2.toNat) (v := .str zs[k2.toNat]) (by simp [lz])
            rwa [show ((k2.toNat : Nat) : Int) = k2 by omega] at this
          exact ⟨_, _, .inl (SqL.of (f2 _ _ eW5 nW)), hat, S, _, _, rfl, rfl, f2 _ _ (f1 _ _ d6 nS) nS, lt, app H6 (.str zs[k2.toNat]) _ e2 (f1.trans f2) ⟨fun i h => (nomatch h), fun z h => by cases h; exact zw _ (List.getElem_mem lz)⟩⟩
    · obtain ⟨⟨s6, s7, e1⟩, d1, d2, d3, d4, d5, qs, d6, d7, d8⟩ := pv
      subst e1
      match qs, d7, d6, d8 with
      | [u1, u2], _, d6, d8 =>
        refine ⟨.inl ⟨rfl, _, SqL.of d4⟩, _, _, .inl (SqL.of d6), rfl, _, _, .inl (SqL.of d6), rfl, show 2 ≤ sizeLine by decide, fun T hT => ?_⟩
        have sT : Same H4 (upd H4 T (.tup [u1.v, u2.v])) := Same.put hT
        have eR := sT _ _ d4
        have la : acc.length ≤ 500 := by rw [c5.length]; omega
        have nTR : T ≠ R := (ne_of_none d4 hT).symm
        refine ⟨R, acc, _, rfl, rfl, eR, Nat.lt_of_le_of_lt la (by decide), ⟨_, _, _, _, rfl⟩, ?_, ?_, ?_, acc ++ [.ref T], ps ++ [(u1, u2)], upd_same, ?_, ?_, by simp [c7]⟩
        · obtain ⟨c, m, e⟩ := d1.same sT
          exact ⟨c, m, by rw [upd_ne nR.symm]; exact e⟩
        · intro b o e nb
          rw [upd_ne (ne_of_none e hRn)]
          exact sT _ _ (d2 _ _ e nb)
        · rw [upd_ne nWR]
          exact sT _ _ d3
        · have k5 : KeepT H4 (upd (upd H4 T (.tup [u1.v, u2.v])) R (.lst (acc ++ [.ref T]))) := (KeepT.same sT).trans (KeepT.put eR)
          refine (RowsAt.keepT k5 d5).snoc ⟨T, rfl, .inl (.inl ?_)⟩
          rw [upd_ne nTR, upd_same]
        · intro v hv
          rcases List.mem_append.mp hv with h | h
          · exact c6 v h
          · obtain rfl : v = (u1, u2) := by simpa using h
            exact ⟨d8 _ (by simp), d8 _ (by simp)⟩
  · obtain ⟨⟨s4, s5, s6, s7, e1⟩, c1, c2, c3, acc, ps, c4, c5, c6, c7⟩ := pv
    subst e1
    exact q R acc ps H3 c1 c2 hRn c4 c5 c6 (by omega) (by omega)
theorem ok_law_drawn {P : Program} {w : World} {K : PySem.W.Frag} {mg : Str → Option Value} {base : Heap} {g : Ads} (T : Txt K mg g) : FnZ P w K mg base 3 g.f_law_drawn g.d_law_drawn ["bag", "many"] (sp_law_drawn K g) := (raw_law_drawn T).imp pf_law_drawn
end Z
namespace Z
open PySem PySem.Spec PyProof.Rows L2
theorem sc_rank_of : FnScope ["part"] ["part"] (defScope s_rank_of) := ⟨rfl, rfl, rfl, by decide +kernel, rfl, by decide +kernel, by decide +kernel⟩
def R_rank_of_2 (K : PySem.W.Frag) (g : Ads) (E : XK) : TS :=
  (tRet (tTup (tCons (tC (.int 0)) (tCons (tC (.int 0)) tNil))))
def R_rank_of_4 (K : PySem.W.Frag) (g : Ads) (E : XK) : TS :=
  (tRet (tTup (tCons (tC (.int 2)) (tCons (tCB rIntS (tCons (tSl rSlS (zVar 0) (tPart (tC (.int 1))) tNoPart) tNil)) tNil))))
def R_rank_of_5 (K : PySem.W.Frag) (g : Ads) (E : XK) : TS :=
  (tRet (tTup (tCons (tC (.int 1)) (tCons (zVar 0) tNil))))
def R_rank_of_3 (K : PySem.W.Frag) (g : Ads) (E : XK) : TS :=
  (tSeq (tIfS (zTru K (zIsiT K .str (zVar 0)))
  (R_rank_of_4 K g E)
  tNext)
  (R_rank_of_5 K g E))
def R_rank_of (K : PySem.W.Frag) (g : Ads) (E : XK) : TS :=
  (tSeq (tIfS (zTest (tOp zIs (zVar 0) (tC .non)))
  (R_rank_of_2 K g E)
  tNext)
  (R_rank_of_3 K g E))
def rw_rank_of (K : PySem.W.Frag) (g : Ads) : Sp := fun vs H Q E => vs.length = 1 ∧ R_rank_of K g E { nx := fun _ H' => Q .non H', rt := Q } (start ["part"] vs) H
theorem raw_rank_of {P : Program} {w : World} {K : PySem.W.Frag} {mg : Str → Option Value} {base : Heap} {g : Ads} (T : Txt K mg g) : FnG false P w K mg base 1 g.f_rank_of g.d_rank_of ["part"] (rw_rank_of K g) := by
  refine okZ T.f_rank_of sc_rank_of (fun vs H Q E h => h.1) (fun cdv A outer s H vs Q E hr hgu h => ⟨R_rank_of K g E, ?_, h.2⟩)
  exact (pss_cons (ps_if (ptz_cmp op_zIs (zv 0) pe_non (nomark _))
  (pss_one (ps_ret (pe_tup (pa_cons pe_int (pa_cons pe_int pa_nil)))))
  pss_nil)
  (pss_cons (ps_if (ptz_truth (pe_isi (kd := .str) (zv 0) (by rfl) T.b_isinstance (by decide +kernel) (by rfl) T.b_str (by decide +kernel)) (by intro _; rfl))
  (pss_one (ps_ret (pe_tup (pa_cons pe_int (pa_cons (pe_callTy call_intS (by rfl) T.b_int (by decide +kernel) (pa_cons (pe_slice sl_str (zv 0) (po_some pe_int) po_none) pa_nil)) pa_nil)))))
  pss_nil)
  (pss_one (ps_ret (pe_tup (pa_cons pe_int (pa_cons (zv 0) pa_nil)))))))
/-- the rank of a part in normal form -/
def Rk (p : Prt) (a b : Int) : Prop := (p = .non ∧ a = 0 ∧ b = 0) ∨ (∃ i, p = .int i ∧ a = 1 ∧ b = i) ∨ ∃ k : Nat, p = .str (vn k) ∧ a = 2 ∧ b = (k : Nat) ∧ k ≤ 4000
theorem cut_vn (k : Nat) : cutS (vn k) (some 1) none = Str.ofString (toString ((k : Nat) : Int)) := by
  have e : (vn k).cps.toList = 118 :: (Str.ofString (toString ((k : Nat) : Int))).cps.toList := by
    show (("v" : Str).cps ++ (Str.ofString (toString ((k : Nat) : Int))).cps).toList = _
    rw [Array.toList_append]
    rfl
  have hl : (vn k).length = 1 + (Str.ofString (toString ((k : Nat) : Int))).cps.toList.length := by
    show (vn k).cps.size = _
    rw [← Array.length_toList, e, List.length_cons]
    omega
  unfold cutS
  have i1 : HT.sIx (vn k).length 0 (some 1) = 1 := by
    show min 1 (vn k).length = 1
    omega
  have i2 : HT.sIx (vn k).length (vn k).length none = (vn k).length := rfl
  rw [i1, i2, e, hl, List.drop_succ_cons, List.drop_zero, show 1 + (Str.ofString (toString ((k : Nat) : Int))).cps.toList.length - 1 = (Str.ofString (toString ((k : Nat) : Int))).cps.toList.length by omega, List.take_length, Array.toArray_toList]
theorem int_vn {k : Nat} (h : k ≤ 4000) : intText? (cutS (vn k) (some 1) none) = some (k : Int) ∧ (cutS (vn k) (some 1) none).length ≤ 640 := by
  have e := int_text_length_le (a := ((k : Nat) : Int)) (k := 12) (by decide) (small_log h)
  have hl : (Str.ofString (toString ((k : Nat) : Int))).length ≤ 13 := by
    rw [PySem.ofString_length]
    exact e
  rw [cut_vn]
  refine ⟨TL.int_num ?_, Nat.le_trans hl (by decide)⟩
  rw [← TL.tl_num k]
  show (Str.ofString (toString ((k : Nat) : Int))).cps.toList.length ≤ 4300
  rw [Array.length_toList]
  exact Nat.le_trans hl (by decide)
def sp_rank_of (K : PySem.W.Frag) (g : Ads) : Sp := fun vs H Q E => ∃ p a b, vs = [Prt.v p] ∧ Rk p a b ∧ ∀ T, H T = none → Q (.ref T) (upd H T (.tup [.int a, .int b]))
theorem pf_rank_of {K : PySem.W.Frag} {g : Ads} (vs : List V) (H : Hp) (Q : VK) (E : XK) (h : sp_rank_of K g vs H Q E) : rw_rank_of K g vs H Q E := by
  obtain ⟨p, a, b, rfl, r, q⟩ := h
  rcases r with ⟨rfl, rfl, rfl⟩ | ⟨i, rfl, rfl, rfl⟩ | ⟨k, rfl, rfl, rfl, hk⟩
  · exact ⟨rfl, rfl, show 2 ≤ sizeLine by decide, q⟩
  · exact ⟨rfl, rfl, show 2 ≤ sizeLine by decide, q⟩
  · obtain ⟨h1, h2⟩ := int_vn hk
    exact ⟨rfl, rfl, 1, rfl, _, rfl, Nat.le_trans (vn_len hk) (by decide), _, h1, h2, show 2 ≤ sizeLine by decide, q⟩
theorem ok_rank_of {P : Program} {w : World} {K : PySem.W.Frag} {mg : Str → Option Value} {base : Heap} {g : Ads} (T : Txt K mg g) : FnG false P w K mg base 1 g.f_rank_of g.d_rank_of ["part"] (sp_rank_of K g) := (raw_rank_of T).imp pf_rank_of
theorem sc_Pair_rank : FnScope ["pair", "clean", "failing"] ["pair"] (defScope s_Pair_rank) := ⟨rfl, rfl, rfl, by decide +kernel, rfl, by decide +kernel, by decide +kernel⟩
def R_Pair_rank (K : PySem.W.Frag) (g : Ads) (E : XK) : TS :=
  (tRet (tCB (zTupOf K) (tCons (zLc (iTup K (tFld K (zVar 0) "rows")) (gTup K 2 (gCons (gName 1) (gCons (gName 2) gNil))) tYes (tTup (tCons (zCall (sp_rank_of K g) [] (fun _ => E0) (tCons (zVar 1) tNil)) (tCons (zCall (sp_rank_of K g) [] (fun _ => E0) (tCons (zVar 2) tNil)) tNil))) [1, 2]) tNil)))
def rw_Pair_rank (K : PySem.W.Frag) (g : Ads) : Sp := fun vs H Q E => vs.length = 1 ∧ R_Pair_rank K g E { nx := fun _ H' => Q .non H', rt := Q } (start ["pair", "clean", "failing"] vs) H
theorem raw_Pair_rank {P : Program} {w : World} {K : PySem.W.Frag} {mg : Str → Option Value} {base : Heap} {g : Ads} (T : Txt K mg g) : FnG false P w K mg base 2 g.f_Pair_rank g.d_Pair_rank ["pair"] (rw_Pair_rank K g) := by
  refine okZ T.f_Pair_rank sc_Pair_rank (fun vs H Q E h => h.1) (fun cdv A outer s H vs Q E hr hgu h => ⟨R_Pair_rank K g E, ?_, h.2⟩)
  exact (pss_one (ps_ret (pe_callTy call_tupZ (by rfl) T.b_tuple (by decide +kernel) (pa_cons (pez_lc (own := [("clean", 1), ("failing", 2)]) rfl sc_Pair_rank.nd (pi_tup (pe_fld (zv 0) rfl)) (blkOk_by (own := [("clean", 1), ("failing", 2)]) (N := ["pair", "clean", "failing"]) (sc := defScope s_Pair_rank) (by decide +kernel)) (fun _ _ _ _ _ => pg_tup rfl (pgs_cons (pg_name (i := 1) sc_Pair_rank.nd rfl (Or.inl rfl)) (pgs_cons (pg_name (i := 2) sc_Pair_rank.nd rfl (Or.inl rfl)) pgs_nil))) (fun _ _ _ _ _ => pts_nil) (fun _ _ _ _ _ => (pe_tup (pa_cons (pe_callZ (ok_rank_of T) (hr.mono (by decide)) hgu rfl T.g_rank_of T.k_rank_of T.e_rank_of .nil passE0 (pa_cons (zv 1) pa_nil)) (pa_cons (pe_callZ (ok_rank_of T) (hr.mono (by decide)) hgu rfl T.g_rank_of T.k_rank_of T.e_rank_of .nil passE0 (pa_cons (zv 2) pa_nil)) pa_nil))))) pa_nil))))
abbrev RR := (Int × Int) × (Int × Int)
def RkRow (p : Rw) (r : RR) : Prop := Rk p.1 r.1.1 r.1.2 ∧ Rk p.2 r.2.1 r.2.2
def RankRow (K : PySem.W.Frag) (H : Hp) (v : V) (r : RR) : Prop := ∃ a b c, v = .ref c ∧ SqT K H c [.ref a, .ref b] ∧ SqT K H a [.int r.1.1, .int r.1.2] ∧ SqT K H b [.int r.2.1, .int r.2.2]
theorem RankRow.keepT {K : PySem.W.Frag} {H H' : Hp} {v : V} {r : RR} (k : KeepT H H') (h : RankRow K H v r) : RankRow K H' v r := by
  obtain ⟨a, b, c, e, h1, h2, h3⟩ := h
  exact ⟨a, b, c, e, Z.SqT.keepT k h1, Z.SqT.keepT k h2, Z.SqT.keepT k h3⟩
abbrev Ranks (K : PySem.W.Frag) (H : Hp) : List V → List RR → Prop := Paired (RankRow K H)
theorem Ranks.keepT {K : PySem.W.Frag} {H H' : Hp} {xs : List V} {rs : List RR} (k : KeepT H H') (h : Ranks K H xs rs) : Ranks K H' xs rs := L2.Paired.mapP h fun _ _ q => q.keepT k
def sp_Pair_rank (K : PySem.W.Frag) (g : Ads) : Sp := fun vs H Q E => ∃ o R ap rs, vs = [.ref o] ∧ PairAt K g H o R ap ∧ Paired RkRow R rs ∧
  ∀ D ys H', Same H H' → H D = none → SqT K H' D ys → Ranks K H' ys rs → Q (.ref D) H'
theorem pf_Pair_rank {K : PySem.W.Frag} {mg : Str → Option Value} {g : Ads} (T : Txt K mg g) (vs : List V) (H : Hp) (Q : VK) (E : XK) (h : sp_Pair_rank K g vs H Q E) : rw_Pair_rank K g vs H Q E := by
  obtain ⟨o, R, ap, rs, rfl, hp, hk, q⟩ := h
  obtain ⟨⟨dx, ra, aa, fs, ys, h1, h2, h3, h4, h5, h6⟩, _, _, ln⟩ := hp
  have ly : ys.length = R.length := h5.length
  have lr : R.length = rs.length := hk.length
  refine ⟨rfl, o, _, _, _, _, rfl, h1, T.cl_Pair, T.na_Pair_rows, h2, ra, rfl, ⟨_, h4⟩, lc_z (walk_tup (xs := ys)) (fun D i H' => Same H H' ∧ ∃ acc, H' D = some (.lst acc) ∧ Ranks K H' acc (rs.take i)) (fun D hD => ⟨Same.put hD, [], upd_same, .nil⟩) (fun D i H' _ _ pv => Z.Same.tup pv.1 h4) (fun D i x H1 H1' hD hi pv y => ?_) (fun D H1 hD pv => ?_)⟩
  · obtain ⟨sm, acc, e, pr⟩ := pv
    obtain ⟨rfl, hx⟩ := y
    obtain ⟨p, hp, r, rfl, hrow⟩ := paired_get h5 hx
    obtain ⟨rk, hrk, k1, k2⟩ := paired_get hk hp
    have hrow' := Z.Same.tup sm hrow
    refine ⟨r, _, rfl, hrow', rfl, _, _, rfl, _, _, rfl, rfl, rfl, p.1, _, _, rfl, k1, fun T1 hT1 => ⟨p.2, _, _, rfl, k2, fun T2 hT2 => ⟨show 2 ≤ sizeLine by decide, fun T3 hT3 => ?_⟩⟩⟩
    have s1 : Same H1' (upd H1' T1 (.tup [.int rk.1.1, .int rk.1.2])) := Same.put hT1
    have s2 := Same.put (o := .tup [V.int rk.2.1, .int rk.2.2]) hT2
    have s3 := Same.put (o := .tup [V.ref T1, .ref T2]) hT3
    have s4 := (s1.trans s2).trans s3
    have e4 := s4 _ _ e
    refine ⟨acc, e4, ?_, ?_, acc ++ [.ref T3], upd_same, ?_⟩
    · refine Nat.lt_of_le_of_lt (show _ ≤ 1000 from ?_) (by decide)
      rw [pr.length, List.length_take]
      omega
    · intro b u eb
      rw [upd_ne (ne_of_none eb hD)]
      exact s4 _ _ (sm _ _ eb)
    · have tk : rs.take (i + 1) = rs.take i ++ [rk] := by rw [List.take_add_one, hrk]; rfl
      rw [tk]
      have kk := KeepT.put (o := .lst (acc ++ [.ref T3])) e4
      refine (Ranks.keepT ((KeepT.same s4).trans kk) pr).snoc ⟨T1, T2, T3, rfl, Z.SqT.keepT kk (SqT.of upd_same), Z.SqT.keepT kk (Z.Same.tup (s2.trans s3) (SqT.of upd_same)), Z.SqT.keepT kk (Z.Same.tup s3 (SqT.of upd_same))⟩
  · obtain ⟨sm, acc, e, pr⟩ := pv
    rw [List.take_of_length_le (by omega)] at pr
    refine ⟨acc, .inl ⟨SqL.of e, fun A hA => ?_⟩⟩
    have sA := Same.put (o := .tup acc) hA
    refine q A acc _ (sm.trans sA) ?_ (SqT.of upd_same) (Ranks.keepT (KeepT.same sA) pr)
    cases eA : H A with
    | none => rfl
    | some u => rw [sm _ _ eA] at hA; cases hA
theorem ok_Pair_rank {P : Program} {w : World} {K : PySem.W.Frag} {mg : Str → Option Value} {base : Heap} {g : Ads} (T : Txt K mg g) : FnG false P w K mg base 2 g.f_Pair_rank g.d_Pair_rank ["pair"] (sp_Pair_rank K g) := (raw_Pair_rank T).imp (pf_Pair_rank T)
end Z
namespace Z
open PySem PySem.Spec PyProof.Rows L2
/-! ### ranks, in plain Lean -/
theorem rk_fun {p : Prt} {a b c d : Int} (h : Rk p a b) (k : Rk p c d) : a = c ∧ b = d := by
  rcases h with ⟨rfl, rfl, rfl⟩ | ⟨i, rfl, rfl, rfl⟩ | ⟨n, rfl, rfl, rfl, hn⟩
  · rcases k with ⟨_, rfl, rfl⟩ | ⟨i, e, _, _⟩ | ⟨n, e, _, _, _⟩
    · exact ⟨rfl, rfl⟩
    · cases e
    · cases e
  · rcases k with ⟨e, _, _⟩ | ⟨j, e, rfl, rfl⟩ | ⟨n, e, _, _, _⟩
    · cases e
    · cases e; exact ⟨rfl, rfl⟩
    · cases e
  · rcases k with ⟨e, _, _⟩ | ⟨j, e, _, _⟩ | ⟨m, e, rfl, rfl, _⟩
    · cases e
    · cases e
    · have : vn n = vn m := by injection e
      exact ⟨rfl, by rw [vn_inj this]⟩
theorem rk_inj {p q : Prt} {a b : Int} (h : Rk p a b) (k : Rk q a b) : p = q := by
  rcases h with ⟨rfl, rfl, rfl⟩ | ⟨i, rfl, rfl, rfl⟩ | ⟨n, rfl, rfl, rfl, hn⟩
  · rcases k with ⟨rfl, _, _⟩ | ⟨i, _, e, _⟩ | ⟨n, _, e, _, _⟩
    · rfl
    · cases e
    · cases e
  · rcases k with ⟨_, e, _⟩ | ⟨j, rfl, _, e⟩ | ⟨n, _, e, _, _⟩
    · cases e
    · rw [e]
    · cases e
  · rcases k with ⟨_, e, _⟩ | ⟨j, _, e, _⟩ | ⟨m, rfl, _, e, _⟩
    · cases e
    · cases e
    · rw [show n = m by omega]
theorem rkr_fun {p : Rw} {r s : RR} (h : RkRow p r) (k : RkRow p s) : r = s := by
  obtain ⟨h1, h2⟩ := h
  obtain ⟨k1, k2⟩ := k
  obtain ⟨e1, e2⟩ := rk_fun h1 k1
  obtain ⟨e3, e4⟩ := rk_fun h2 k2
  obtain ⟨⟨a, b⟩, c, d⟩ := r
  obtain ⟨⟨a', b'⟩, c', d'⟩ := s
  simp only at e1 e2 e3 e4
  subst e1 e2 e3 e4
  rfl
theorem rkr_inj {p q : Rw} {r : RR} (h : RkRow p r) (k : RkRow q r) : p = q := Prod.ext (rk_inj h.1 k.1) (rk_inj h.2 k.2)
theorem rks_fun : ∀ {R : List Rw} {rs ss : List RR}, Paired RkRow R rs → Paired RkRow R ss → rs = ss
  | _, _, _, .nil, .nil => rfl
  | _, _, _, .cons h t, .cons k u => by rw [rkr_fun h k, rks_fun t u]
theorem rks_inj : ∀ {R G : List Rw} {rs : List RR}, Paired RkRow R rs → Paired RkRow G rs → R = G
  | _, _, _, .nil, .nil => rfl
  | _, _, _, .cons h t, .cons k u => by rw [rkr_inj h k, rks_inj t u]
theorem nStr_cnt (ac : Str → Bool) (s : NS) (z : Str) : (nStr ac s z).2.2 ≤ s.2 + 1 ∧ s.2 ≤ (nStr ac s z).2.2 := by
  unfold nStr
  split
  · split
    · exact ⟨Nat.le_succ _, Nat.le_refl _⟩
    · exact ⟨Nat.le_refl _, by simp [nNew]⟩
  · exact ⟨Nat.le_refl _, by simp [nNew]⟩
/-- every rank is there, and small -/
def PRk (p : Prt) (n : Nat) : Prop := ∀ z, p = .str z → ∃ k : Nat, z = vn k ∧ k < n
theorem nPart_cnt (ac : Str → Bool) (s : NS) (hl : ∀ z k, s.1 z = some k → k < s.2) (p : Prt) : (nPart ac s p).2.2 ≤ s.2 + 1 ∧ s.2 ≤ (nPart ac s p).2.2 ∧ PRk (nPart ac s p).1 (nPart ac s p).2.2 ∧ ∀ z k, (nPart ac s p).2.1 z = some k → k < (nPart ac s p).2.2 := by
  cases p with
  | non => exact ⟨Nat.le_succ _, Nat.le_refl _, fun z e => (nomatch e), hl⟩
  | int i => exact ⟨Nat.le_succ _, Nat.le_refl _, fun z e => (nomatch e), hl⟩
  | str z =>
    obtain ⟨h1, h2⟩ := nStr_cnt ac s z
    refine ⟨h1, h2, ?_, ?_⟩
    · intro y e
      cases e
      refine ⟨(nStr ac s z).1, rfl, ?_⟩
      show (nStr ac s z).1 < (nStr ac s z).2.2
      unfold nStr
      split
      · split
        · rename_i k e; exact hl _ _ e
        · simp [nNew]
      · simp [nNew]
    · show ∀ y k, (nStr ac s z).2.1 y = some k → k < (nStr ac s z).2.2
      intro y k
      unfold nStr
      split
      · split
        · exact fun e => hl _ _ e
        · intro e
          simp only [nNew] at e ⊢
          split at e
          · cases e; omega
          · have := hl _ _ e; omega
      · intro e
        simp only [nNew] at e ⊢
        split at e
        · cases e; omega
        · have := hl _ _ e; omega
theorem PRk.mono {p : Prt} {n m : Nat} (h : PRk p n) (l : n ≤ m) : PRk p m := fun z e => by
  obtain ⟨k, e1, e2⟩ := h z e
  exact ⟨k, e1, by omega⟩
theorem nRows_cnt (ac : Str → Bool) : ∀ (ps : List Rw) (s : NS), (∀ z k, s.1 z = some k → k < s.2) → (nRows ac s ps).2.2 ≤ s.2 + 2 * ps.length ∧ s.2 ≤ (nRows ac s ps).2.2 ∧ ∀ q ∈ (nRows ac s ps).1, PRk q.1 (nRows ac s ps).2.2 ∧ PRk q.2 (nRows ac s ps).2.2
  | [], s, _ => ⟨by simp [nRows], Nat.le_refl _, fun q hq => absurd hq (by simp [nRows])⟩
  | p :: r, s, hl => by
    obtain ⟨a1, a2, a3, a4⟩ := nPart_cnt ac s hl p.1
    obtain ⟨b1, b2, b3, b4⟩ := nPart_cnt ac _ a4 p.2
    obtain ⟨c1, c2, c3⟩ := nRows_cnt ac r _ b4
    have e : (nRows ac s (p :: r)).2.2 = (nRows ac (nRow ac s p).2 r).2.2 := rfl
    have c1' : (nRows ac (nRow ac s p).2 r).2.2 ≤ (nPart ac (nPart ac s p.1).2 p.2).2.2 + 2 * r.length := c1
    have c2' : (nPart ac (nPart ac s p.1).2 p.2).2.2 ≤ (nRows ac (nRow ac s p).2 r).2.2 := c2
    refine ⟨by rw [e, List.length_cons]; omega, by rw [e]; omega, fun q hq => ?_⟩
    rcases List.mem_cons.mp hq with rfl | hq
    · rw [e]
      exact ⟨a3.mono (by omega), b3.mono (by omega)⟩
    · exact c3 q hq
theorem rk_ex {p : Prt} {n : Nat} (h : PRk p n) (hn : n ≤ 4000) : ∃ a b, Rk p a b := by
  cases p with
  | non => exact ⟨0, 0, .inl ⟨rfl, rfl, rfl⟩⟩
  | int i => exact ⟨1, i, .inr (.inl ⟨i, rfl, rfl, rfl⟩)⟩
  | str z =>
    obtain ⟨k, e, l⟩ := h z rfl
    exact ⟨2, (k : Nat), .inr (.inr ⟨k, by rw [e], rfl, rfl, by omega⟩)⟩
theorem rks_ex : ∀ (R : List Rw) (n : Nat), n ≤ 4000 → (∀ q ∈ R, PRk q.1 n ∧ PRk q.2 n) → ∃ rs, Paired RkRow R rs
  | [], _, _, _ => ⟨[], .nil⟩
  | q :: R, n, hn, h => by
    obtain ⟨rs, t⟩ := rks_ex R n hn fun p hp => h p (List.mem_cons_of_mem _ hp)
    obtain ⟨h1, h2⟩ := h q List.mem_cons_self
    obtain ⟨a, b, k1⟩ := rk_ex h1 hn
    obtain ⟨c, d, k2⟩ := rk_ex h2 hn
    exact ⟨((a, b), (c, d)) :: rs, .cons ⟨k1, k2⟩ t⟩
theorem norm_ranks (ps : List Rw) (h : ps.length ≤ 1000) : ∃ rs, Paired RkRow (norm ps) rs := by
  obtain ⟨h1, _, h3⟩ := nRows_cnt (acr ps) ps ns0 (fun z k e => nomatch e)
  exact rks_ex _ _ (by have : ns0.2 = 0 := rfl; omega) h3
theorem bec_pOk {h : List (Str × Nat)} {p q : Prt} (b : Bec h p q) (o : pOk p) : pOk q := by
  rcases b with ⟨rfl, _⟩ | ⟨z, k, rfl, rfl, _⟩
  · exact o
  · exact fun i e => nomatch e
theorem norm_pOk {ps : List Rw} (ok : ∀ p ∈ ps, pOk p.1 ∧ pOk p.2) : ∀ p ∈ norm ps, pOk p.1 ∧ pOk p.2 := by
  obtain ⟨h, b, _⟩ := norm_bec ps
  intro q hq
  obtain ⟨i, hi⟩ := List.getElem?_of_mem hq
  have hl := norm_length ps
  have lt := (List.getElem?_eq_some_iff.mp hi).1
  have e : ps[i]? = some (ps[i]'(by omega)) := by simp [show i < ps.length by omega]
  obtain ⟨b1, b2⟩ := paired_get2 b e hi
  obtain ⟨o1, o2⟩ := ok _ (List.mem_of_getElem? e)
  exact ⟨bec_pOk b1 o1, bec_pOk b2 o2⟩
/-! ### their order -/
def ltI (x y : Int × Int) : Bool := if x.1 = y.1 then decide (x.2 < y.2) else decide (x.1 < y.1)
def lessR : List RR → List RR → Bool
  | [], [] => false
  | [], _ :: _ => true
  | _ :: _, [] => false
  | r :: rs, s :: ss => if r.1 = s.1 then (if r.2 = s.2 then lessR rs ss else ltI r.2 s.2) else ltI r.1 s.1
def encP (x : Int × Int) : PyData := .tuple [.int x.1, .int x.2]
def encR (r : RR) : PyData := .tuple [encP r.1, encP r.2]
def encRs (rs : List RR) : PyData := .tuple (rs.map encR)
theorem encP_eqv (x y : Int × Int) : PyData.eqv (encP x) (encP y) = decide (x = y) := by
  obtain ⟨a, b⟩ := x
  obtain ⟨c, d⟩ := y
  rw [Bool.eq_iff_iff]
  simp [encP, PyData.eqv, PyData.eqvAll]
theorem encR_eqv (r s : RR) : PyData.eqv (encR r) (encR s) = decide (r = s) := by
  obtain ⟨a, b⟩ := r
  obtain ⟨c, d⟩ := s
  rw [Bool.eq_iff_iff]
  simp [encR, PyData.eqv, PyData.eqvAll, encP_eqv]
theorem encAll_eqv : ∀ rs ss : List RR, PyData.eqvAll (rs.map encR) (ss.map encR) = decide (rs = ss)
  | [], [] => by simp [PyData.eqvAll]
  | [], _ :: _ => by simp [PyData.eqvAll]
  | _ :: _, [] => by simp [PyData.eqvAll]
  | r :: rs, s :: ss => by
    rw [List.map_cons, List.map_cons, PyData.eqvAll, encR_eqv, encAll_eqv rs ss, Bool.eq_iff_iff]
    simp
theorem enc_eqv (rs ss : List RR) : PyData.eqv (encRs rs) (encRs ss) = decide (rs = ss) := by
  show PyData.eqv (.tuple _) (.tuple _) = _
  rw [PyData.eqv]
  exact encAll_eqv rs ss
theorem encP_alike (x y : Int × Int) : PySem.W.alike (encP x) (encP y) = true := by simp [encP, PySem.W.alike, PySem.W.alikeAll]
theorem encR_alike (r s : RR) : PySem.W.alike (encR r) (encR s) = true := by simp [encR, PySem.W.alike, PySem.W.alikeAll, encP_alike]
theorem encAll_alike : ∀ rs ss : List RR, PySem.W.alikeAll (rs.map encR) (ss.map encR) = true
  | [], _ => by simp [PySem.W.alikeAll]
  | _ :: _, [] => by simp [PySem.W.alikeAll]
  | r :: rs, s :: ss => by
    rw [List.map_cons, List.map_cons, PySem.W.alikeAll, encR_alike, encAll_alike rs ss]
    rfl
theorem enc_alike (rs ss : List RR) : PySem.W.alike (encRs rs) (encRs ss) = true := by
  show PySem.W.alike (.tuple _) (.tuple _) = _
  rw [PySem.W.alike]
  exact encAll_alike rs ss
theorem encAll_depth : ∀ rs : List RR, PyData.depthAll (rs.map encR) ≤ 3
  | [] => by simp [PyData.depthAll]
  | r :: rs => by
    have := encAll_depth rs
    rw [List.map_cons, PyData.depthAll]
    simp only [encR, encP, PyData.depth, PyData.depthAll]
    omega
theorem enc_depth (rs : List RR) : (encRs rs).depth ≤ 8 := by
  have := encAll_depth rs
  show (PyData.tuple _).depth ≤ _
  rw [PyData.depth]
  omega
theorem encAll_lay : ∀ rs : List RR, PyData.canLayAll0 (rs.map encR) = true
  | [] => by simp [PyData.canLayAll0]
  | r :: rs => by
    rw [List.map_cons, PyData.canLayAll0, encAll_lay rs]
    simp [encR, encP, PyData.canLay0, PyData.canLayAll0]
theorem enc_shaped (rs : List RR) : SeqAt.shaped (encRs rs) = true := by
  have h1 := encAll_lay rs
  have h2 := enc_depth rs
  unfold SeqAt.shaped
  rw [show (encRs rs).canLay0 = true by show (PyData.tuple _).canLay0 = true; rw [PyData.canLay0]; exact h1, Bool.true_and]
  exact decide_eq_true (by omega)
theorem encP_lt (x y : Int × Int) : PySem.W.dataLt (encP x) (encP y) = ltI x y := by
  obtain ⟨a, b⟩ := x
  obtain ⟨c, d⟩ := y
  have h : ∀ i j : Int, PySem.W.alike (.int i) (.int j) = true := fun i j => by simp [PySem.W.alike]
  unfold encP
  rw [PySem.W.dataLt_pair (h _ _) (h _ _), PySem.W.dataLt_int, PySem.W.dataLt_int]
  have e : ∀ i j : Int, (PyData.eqv (.int i) (.int j) = true) ↔ i = j := fun i j => by simp [PyData.eqv]
  show (if PyData.eqv (.int a) (.int c) = true then (if PyData.eqv (.int b) (.int d) = true then false else decide (b < d)) else decide (a < c)) = if a = c then decide (b < d) else decide (a < c)
  by_cases e1 : a = c
  · rw [if_pos ((e _ _).mpr e1), if_pos e1]
    by_cases e2 : b = d
    · rw [if_pos ((e _ _).mpr e2), e2]
      simp
    · rw [if_neg fun z => e2 ((e _ _).mp z)]
  · rw [if_neg fun z => e1 ((e _ _).mp z), if_neg e1]
theorem encR_lt (r s : RR) : PySem.W.dataLt (encR r) (encR s) = if r.1 = s.1 then (if r.2 = s.2 then false else ltI r.2 s.2) else ltI r.1 s.1 := by
  unfold encR
  rw [PySem.W.dataLt_pair (encP_alike _ _) (encP_alike _ _), encP_lt, encP_lt, encP_eqv, encP_eqv]
  simp only [decide_eq_true_eq]
theorem encAll_lt : ∀ rs ss : List RR, PyProof.Rows.lexLt itemOrd (PySem.W.keyToksAll (rs.map encR)) (PySem.W.keyToksAll (ss.map encR)) = lessR rs ss
  | [], [] => by simp [PySem.W.keyToksAll, PyProof.Rows.lexLt, lessR, itemLt]
  | [], s :: ss => by simp [PySem.W.keyToksAll, PyProof.Rows.lexLt, lessR, itemLt]
  | r :: rs, [] => by simp [PySem.W.keyToksAll, PyProof.Rows.lexLt, lessR, itemLt]
  | r :: rs, s :: ss => by
    rw [List.map_cons, List.map_cons, PySem.W.dataLt_cons (encR_alike r s), encR_lt, encR_eqv, encAll_lt rs ss, lessR]
    simp only [decide_eq_true_eq]
    by_cases e : r = s
    · subst e
      simp
    · rw [if_neg e]
      by_cases e1 : r.1 = s.1
      · have e2 : r.2 ≠ s.2 := fun z => e (Prod.ext e1 z)
        rw [if_pos e1, if_neg e2, if_pos e1, if_neg e2]
      · rw [if_neg e1, if_neg e1]
theorem enc_lt (rs ss : List RR) : PySem.W.dataLt (encRs rs) (encRs ss) = lessR rs ss := by
  show PySem.W.dataLt (.tuple _) (.tuple _) = _
  rw [PySem.W.dataLt_tuple]
  exact encAll_lt rs ss
/-! ### as they lie -/
theorem ranks_dp {K : PySem.W.Frag} {H : Hp} : ∀ {ys : List V} {rs : List RR}, Ranks K H ys rs → DpAll K H ys (rs.map encR)
  | _, _, .nil => .nil
  | _, _, .cons ⟨a, b, c, e, h1, h2, h3⟩ t => by
    subst e
    exact .cons (.tup h1 (.cons (.tup h2 (.cons (.int _) (.cons (.int _) .nil))) (.cons (.tup h3 (.cons (.int _) (.cons (.int _) .nil))) .nil))) (ranks_dp t)
/-- a rank as it lies -/
def RankAt (K : PySem.W.Frag) (H : Hp) (v : V) (rs : List RR) : Prop := ∃ D ys, v = .ref D ∧ SqT K H D ys ∧ Ranks K H ys rs
theorem RankAt.dp {K : PySem.W.Frag} {H : Hp} {v : V} {rs : List RR} (h : RankAt K H v rs) : Dp K H v (encRs rs) := by
  obtain ⟨D, ys, rfl, h1, h2⟩ := h
  exact .tup h1 (ranks_dp h2)
theorem RankAt.keepT {K : PySem.W.Frag} {H H' : Hp} {v : V} {rs : List RR} (k : KeepT H H') (h : RankAt K H v rs) : RankAt K H' v rs := by
  obtain ⟨D, ys, e, h1, h2⟩ := h
  exact ⟨D, ys, e, Z.SqT.keepT k h1, Ranks.keepT k h2⟩
theorem RankAt.lt {K : PySem.W.Frag} {H : Hp} {v u : V} {rs ss : List RR} {Q : VK} (h : RankAt K H v rs) (k : RankAt K H u ss) (q : Q (.bl (lessR rs ss)) H) : zLtD K v u H Q := by
  refine .inr ⟨_, _, h.dp, k.dp, enc_alike rs ss, fun z => (nomatch z), ?_, ?_⟩
  · have := enc_depth rs
    omega
  · rw [enc_lt]
    exact q
theorem RankAt.eq {K : PySem.W.Frag} {H : Hp} {v u : V} {rs ss : List RR} {Q : VK} (h : RankAt K H v rs) (k : RankAt K H u ss) (q : Q (.bl (decide (rs = ss))) H) : zEq K v u H Q := by
  refine .inr ⟨_, _, h.dp, k.dp, enc_shaped _, enc_shaped _, ?_⟩
  rw [enc_eqv]
  exact q
theorem RankAt.ne {K : PySem.W.Frag} {H : Hp} {v u : V} {rs ss : List RR} {Q : VK} (h : RankAt K H v rs) (k : RankAt K H u ss) (q : Q (.bl (!decide (rs = ss))) H) : zNe K v u H Q := by
  refine .inr ⟨_, _, h.dp, k.dp, enc_shaped _, enc_shaped _, ?_⟩
  rw [enc_eqv]
  exact q
end Z
namespace Z
open PySem PySem.Spec PyProof.Rows L2
theorem sc_law_before : FnScope ["one", "other", "kinds", "part"] ["one", "other"] (defScope s_law_before) := ⟨rfl, rfl, rfl, by decide +kernel, rfl, by decide +kernel, by decide +kernel⟩
def R_law_before_3 (K : PySem.W.Frag) (g : Ads) (E : XK) : TS :=
  (tRet (tOp zLt (tOp (zIx K) (zVar 2) (tC (.int 0))) (tOp (zIx K) (zVar 2) (tC (.int 1)))))
def R_law_before_6 (K : PySem.W.Frag) (g : Ads) (E : XK) : TS :=
  (tRet (tOp zLt (tCB rIntS (tCons (tSl rSlS (zVar 0) (tPart (tC (.int 1))) tNoPart) tNil)) (tCB rIntS (tCons (tSl rSlS (zVar 1) (tPart (tC (.int 1))) tNoPart) tNil))))
def R_law_before_4 (K : PySem.W.Frag) (g : Ads) (E : XK) : TS :=
  (tSeq (tIfS (zTest (tOp (zEq K) (tOp (zIx K) (zVar 2) (tC (.int 0))) (tC (.int 1))))
  (tRet (tOp zLt (zVar 0) (zVar 1)))
  tNext)
  (R_law_before_6 K g E))
def R_law_before_2 (K : PySem.W.Frag) (g : Ads) (E : XK) : TS :=
  (tSeq (tIfS (tOr (zTest (tOp (zNe K) (tOp (zIx K) (zVar 2) (tC (.int 0))) (tOp (zIx K) (zVar 2) (tC (.int 1))))) (zTest (tOp (zEq K) (tOp (zIx K) (zVar 2) (tC (.int 0))) (tC (.int 0)))))
  (R_law_before_3 K g E)
  tNext)
  (R_law_before_4 K g E))
def R_law_before (K : PySem.W.Frag) (g : Ads) (E : XK) : TS :=
  (tSeq (tAsg (zLc (iList K (tLst (tCons (zVar 0) (tCons (zVar 1) tNil)))) (gName 3) tYes (tIf (zTest (tOp zIs (zVar 3) (tC .non))) (tC (.int 0)) (tIf (zTru K (zIsiT K .str (zVar 3))) (tC (.int 2)) (tC (.int 1)))) [3]) (gName 2))
  (R_law_before_2 K g E))
def rw_law_before (K : PySem.W.Frag) (g : Ads) : Sp := fun vs H Q E => vs.length = 2 ∧ R_law_before K g E { nx := fun _ H' => Q .non H', rt := Q } (start ["one", "other", "kinds", "part"] vs) H
theorem raw_law_before {P : Program} {w : World} {K : PySem.W.Frag} {mg : Str → Option Value} {base : Heap} {g : Ads} (T : Txt K mg g) : FnG true P w K mg base 1 g.f_law_before g.d_law_before ["one", "other"] (rw_law_before K g) := by
  refine okZ T.f_law_before sc_law_before (fun vs H Q E h => h.1) (fun cdv A outer s H vs Q E hr hgu h => ⟨R_law_before K g E, ?_, h.2⟩)
  exact (pss_cons (psz_setLc (i := 2) (own := [("part", 3)]) rfl sc_law_before.nd rfl rfl (sw_true rfl rfl rfl (by decide +kernel)) (pi_list (pe_lst (pa_cons (zv 0) (pa_cons (zv 1) pa_nil)))) (blkOk_by (own := [("part", 3)]) (N := ["one", "other", "kinds", "part"]) (sc := defScope s_law_before) (by decide +kernel)) (fun _ _ _ _ _ => pg_name (i := 3) sc_law_before.nd rfl (Or.inl rfl)) (fun _ _ _ _ _ => pts_nil) (fun _ _ _ _ _ => (pe_ifExp (ptz_cmp op_zIs (zv 3) pe_non (nomark _)) pe_int (pe_ifExp (ptz_truth (pe_isi (kd := .str) (zv 3) (by rfl) T.b_isinstance (by decide +kernel) (by rfl) T.b_str (by decide +kernel)) (by intro _; rfl)) pe_int pe_int))))
  (pss_cons (ps_if (PW.pt (pw_or (ptz_cmp (op_zNe hr.units) (pe_ix ix_z (zv 2) pe_int (fun _ _ => rfl)) (pe_ix ix_z (zv 2) pe_int (fun _ _ => rfl)) (nomark _)) (pw_or1 (ptz_cmp (op_zEq hr.units) (pe_ix ix_z (zv 2) pe_int (fun _ _ => rfl)) pe_int (nomark _)))))
  (pss_one (ps_ret (pe_cmpR op_zLt (pe_ix ix_z (zv 2) pe_int (fun _ _ => rfl)) (pe_ix ix_z (zv 2) pe_int (fun _ _ => rfl)) (nomark _))))
  pss_nil)
  (pss_cons (ps_if (ptz_cmp (op_zEq hr.units) (pe_ix ix_z (zv 2) pe_int (fun _ _ => rfl)) pe_int (nomark _))
  (pss_one (ps_ret (pe_cmpR op_zLt (zv 0) (zv 1) (nomark _))))
  pss_nil)
  (pss_one (ps_ret (pe_cmpR op_zLt (pe_callTy call_intS (by rfl) T.b_int (by decide +kernel) (pa_cons (pe_slice sl_str (zv 0) (po_some pe_int) po_none) pa_nil)) (pe_callTy call_intS (by rfl) T.b_int (by decide +kernel) (pa_cons (pe_slice sl_str (zv 1) (po_some pe_int) po_none) pa_nil)) (nomark _)))))))
theorem kind_at {K : PySem.W.Frag} {p : Prt} {a b : Int} (h : Rk p a b) {s0 s1 s2 : Option V} {H : Hp} (R : VK) (r : R (.int a) H) :
    tIf (zTest (tOp zIs (zVar 3) (tC .non))) (tC (.int 0)) (tIf (zTru K (zIsiT K .str (zVar 3))) (tC (.int 2)) (tC (.int 1))) [s0, s1, s2, some p.v] H R := by
  rcases h with ⟨rfl, rfl, _⟩ | ⟨i, rfl, rfl, _⟩ | ⟨k, rfl, rfl, _⟩
  · exact ⟨rfl, zite (fun _ => r) (fun h => by simp [Prt.v] at h)⟩
  · exact ⟨rfl, zite (fun h => by simp [Prt.v] at h) (fun _ => r)⟩
  · exact ⟨rfl, zite (fun h => by simp [Prt.v] at h) (fun _ => r)⟩
def sp_law_before (K : PySem.W.Frag) (g : Ads) : Sp := fun vs H Q E => ∃ p q a b c d, vs = [Prt.v p, Prt.v q] ∧ Rk p a b ∧ Rk q c d ∧ ∀ H', Same H H' → Q (.bl (ltI (a, b) (c, d))) H'
theorem pf_law_before {K : PySem.W.Frag} {g : Ads} (vs : List V) (H : Hp) (Q : VK) (E : XK) (h : sp_law_before K g vs H Q E) : rw_law_before K g vs H Q E := by
  obtain ⟨p, q, a, b, c, d, rfl, hp, hq, k⟩ := h
  refine ⟨rfl, show 2 ≤ sizeLine by decide, fun L hL => ⟨L, rfl, ⟨_, SqL.of upd_same⟩, lc_map (walk_list (xs := [p.v, q.v])) (fun i => if i = 0 then .int a else .int c) (show 2 ≤ sizeLine by decide) (fun H' s => SqL.of (s _ _ upd_same)) (fun i x H5 H' hi s y => ?_) (fun D hD => ?_)⟩⟩
  · obtain ⟨rfl, hx⟩ := y
    match i, hx with
    | 0, hx =>
      cases hx
      exact ⟨rfl, _, fun R r => r, rfl, fun R r => r, fun R r => kind_at hp R r⟩
    | 1, hx =>
      cases hx
      exact ⟨rfl, _, fun R r => r, rfl, fun R r => r, fun R r => kind_at hq R r⟩
    | i + 2, hx => simp at hx
  · have z1 : Same H (upd H L (.lst [p.v, q.v])) := Same.put hL
    have z2 : Same (upd H L (.lst [p.v, q.v])) (upd (upd H L (.lst [p.v, q.v])) D (.lst [.int a, .int c])) := Same.put hD
    have eD : SqL K (upd (upd H L (.lst [p.v, q.v])) D (.lst [.int a, .int c])) D [.int a, .int c] := SqL.of upd_same
    have k' := k _ (z1.trans z2)
    show R_law_before_2 K g E { nx := fun _ H' => Q .non H', rt := Q } [some p.v, some q.v, some (.ref D), none] (upd (upd H L (.lst [p.v, q.v])) D (.lst [.int a, .int c]))
    generalize upd (upd H L (.lst [p.v, q.v])) D (.lst [.int a, .int c]) = H2 at eD k'
    have less : a ≠ c ∨ a = 0 → R_law_before_3 K g E { nx := fun _ H' => Q .non H', rt := Q } [some p.v, some q.v, some (.ref D), none] H2 := by
      intro hz
      refine ⟨_, _, .inl eD, rfl, _, _, .inl eD, rfl, ?_⟩
      have e : ltI (a, b) (c, d) = decide (a < c) := by
        unfold ltI
        by_cases hac : a = c
        · have h0 : a = 0 := by rcases hz with h | h; exact absurd hac h; exact h
          rw [if_pos hac]
          have hb : b = 0 := by
            rcases hp with ⟨_, _, e⟩ | ⟨_, _, e, _⟩ | ⟨_, _, e, _, _⟩
            · exact e
            · omega
            · omega
          have hd : d = 0 := by
            rcases hq with ⟨_, _, e⟩ | ⟨_, _, e, _⟩ | ⟨_, _, e, _, _⟩
            · exact e
            · omega
            · omega
          rw [hb, hd, hac]
          simp
        · rw [if_neg hac]
      rw [e] at k'
      exact k'
    refine ⟨_, _, .inl eD, rfl, _, _, .inl eD, rfl, .inl ⟨rfl, zite (fun h => zite (fun _ => less (.inl fun e => by simp [e] at h)) (fun h => by cases h)) (fun h => ⟨_, _, .inl eD, rfl, .inl ⟨rfl, zite (fun h2 => less (.inr (by simpa using h2))) (fun h2 => ?_)⟩⟩)⟩⟩
    have hac : a = c := by simpa using h
    have h0 : a ≠ 0 := by simpa using h2
    have e : ltI (a, b) (c, d) = decide (b < d) := by
      unfold ltI
      rw [if_pos hac]
    rw [e] at k'
    refine ⟨_, _, .inl eD, rfl, .inl ⟨rfl, zite (fun h3 => ?_) (fun h3 => ?_)⟩⟩
    · have h1 : a = 1 := by simpa using h3
      rcases hp with ⟨_, e, _⟩ | ⟨i, rfl, _, rfl⟩ | ⟨_, _, e, _, _⟩
      · omega
      · rcases hq with ⟨_, e, _⟩ | ⟨j, rfl, _, rfl⟩ | ⟨_, _, e, _, _⟩
        · omega
        · exact k'
        · omega
      · omega
    · have h1 : a ≠ 1 := by simpa using h3
      rcases hp with ⟨_, e, _⟩ | ⟨_, _, e, _⟩ | ⟨n, rfl, _, rfl, hn⟩
      · omega
      · omega
      · rcases hq with ⟨_, e, _⟩ | ⟨_, _, e, _⟩ | ⟨m, rfl, _, rfl, hm⟩
        · omega
        · omega
        · obtain ⟨a1, a2⟩ := int_vn hn
          obtain ⟨b1, b2⟩ := int_vn hm
          exact ⟨1, rfl, _, rfl, Nat.le_trans (vn_len hn) (by decide), _, a1, a2, 1, rfl, _, rfl, Nat.le_trans (vn_len hm) (by decide), _, b1, b2, k'⟩
theorem ok_law_before {P : Program} {w : World} {K : PySem.W.Frag} {mg : Str → Option Value} {base : Heap} {g : Ads} (T : Txt K mg g) : FnZ P w K mg base 1 g.f_law_before g.d_law_before ["one", "other"] (sp_law_before K g) := (raw_law_before T).imp pf_law_before
theorem sc_law_is_less : FnScope ["one", "other", "k", "side"] ["one", "other"] (defScope s_law_is_less) := ⟨rfl, rfl, rfl, by decide +kernel, rfl, by decide +kernel, by decide +kernel⟩
def R_law_is_less_4 (K : PySem.W.Frag) (g : Ads) (E : XK) : TS :=
  (tRet (zCall (sp_law_before K g) [] (WE (fun cls d _ H => E cls d H)) (tCons (tOp (zIx K) (tOp (zIx K) (zVar 0) (zVar 2)) (zVar 3)) (tCons (tOp (zIx K) (tOp (zIx K) (zVar 1) (zVar 2)) (zVar 3)) tNil))))
def R_law_is_less_3 (K : PySem.W.Frag) (g : Ads) (E : XK) : TS :=
  (tIfS (zTest (tOp (zNe K) (tOp (zIx K) (tOp (zIx K) (zVar 0) (zVar 2)) (zVar 3)) (tOp (zIx K) (tOp (zIx K) (zVar 1) (zVar 2)) (zVar 3))))
  (R_law_is_less_4 K g E)
  tNext)
def R_law_is_less_2 (K : PySem.W.Frag) (g : Ads) (E : XK) : TS :=
  (zFor (iRng1 (tCons (tC (.int 2)) tNil)) (gName 3)
  (R_law_is_less_3 K g E))
def R_law_is_less_5 (K : PySem.W.Frag) (g : Ads) (E : XK) : TS :=
  (tRet (tOp zLt (tCB (zLen K) (tCons (zVar 0) tNil)) (tCB (zLen K) (tCons (zVar 1) tNil))))
def R_law_is_less (K : PySem.W.Frag) (g : Ads) (E : XK) : TS :=
  (tSeq (zFor (iRng1 (tCons (tCB rMn2 (tCons (tCB (zLen K) (tCons (zVar 0) tNil)) (tCons (tCB (zLen K) (tCons (zVar 1) tNil)) tNil))) tNil)) (gName 2)
  (R_law_is_less_2 K g E))
  (R_law_is_less_5 K g E))
def rw_law_is_less (K : PySem.W.Frag) (g : Ads) : Sp := fun vs H Q E => vs.length = 2 ∧ R_law_is_less K g E { nx := fun _ H' => Q .non H', rt := Q } (start ["one", "other", "k", "side"] vs) H
theorem raw_law_is_less {P : Program} {w : World} {K : PySem.W.Frag} {mg : Str → Option Value} {base : Heap} {g : Ads} (T : Txt K mg g) : FnG true P w K mg base 2 g.f_law_is_less g.d_law_is_less ["one", "other"] (rw_law_is_less K g) := by
  refine okZ T.f_law_is_less sc_law_is_less (fun vs H Q E h => h.1) (fun cdv A outer s H vs Q E hr hgu h => ⟨R_law_is_less K g E, ?_, h.2⟩)
  exact (pss_cons (psz_for PassesOwn.leaving rfl (pi_range1 rfl T.b_range (pa_cons (pe_callB (call_mn2 rfl) (by rfl) T.b_min (by decide +kernel) (pa_cons (pe_callB call_lenZ (by rfl) T.b_len (by decide +kernel) (pa_cons (zv 0) pa_nil)) (pa_cons (pe_callB call_lenZ (by rfl) T.b_len (by decide +kernel) (pa_cons (zv 1) pa_nil)) pa_nil))) pa_nil)) (pg_name (i := 2) sc_law_is_less.nd rfl (Or.inl rfl))
  (pss_one (psz_for PassesOwn.leaving rfl (pi_range1 rfl T.b_range (pa_cons pe_int pa_nil)) (pg_name (i := 3) sc_law_is_less.nd rfl (Or.inl rfl))
  (pss_one (ps_if (ptz_cmp (op_zNe hr.units) (pe_ix ix_z (pe_ix ix_z (zv 0) (zv 2) (fun _ _ => rfl)) (zv 3) (fun _ _ => rfl)) (pe_ix ix_z (pe_ix ix_z (zv 1) (zv 2) (fun _ _ => rfl)) (zv 3) (fun _ _ => rfl)) (nomark _))
  (pss_one (ps_ret (pe_callZ (ok_law_before T) (hr.mono (by decide)) hgu rfl T.g_law_before T.k_law_before T.e_law_before .nil (fun σ => passAt (takes_of rfl rfl rfl rfl) σ) (pa_cons (pe_ix ix_z (pe_ix ix_z (zv 0) (zv 2) (fun _ _ => rfl)) (zv 3) (fun _ _ => rfl)) (pa_cons (pe_ix ix_z (pe_ix ix_z (zv 1) (zv 2) (fun _ _ => rfl)) (zv 3) (fun _ _ => rfl)) pa_nil)))))
  pss_nil)))))
  (pss_one (ps_ret (pe_cmpR op_zLt (pe_callB call_lenZ (by rfl) T.b_len (by decide +kernel) (pa_cons (zv 0) pa_nil)) (pe_callB call_lenZ (by rfl) T.b_len (by decide +kernel) (pa_cons (zv 1) pa_nil)) (nomark _)))))
theorem less_end (rs ss : List RR) : lessR (rs.drop (min rs.length ss.length)) (ss.drop (min rs.length ss.length)) = decide (rs.length < ss.length) := by
  by_cases h : rs.length < ss.length
  · rw [Nat.min_eq_left (by omega), List.drop_of_length_le (Nat.le_refl _)]
    have hl : 0 < (ss.drop rs.length).length := by rw [List.length_drop]; omega
    cases e : ss.drop rs.length with
    | nil => rw [e] at hl; simp at hl
    | cons _ _ => simp [lessR, h]
  · rw [Nat.min_eq_right (by omega), List.drop_of_length_le (Nat.le_refl ss.length)]
    cases rs.drop ss.length <;> simp [lessR, h]
def sp_law_is_less (K : PySem.W.Frag) (g : Ads) : Sp := fun vs H Q E => ∃ (ra rb : Addr) (ys zs : List V) (R G : List Rw) (rs ss : List RR), vs = [.ref ra, .ref rb] ∧ SqT K H ra ys ∧ RowsAt K H ys R ∧ SqT K H rb zs ∧ RowsAt K H zs G ∧
  Paired RkRow R rs ∧ Paired RkRow G ss ∧ R.length ≤ 1000 ∧ G.length ≤ 1000 ∧ ∀ H', Same H H' → Q (.bl (lessR rs ss)) H'
theorem pf_law_is_less {K : PySem.W.Frag} {g : Ads} (vs : List V) (H : Hp) (Q : VK) (E : XK) (h : sp_law_is_less K g vs H Q E) : rw_law_is_less K g vs H Q E := by
  obtain ⟨ra, rb, ys, zs, R, G, rs, ss, rfl, h1, h2, h3, h4, h5, h6, l1, l2, q⟩ := h
  have e1 : ys.length = R.length := h2.length
  have e2 : zs.length = G.length := h4.length
  have e3 : R.length = rs.length := h5.length
  have e4 : G.length = ss.length := h6.length
  have hj : (if (zs.length : Int) < (ys.length : Int) then (zs.length : Int) else (ys.length : Int)) = ((min rs.length ss.length : Nat) : Int) := by
    by_cases h : (zs.length : Int) < (ys.length : Int)
    · rw [if_pos h, Nat.min_eq_right (by omega)]; omega
    · rw [if_neg h, Nat.min_eq_left (by omega)]; omega
  refine ⟨rfl, ys, .inr h1, zs, .inr h3, ?_⟩
  show ∃ j : Int, [V.int (if (zs.length : Int) < (ys.length : Int) then (zs.length : Int) else (ys.length : Int))] = [V.int j] ∧ _
  rw [hj]
  refine ⟨_, rfl, by omega, by omega, for_z (walk_range (lo := 0) (n := (((min rs.length ss.length : Nat) : Int)).toNat)) (fun i σ H' => (∃ s2 s3, σ = [some (.ref ra), some (.ref rb), s2, s3]) ∧ Same H H' ∧ lessR rs ss = lessR (rs.drop i) (ss.drop i)) ⟨⟨none, none, rfl⟩, Same.refl H, rfl⟩ (fun _ _ _ _ _ => trivial) (fun i x σ H1 H1' hi pv y => ?_) (fun σ H1 pv => ?_)⟩
  · obtain ⟨⟨s2, s3, rfl⟩, sm, eq⟩ := pv
    obtain ⟨rfl, rfl⟩ := y
    have hi1 : i < rs.length := by omega
    have hi2 : i < ss.length := by omega
    have gr : R[i]? = some (R[i]'(by omega)) := by simp [show i < R.length by omega]
    have gg : G[i]? = some (G[i]'(by omega)) := by simp [show i < G.length by omega]
    generalize R[i]'(by omega) = p at gr
    generalize G[i]'(by omega) = u at gg
    obtain ⟨r, hr, kr⟩ := paired_get h5 gr
    obtain ⟨s, hs, ks⟩ := paired_get h6 gg
    have gy : ys[i]? = some (ys[i]'(by omega)) := by simp [show i < ys.length by omega]
    have gz : zs[i]? = some (zs[i]'(by omega)) := by simp [show i < zs.length by omega]
    obtain ⟨p', gp', c1, ec1, hc1⟩ := paired_get h2 gy
    rw [gr] at gp'
    cases gp'
    obtain ⟨u', gu', c2, ec2, hc2⟩ := paired_get h4 gz
    rw [gg] at gu'
    cases gu'
    have ay : atI ys (0 + ((i : Nat) : Int)) = some (.ref c1) := by rw [Int.zero_add]; exact atI_nat (by rw [gy, ec1])
    have az : atI zs (0 + ((i : Nat) : Int)) = some (.ref c2) := by rw [Int.zero_add]; exact atI_nat (by rw [gz, ec2])
    have dr : rs.drop i = r :: rs.drop (i + 1) := by
      rw [List.drop_eq_getElem_cons hi1]
      rw [List.getElem?_eq_getElem hi1] at hr
      rw [Option.some.inj hr]
    have ds : ss.drop i = s :: ss.drop (i + 1) := by
      rw [List.drop_eq_getElem_cons hi2]
      rw [List.getElem?_eq_getElem hi2] at hs
      rw [Option.some.inj hs]
    have lr : lessR rs ss = if r.1 = s.1 then (if r.2 = s.2 then lessR (rs.drop (i + 1)) (ss.drop (i + 1)) else ltI r.2 s.2) else ltI r.1 s.1 := by
      rw [eq, dr, ds, lessR]
    refine ⟨2, rfl, by decide, by decide, for_z (walk_range (lo := 0) (n := 2)) (fun j σ H' => (∃ s3, σ = [some (.ref ra), some (.ref rb), some (.int (0 + (i : Nat))), s3]) ∧ Same H H' ∧ (1 ≤ j → r.1 = s.1) ∧ (2 ≤ j → r.2 = s.2))
      ⟨⟨_, rfl⟩, sm, fun h => absurd h (by decide), fun h => absurd h (by decide)⟩ (fun _ _ _ _ _ => trivial) (fun j x σ H2 H2' hj2 pv y => ?_) (fun σ H2 pv => ?_)⟩
    · obtain ⟨⟨s3, rfl⟩, sm2, f1, f2⟩ := pv
      obtain ⟨rfl, rfl⟩ := y
      have t1 := Z.Same.tup sm2 h1
      have t2 := Z.Same.tup sm2 h3
      have t3 := Z.Same.tup sm2 hc1
      have t4 := Z.Same.tup sm2 hc2
      match j, hj2 with
      | 0, _ =>
        refine ⟨_, _, .inr t1, ay, _, p.1.v, .inr t3, rfl, _, _, .inr t2, az, _, u.1.v, .inr t4, rfl, .inl ⟨scal_v _ _, zite (fun h => ?_) (fun h => ?_)⟩⟩
        · refine ⟨_, _, .inr t1, ay, _, p.1.v, .inr t3, rfl, _, _, .inr t2, az, _, u.1.v, .inr t4, rfl, p.1, u.1, _, _, _, _, rfl, kr.1, ks.1, fun H' s' => ?_⟩
          have ne : r.1 ≠ s.1 := fun e => by
            have k2 := ks.1
            rw [← e] at k2
            have := rk_inj kr.1 k2
            rw [this] at h
            simp at h
          have := q H' (sm2.trans s')
          rw [lr, if_neg ne] at this
          exact this
        · have e : p.1 = u.1 := by
            have : p.1.v = u.1.v := by simpa using h
            exact Prt.v_inj this
          have k1 := kr.1
          rw [e] at k1
          obtain ⟨x1, x2⟩ := rk_fun k1 ks.1
          exact ⟨⟨_, rfl⟩, sm2, fun _ => Prod.ext x1 x2, fun h => absurd h (by decide)⟩
      | 1, _ =>
        refine ⟨_, _, .inr t1, ay, _, p.2.v, .inr t3, rfl, _, _, .inr t2, az, _, u.2.v, .inr t4, rfl, .inl ⟨scal_v _ _, zite (fun h => ?_) (fun h => ?_)⟩⟩
        · refine ⟨_, _, .inr t1, ay, _, p.2.v, .inr t3, rfl, _, _, .inr t2, az, _, u.2.v, .inr t4, rfl, p.2, u.2, _, _, _, _, rfl, kr.2, ks.2, fun H' s' => ?_⟩
          have ne : r.2 ≠ s.2 := fun e => by
            have k2 := ks.2
            rw [← e] at k2
            have := rk_inj kr.2 k2
            rw [this] at h
            simp at h
          have := q H' (sm2.trans s')
          rw [lr, if_pos (f1 (Nat.le_refl _)), if_neg ne] at this
          exact this
        · have e : p.2 = u.2 := by
            have : p.2.v = u.2.v := by simpa using h
            exact Prt.v_inj this
          have k1 := kr.2
          rw [e] at k1
          obtain ⟨x1, x2⟩ := rk_fun k1 ks.2
          exact ⟨⟨_, rfl⟩, sm2, fun _ => f1 (Nat.le_refl _), fun _ => Prod.ext x1 x2⟩
      | j + 2, h => omega
    · obtain ⟨⟨s3, rfl⟩, sm2, f1, f2⟩ := pv
      refine ⟨⟨_, _, rfl⟩, sm2, ?_⟩
      rw [lr, if_pos (f1 (by decide)), if_pos (f2 (by decide))]
  · obtain ⟨⟨s2, s3, rfl⟩, sm, eq⟩ := pv
    refine ⟨ys, .inr (Z.Same.tup sm h1), zs, .inr (Z.Same.tup sm h3), ?_⟩
    have eb : lessR rs ss = decide ((ys.length : Int) < (zs.length : Int)) := by
      have hn : (((min rs.length ss.length : Nat) : Int)).toNat = min rs.length ss.length := by omega
      rw [eq, hn, less_end]
      rw [Bool.eq_iff_iff]
      simp
      omega
    have := q _ sm
    rw [eb] at this
    exact this
theorem ok_law_is_less {P : Program} {w : World} {K : PySem.W.Frag} {mg : Str → Option Value} {base : Heap} {g : Ads} (T : Txt K mg g) : FnZ P w K mg base 2 g.f_law_is_less g.d_law_is_less ["one", "other"] (sp_law_is_less K g) := (raw_law_is_less T).imp pf_law_is_less
end Z
namespace Z
open PySem PySem.Spec PyProof.Rows L2
theorem sc_law : FnScope ["script", "at", "bag", "rows", "pairs", "turn", "place", "wide", "one", "rank", "other", "told", "k"] ["script"] (defScope s_law) := ⟨rfl, rfl, rfl, by decide +kernel, rfl, by decide +kernel, by decide +kernel⟩
def R_law_7 (K : PySem.W.Frag) (g : Ads) (E : XK) : TS :=
  (tDrop (tBM K "list" rAppend (zVar 4) (tCons (ClX.tCMeth g.c_Pair (sp_Pair_made K g) (fun _ _ _ => False) (tC (.ref g.c_Pair)) (tCons (tOp zAdd (tOp zAdd (tSl (rSlL K) (zVar 3) tNoPart (tPart (zVar 6))) (zCall (sp_law_drawn K g) [] (WE (fun cls d _ H => E cls d H)) (tCons (zVar 2) (tCons (tC (.int 1)) tNil)))) (tSl (rSlL K) (zVar 3) (tPart (tOp zAdd (zVar 6) (tC (.int 1)))) tNoPart)) tNil)) tNil)))
def R_law_6 (K : PySem.W.Frag) (g : Ads) (E : XK) : TS :=
  (tSeq (tAsg (zCall (sp_law_take K g) [] (WE (fun cls d _ H => E cls d H)) (tCons (zVar 2) (tCons (tOp zAdd (tCB (zLen K) (tCons (zVar 3) tNil)) (tC (.int 1))) tNil))) (gName 6))
  (R_law_7 K g E))
def R_law_18 (K : PySem.W.Frag) (g : Ads) (E : XK) : TS :=
  (tIfS (zTest (tOp (zNe K) (tOp (zEq K) (zVar 9) (tSMeth g.c_Pair (sp_Pair_rank K g) (fun _ _ _ => False) (tC (.ref g.c_Pair)) (tCons (zVar 10) tNil))) (tOp (zEqO g.c_Pair (sp_Pair_eq K g)) (zVar 8) (zVar 10))))
  (tRet (tC (.bl false)))
  tNext)
def R_law_16 (K : PySem.W.Frag) (g : Ads) (E : XK) : TS :=
  (tSeq (tIfS (zTest (tOp (zNe K) (tOp (zLtD K) (zVar 9) (tSMeth g.c_Pair (sp_Pair_rank K g) (fun _ _ _ => False) (tC (.ref g.c_Pair)) (tCons (zVar 10) tNil))) (zCall (sp_law_is_less K g) [] (WE (fun cls d _ H => E cls d H)) (tCons (tFld K (zVar 8) "rows") (tCons (tFld K (zVar 10) "rows") tNil)))))
  (tRet (tC (.bl false)))
  tNext)
  (R_law_18 K g E))
def R_law_15 (K : PySem.W.Frag) (g : Ads) (E : XK) : TS :=
  (zFor (iList K (zVar 4)) (gName 10)
  (R_law_16 K g E))
def R_law_13 (K : PySem.W.Frag) (g : Ads) (E : XK) : TS :=
  (tSeq (tIfS (tOr (tNot (zTru K (zIsiT K .tuple (zVar 9)))) (zTest (tOp (zNe K) (zVar 9) (tSMeth g.c_Pair (sp_Pair_rank K g) (fun _ _ _ => False) (tC (.ref g.c_Pair)) (tCons (ClX.tCMeth g.c_Pair (sp_Pair_made K g) (fun _ _ _ => False) (tC (.ref g.c_Pair)) (tCons (tCB (rListOf K) (tCons (tFld K (zVar 8) "rows") tNil)) tNil)) tNil)))))
  (tRet (tC (.bl false)))
  tNext)
  (R_law_15 K g E))
def R_law_12 (K : PySem.W.Frag) (g : Ads) (E : XK) : TS :=
  (tSeq (tAsg (tSMeth g.c_Pair (sp_Pair_rank K g) (fun _ _ _ => False) (tC (.ref g.c_Pair)) (tCons (zVar 8) tNil)) (gName 9))
  (R_law_13 K g E))
def R_law_22 (K : PySem.W.Frag) (g : Ads) (E : XK) : TS :=
  (tIfS (zTest (tOp (zLtD K) (tOp (zIx K) (zVar 11) (zVar 12)) (tOp (zIx K) (zVar 11) (tOp zSub (zVar 12) (tC (.int 1))))))
  (tRet (tC (.bl false)))
  tNext)
def R_law_21 (K : PySem.W.Frag) (g : Ads) (E : XK) : TS :=
  (zFor (iRng2 (tCons (tC (.int 1)) (tCons (tCB (zLen K) (tCons (zVar 11) tNil)) tNil))) (gName 12)
  (R_law_22 K g E))
def R_law_20 (K : PySem.W.Frag) (g : Ads) (E : XK) : TS :=
  (tSeq (tAsg (tCB (rSortedD K) (tCons (zLc (iList K (zVar 4)) (gName 8) tYes (tSMeth g.c_Pair (sp_Pair_rank K g) (fun _ _ _ => False) (tC (.ref g.c_Pair)) (tCons (zVar 8) tNil)) [8]) tNil)) (gName 11))
  (R_law_21 K g E))
def R_law_11 (K : PySem.W.Frag) (g : Ads) (E : XK) : TS :=
  (tSeq (zFor (iList K (zVar 4)) (gName 8)
  (R_law_12 K g E))
  (R_law_20 K g E))
def R_law_10 (K : PySem.W.Frag) (g : Ads) (E : XK) : TS :=
  (tSeq (tDrop (tBM K "list" rAppend (zVar 4) (tCons (ClX.tCMeth g.c_Pair (sp_Pair_made K g) (fun _ _ _ => False) (tC (.ref g.c_Pair)) (tCons (tOp zAdd (tOp zAdd (tSl (rSlL K) (zVar 7) tNoPart (tPart (tC (.int 5)))) (tLst (tCons (tTup (tCons (tC (.str "x")) (tCons (tC (.str "b")) tNil))) tNil))) (tSl (rSlL K) (zVar 7) (tPart (tC (.int 6))) tNoPart)) tNil)) tNil)))
  (R_law_11 K g E))
def R_law_9 (K : PySem.W.Frag) (g : Ads) (E : XK) : TS :=
  (tSeq (tDrop (tBM K "list" rAppend (zVar 4) (tCons (ClX.tCMeth g.c_Pair (sp_Pair_made K g) (fun _ _ _ => False) (tC (.ref g.c_Pair)) (tCons (zVar 7) tNil)) tNil)))
  (R_law_10 K g E))
def R_law_8 (K : PySem.W.Frag) (g : Ads) (E : XK) : TS :=
  (tSeq (tAsg (zLc (iRng2 (tCons (tC (.int 1)) (tCons (tC (.int 8)) tNil))) (gName 12) tYes (tTup (tCons (tOp zMul (tC (.str "a")) (zVar 12)) (tCons (tOp zMul (tC (.str "b")) (zVar 12)) tNil))) [12]) (gName 7))
  (R_law_9 K g E))
def R_law_5 (K : PySem.W.Frag) (g : Ads) (E : XK) : TS :=
  (tSeq (zFor (iRng1 (tCons (tC (.int 3)) tNil)) (gName 5)
  (R_law_6 K g E))
  (R_law_8 K g E))
def R_law_4 (K : PySem.W.Frag) (g : Ads) (E : XK) : TS :=
  (tSeq (tAsg (tLst (tCons (ClX.tCMeth g.c_Pair (sp_Pair_made K g) (fun _ _ _ => False) (tC (.ref g.c_Pair)) (tCons (zVar 3) tNil)) (tCons (ClX.tCMeth g.c_Pair (sp_Pair_made K g) (fun _ _ _ => False) (tC (.ref g.c_Pair)) (tCons (tSl (rSlL K) (zVar 3) tNoPart (tPart (zNeg (tC (.int 1))))) tNil)) (tCons (ClX.tCMeth g.c_Pair (sp_Pair_made K g) (fun _ _ _ => False) (tC (.ref g.c_Pair)) (tCons (zCall (sp_law_drawn K g) [] (WE (fun cls d _ H => E cls d H)) (tCons (zVar 2) (tCons (tCB (zLen K) (tCons (zVar 3) tNil)) tNil))) tNil)) tNil)))) (gName 4))
  (R_law_5 K g E))
def R_law_3 (K : PySem.W.Frag) (g : Ads) (E : XK) : TS :=
  (tSeq (tAsg (zCall (sp_law_drawn K g) [] (WE (fun cls d _ H => E cls d H)) (tCons (zVar 2) (tCons (zCall (sp_law_take K g) [] (WE (fun cls d _ H => E cls d H)) (tCons (zVar 2) (tCons (tC (.int 13)) tNil))) tNil))) (gName 3))
  (R_law_4 K g E))
def R_law_2 (K : PySem.W.Frag) (g : Ads) (E : XK) : TS :=
  (tSeq (tAsg (zCall (sp_law_digits K g) [] (WE (fun cls d _ H => E cls d H)) (tCons (zVar 0) (tCons (zVar 1) tNil))) (gName 2))
  (R_law_3 K g E))
def R_law (K : PySem.W.Frag) (g : Ads) (E : XK) : TS :=
  (tSeq (zFor (iRng1 (tCons (tCB rMx2 (tCons (tC (.int 1)) (tCons (tCB rMn2 (tCons (tC (.int 5)) (tCons (tCB (zLen K) (tCons (zVar 0) tNil)) tNil))) tNil))) tNil)) (gName 1)
  (R_law_2 K g E))
  (tRet (tC (.bl true))))
def rw_law (K : PySem.W.Frag) (g : Ads) : Sp := fun vs H Q E => vs.length = 1 ∧ R_law K g E { nx := fun _ H' => Q .non H', rt := Q } (start ["script", "at", "bag", "rows", "pairs", "turn", "place", "wide", "one", "rank", "other", "told", "k"] vs) H
theorem raw_law {P : Program} {w : World} {K : PySem.W.Frag} {mg : Str → Option Value} {base : Heap} {g : Ads} (T : Txt K mg g) : FnG true P w K mg base 7 g.f_law g.d_law ["script"] (rw_law K g) := by
  refine okZ T.f_law sc_law (fun vs H Q E h => h.1) (fun cdv A outer s H vs Q E hr hgu h => ⟨R_law K g E, ?_, h.2⟩)
  exact (pss_cons (psz_for PassesOwn.leaving rfl (pi_range1 rfl T.b_range (pa_cons (pe_callB (call_mx2 rfl) (by rfl) T.b_max (by decide +kernel) (pa_cons pe_int (pa_cons (pe_callB (call_mn2 rfl) (by rfl) T.b_min (by decide +kernel) (pa_cons pe_int (pa_cons (pe_callB call_lenZ (by rfl) T.b_len (by decide +kernel) (pa_cons (zv 0) pa_nil)) pa_nil))) pa_nil))) pa_nil)) (pg_name (i := 1) sc_law.nd rfl (Or.inl rfl))
  (pss_cons (ps_set (i := 2) sc_law.nd rfl (Or.inl rfl) (pe_callZ (ok_law_digits T) (hr.mono (by decide)) hgu rfl T.g_law_digits T.k_law_digits T.e_law_digits .nil (fun σ => passAt (takes_of rfl rfl rfl rfl) σ) (pa_cons (zv 0) (pa_cons (zv 1) pa_nil))))
  (pss_cons (ps_set (i := 3) sc_law.nd rfl (Or.inl rfl) (pe_callZ (ok_law_drawn T) (hr.mono (by decide)) hgu rfl T.g_law_drawn T.k_law_drawn T.e_law_drawn .nil (fun σ => passAt (takes_of rfl rfl rfl rfl) σ) (pa_cons (zv 2) (pa_cons (pe_callZ (ok_law_take T) (hr.mono (by decide)) hgu rfl T.g_law_take T.k_law_take T.e_law_take .nil (fun σ => passAt (takes_of rfl rfl rfl rfl) σ) (pa_cons (zv 2) (pa_cons pe_int pa_nil))) pa_nil))))
  (pss_cons (ps_set (i := 4) sc_law.nd rfl (Or.inl rfl) (pe_lst (pa_cons (ClX.pe_cmeth (pe_glob rfl T.g_Pair rfl) T.cr_Pair T.cm_Pair_made ((ok_Pair_made T).raw T.e_Pair_made) (hr.mono (by decide)) passN (pa_cons (zv 3) pa_nil)) (pa_cons (ClX.pe_cmeth (pe_glob rfl T.g_Pair rfl) T.cr_Pair T.cm_Pair_made ((ok_Pair_made T).raw T.e_Pair_made) (hr.mono (by decide)) passN (pa_cons (pe_slice sl_list (zv 3) po_none (po_some (pez_neg pe_int))) pa_nil)) (pa_cons (ClX.pe_cmeth (pe_glob rfl T.g_Pair rfl) T.cr_Pair T.cm_Pair_made ((ok_Pair_made T).raw T.e_Pair_made) (hr.mono (by decide)) passN (pa_cons (pe_callZ (ok_law_drawn T) (hr.mono (by decide)) hgu rfl T.g_law_drawn T.k_law_drawn T.e_law_drawn .nil (fun σ => passAt (takes_of rfl rfl rfl rfl) σ) (pa_cons (zv 2) (pa_cons (pe_callB call_lenZ (by rfl) T.b_len (by decide +kernel) (pa_cons (zv 3) pa_nil)) pa_nil))) pa_nil)) pa_nil)))))
  (pss_cons (psz_for PassesOwn.leaving rfl (pi_range1 rfl T.b_range (pa_cons pe_int pa_nil)) (pg_name (i := 5) sc_law.nd rfl (Or.inl rfl))
  (pss_cons (ps_set (i := 6) sc_law.nd rfl (Or.inl rfl) (pe_callZ (ok_law_take T) (hr.mono (by decide)) hgu rfl T.g_law_take T.k_law_take T.e_law_take .nil (fun σ => passAt (takes_of rfl rfl rfl rfl) σ) (pa_cons (zv 2) (pa_cons (pe_op op_zAdd (pe_callB call_lenZ (by rfl) T.b_len (by decide +kernel) (pa_cons (zv 3) pa_nil)) pe_int) pa_nil))))
  (pss_one (ps_expr (pe_bm PySem.F.plainAttrs_list PySem.F.slot_list_append PySem.F.type_list_append mt_append (zv 4) (pa_cons (ClX.pe_cmeth (pe_glob rfl T.g_Pair rfl) T.cr_Pair T.cm_Pair_made ((ok_Pair_made T).raw T.e_Pair_made) (hr.mono (by decide)) passN (pa_cons (pe_op op_zAdd (pe_op op_zAdd (pe_slice sl_list (zv 3) po_none (po_some (zv 6))) (pe_callZ (ok_law_drawn T) (hr.mono (by decide)) hgu rfl T.g_law_drawn T.k_law_drawn T.e_law_drawn .nil (fun σ => passAt (takes_of rfl rfl rfl rfl) σ) (pa_cons (zv 2) (pa_cons pe_int pa_nil)))) (pe_slice sl_list (zv 3) (po_some (pe_op op_zAdd (zv 6) pe_int)) po_none)) pa_nil)) pa_nil))))))
  (pss_cons (psz_setLc (i := 7) (own := [("k", 12)]) rfl sc_law.nd rfl rfl (sw_true rfl rfl rfl (by decide +kernel)) (pi_range2 rfl T.b_range (pa_cons pe_int (pa_cons pe_int pa_nil))) (blkOk_by (own := [("k", 12)]) (N := ["script", "at", "bag", "rows", "pairs", "turn", "place", "wide", "one", "rank", "other", "told", "k"]) (sc := defScope s_law) (by decide +kernel)) (fun _ _ _ _ _ => pg_name (i := 12) sc_law.nd rfl (Or.inl rfl)) (fun _ _ _ _ _ => pts_nil) (fun _ _ _ _ _ => (pe_tup (pa_cons (pe_op op_zMul pe_str (zv 12)) (pa_cons (pe_op op_zMul pe_str (zv 12)) pa_nil)))))
  (pss_cons (ps_expr (pe_bm PySem.F.plainAttrs_list PySem.F.slot_list_append PySem.F.type_list_append mt_append (zv 4) (pa_cons (ClX.pe_cmeth (pe_glob rfl T.g_Pair rfl) T.cr_Pair T.cm_Pair_made ((ok_Pair_made T).raw T.e_Pair_made) (hr.mono (by decide)) passN (pa_cons (zv 7) pa_nil)) pa_nil)))
  (pss_cons (ps_expr (pe_bm PySem.F.plainAttrs_list PySem.F.slot_list_append PySem.F.type_list_append mt_append (zv 4) (pa_cons (ClX.pe_cmeth (pe_glob rfl T.g_Pair rfl) T.cr_Pair T.cm_Pair_made ((ok_Pair_made T).raw T.e_Pair_made) (hr.mono (by decide)) passN (pa_cons (pe_op op_zAdd (pe_op op_zAdd (pe_slice sl_list (zv 7) po_none (po_some pe_int)) (pe_lst (pa_cons (pe_tup (pa_cons pe_str (pa_cons pe_str pa_nil))) pa_nil))) (pe_slice sl_list (zv 7) (po_some pe_int) po_none)) pa_nil)) pa_nil)))
  (pss_cons (psz_for PassesOwn.leaving rfl (pi_list (zv 4)) (pg_name (i := 8) sc_law.nd rfl (Or.inl rfl))
  (pss_cons (ps_set (i := 9) sc_law.nd rfl (Or.inl rfl) (pe_smeth (pe_glob rfl T.g_Pair rfl) T.cr_Pair T.sm_Pair_rank ((ok_Pair_rank T).raw T.e_Pair_rank) (hr.mono (by decide)) passN (pa_cons (zv 8) pa_nil)))
  (pss_cons (ps_if (PW.pt (pw_or (pt_not (ptz_truth (pe_isi (kd := .tuple) (zv 9) (by rfl) T.b_isinstance (by decide +kernel) (by rfl) T.b_tuple (by decide +kernel)) (by intro _; rfl))) (pw_or1 (ptz_cmp (op_zNe hr.units) (zv 9) (pe_smeth (pe_glob rfl T.g_Pair rfl) T.cr_Pair T.sm_Pair_rank ((ok_Pair_rank T).raw T.e_Pair_rank) (hr.mono (by decide)) passN (pa_cons (ClX.pe_cmeth (pe_glob rfl T.g_Pair rfl) T.cr_Pair T.cm_Pair_made ((ok_Pair_made T).raw T.e_Pair_made) (hr.mono (by decide)) passN (pa_cons (pe_callTy call_listZ (by rfl) T.b_list (by decide +kernel) (pa_cons (pe_fld (zv 8) rfl) pa_nil)) pa_nil)) pa_nil)) (nomark _)))))
  (pss_one (ps_ret pe_bl))
  pss_nil)
  (pss_one (psz_for PassesOwn.leaving rfl (pi_list (zv 4)) (pg_name (i := 10) sc_law.nd rfl (Or.inl rfl))
  (pss_cons (ps_if (ptz_cmp (op_zNe hr.units) (pe_cmpR (op_zLtD hr.units) (zv 9) (pe_smeth (pe_glob rfl T.g_Pair rfl) T.cr_Pair T.sm_Pair_rank ((ok_Pair_rank T).raw T.e_Pair_rank) (hr.mono (by decide)) passN (pa_cons (zv 10) pa_nil)) (nomark _)) (pe_callZ (ok_law_is_less T) (hr.mono (by decide)) hgu rfl T.g_law_is_less T.k_law_is_less T.e_law_is_less .nil (fun σ => passAt (takes_of rfl rfl rfl rfl) σ) (pa_cons (pe_fld (zv 8) rfl) (pa_cons (pe_fld (zv 10) rfl) pa_nil))) (nomark _))
  (pss_one (ps_ret pe_bl))
  pss_nil)
  (pss_one (ps_if (ptz_cmp (op_zNe hr.units) (pe_cmpR (op_zEq hr.units) (zv 9) (pe_smeth (pe_glob rfl T.g_Pair rfl) T.cr_Pair T.sm_Pair_rank ((ok_Pair_rank T).raw T.e_Pair_rank) (hr.mono (by decide)) passN (pa_cons (zv 10) pa_nil)) (nomark _)) (pe_cmpR (op_zEqO ((ok_Pair_eq T).raw T.e_Pair_eq) T.a_Pair_eq T.i_Pair_eq (hr.mono (by decide))) (zv 8) (zv 10) (nomark _)) (nomark _))
  (pss_one (ps_ret pe_bl))
  pss_nil))))))))
  (pss_cons (ps_set (i := 11) sc_law.nd rfl (Or.inl rfl) (pe_callB (call_sortedD hr.units) (by rfl) T.b_sorted (by decide +kernel) (pa_cons (pez_lc (own := [("one", 8)]) rfl sc_law.nd (pi_list (zv 4)) (blkOk_by (own := [("one", 8)]) (N := ["script", "at", "bag", "rows", "pairs", "turn", "place", "wide", "one", "rank", "other", "told", "k"]) (sc := defScope s_law) (by decide +kernel)) (fun _ _ _ _ _ => pg_name (i := 8) sc_law.nd rfl (Or.inl rfl)) (fun _ _ _ _ _ => pts_nil) (fun _ _ _ _ _ => (pe_smeth (pe_glob rfl T.g_Pair rfl) T.cr_Pair T.sm_Pair_rank ((ok_Pair_rank T).raw T.e_Pair_rank) (hr.mono (by decide)) passN (pa_cons (zv 8) pa_nil)))) pa_nil)))
  (pss_one (psz_for PassesOwn.leaving rfl (pi_range2 rfl T.b_range (pa_cons pe_int (pa_cons (pe_callB call_lenZ (by rfl) T.b_len (by decide +kernel) (pa_cons (zv 11) pa_nil)) pa_nil))) (pg_name (i := 12) sc_law.nd rfl (Or.inl rfl))
  (pss_one (ps_if (ptz_cmp (op_zLtD hr.units) (pe_ix ix_z (zv 11) (zv 12) (fun _ _ => rfl)) (pe_ix ix_z (zv 11) (pe_op op_zSub (zv 12) pe_int) (fun _ _ => rfl)) (nomark _))
  (pss_one (ps_ret pe_bl))
  pss_nil))))))))))))))
  (pss_one (ps_ret pe_bl)))
/-! ### pairs as they lie in lists -/
def POk (K : PySem.W.Frag) (g : Ads) (H : Hp) (v : V) (R : List Rw) : Prop := ∃ o ap, v = .ref o ∧ PairAt K g H o R ap ∧ ∀ q ∈ R, pOk q.1 ∧ pOk q.2
theorem POk.keepT {K : PySem.W.Frag} {g : Ads} {H H' : Hp} {v : V} {R : List Rw} (k : KeepT H H') (h : POk K g H v R) : POk K g H' v R := by
  obtain ⟨o, ap, e, p, ok⟩ := h
  exact ⟨o, ap, e, p.keepT k, ok⟩
abbrev PsAt (K : PySem.W.Frag) (g : Ads) (H : Hp) : List V → List (List Rw) → Prop := Paired (POk K g H)
theorem PsAt.keepT {K : PySem.W.Frag} {g : Ads} {H H' : Hp} {vs : List V} {Rs : List (List Rw)} (k : KeepT H H') (h : PsAt K g H vs Rs) : PsAt K g H' vs Rs := L2.Paired.mapP h fun _ _ q => q.keepT k
theorem PairAt.ranks {K : PySem.W.Frag} {g : Ads} {H : Hp} {o : Addr} {R : List Rw} {ap : List Nat} (h : PairAt K g H o R ap) : ∃ rs, Paired RkRow R rs := by
  obtain ⟨_, _, ⟨ps, rfl⟩, ln⟩ := h
  have := norm_length ps
  exact norm_ranks ps (by omega)
theorem mk_made {K : PySem.W.Frag} {g : Ads} {H : Hp} {a : Addr} {xs : List V} {ps : List Rw} {Q : VK} {E : XK} (hq : SqT K H a xs ∨ SqL K H a xs) (hr : RowsAt K H xs ps) (ok : ∀ q ∈ ps, pOk q.1 ∧ pOk q.2) (hl : xs.length ≤ 1000)
    (k : ∀ v H', Same H H' → POk K g H' v (norm ps) → Q v H') : sp_Pair_made K g [.ref g.c_Pair, .ref a] H Q E :=
  ⟨a, xs, ps, rfl, hq, hr, ok, hl, fun o H' ap z ho pr => k _ _ z ⟨o, ap, rfl, pr, norm_pOk ok⟩⟩
theorem paired_app {α β : Type} {F : α → β → Prop} : ∀ {xs xs' : List α} {ys ys' : List β}, Paired F xs ys → Paired F xs' ys' → Paired F (xs ++ xs') (ys ++ ys')
  | _, _, _, _, .nil, h => h
  | _, _, _, _, .cons a r, h => .cons a (paired_app r h)
theorem paired_drop {α β : Type} {F : α → β → Prop} : ∀ (n : Nat) {xs : List α} {ys : List β}, Paired F xs ys → Paired F (xs.drop n) (ys.drop n)
  | 0, _, _, h => h
  | n + 1, _, _, .nil => .nil
  | n + 1, _, _, .cons _ r => paired_drop n r
theorem paired_take {α β : Type} {F : α → β → Prop} : ∀ (n : Nat) {xs : List α} {ys : List β}, Paired F xs ys → Paired F (xs.take n) (ys.take n)
  | 0, _, _, _ => .nil
  | n + 1, _, _, .nil => .nil
  | n + 1, _, _, .cons a r => .cons a (paired_take n r)
theorem rows_cut {K : PySem.W.Frag} {H : Hp} {xs : List V} {ps : List Rw} (h : RowsAt K H xs ps) (lo hi : Option Int) : ∃ qs, RowsAt K H (cutV xs lo hi) qs ∧ ∀ q ∈ qs, q ∈ ps :=
  ⟨_, paired_take _ (paired_drop _ h), fun q hq => List.mem_of_mem_drop (List.mem_of_mem_take hq)⟩
/-- the state while pairs are made -/
structure S4 (K : PySem.W.Frag) (g : Ads) (p RW PL : Addr) (xs : List V) (ps : List Rw) (n : Nat) (H0 H : Hp) : Prop where
  bag : BagAt H p
  rows : H RW = some (.lst xs)
  at_ : RowsAt K H xs ps
  ex : ∃ vs Rs, H PL = some (.lst vs) ∧ PsAt K g H vs Rs ∧ vs.length = n
  old : Same H0 H
theorem okr {ps : List Rw} (ok : ∀ q ∈ ps, rOk q) : ∀ q ∈ ps, pOk q.1 ∧ pOk q.2 := fun q hq => ⟨(ok q hq).1.1, (ok q hq).2.1⟩
theorem S4.app {K : PySem.W.Frag} {g : Ads} {p RW PL : Addr} {xs : List V} {ps : List Rw} {n : Nat} {H0 H H7 : Hp} {v : V} {R : List Rw} {vs : List V} {Rs : List (List Rw)} (hPL0 : H0 PL = none) (n2 : PL ≠ p) (n3 : RW ≠ PL)
    (hb : BagAt H7 p) (eR : H7 RW = some (.lst xs)) (hr : RowsAt K H7 xs ps) (eP : H7 PL = some (.lst vs)) (hP : PsAt K g H7 vs Rs) (lv : vs.length = n) (sm : Same H0 H7) (pv : POk K g H7 v R) :
    S4 K g p RW PL xs ps (n + 1) H0 (upd H7 PL (.lst (vs ++ [v]))) := by
  have kp : KeepT H7 (upd H7 PL (.lst (vs ++ [v]))) := KeepT.put eP
  refine ⟨?_, ?_, hr.keepT kp, ⟨vs ++ [v], Rs ++ [R], upd_same, (hP.keepT kp).snoc (pv.keepT kp), by simp [lv]⟩, ?_⟩
  · obtain ⟨c, m, e⟩ := hb
    exact ⟨c, m, by rw [upd_ne n2.symm]; exact e⟩
  · rw [upd_ne n3]
    exact eR
  · intro b u e
    rw [upd_ne (ne_of_none e hPL0)]
    exact sm _ _ e
theorem law_turn {K : PySem.W.Frag} {mg : Str → Option Value} {g : Ads} (T : Txt K mg g) {E : XK} {D : Ends} {a p RW PL : Addr} {s1 s5 s7 s8 s9 s10 s11 s12 : Option V} {xs : List V} {ps : List Rw} {n : Nat} {H0 H : Hp} {r : Int}
    (hp0 : H0 p = none) (hPL0 : H0 PL = none) (n1 : RW ≠ p) (n2 : PL ≠ p) (n3 : RW ≠ PL) (ok : ∀ q ∈ ps, rOk q) (lx : xs.length ≤ 100) (hn : n ≤ 100) (S : S4 K g p RW PL xs ps n H0 H)
    (fin : ∀ H', S4 K g p RW PL xs ps (n + 1) H0 H' → D.nx [some (.ref a), s1, some (.ref p), some (.ref RW), some (.ref PL), s5, some (.int r), s7, s8, s9, s10, s11, s12] H') :
    R_law_7 K g E D [some (.ref a), s1, some (.ref p), some (.ref RW), some (.ref PL), s5, some (.int r), s7, s8, s9, s10, s11, s12] H := by
  obtain ⟨hb, eR, hr, ⟨vs, Rs, eP, hP, lv⟩, sm⟩ := S
  obtain ⟨q1, hq1, m1⟩ := rows_cut hr none (some r)
  obtain ⟨q2, hq2, m2⟩ := rows_cut hr (some (r + 1)) none
  have lc1 := cutV_length xs none (some r)
  have lc2 := cutV_length xs (some (r + 1)) none
  refine ⟨.inl ⟨rfl, _, SqL.of eP⟩, rfl, r, rfl, RW, xs, rfl, SqL.of eR, fun A hA => ?_⟩
  have z1 : Same H (upd H A (.lst (cutV xs none (some r)))) := Same.put hA
  have eA : (upd H A (.lst (cutV xs none (some r)))) A = some (.lst (cutV xs none (some r))) := upd_same
  generalize upd H A (.lst (cutV xs none (some r))) = H1 at z1 eA
  have nA : A ≠ p := hb.ne hA
  refine ⟨p, 1, rfl, hb.same z1, by decide, by decide, fun RO xo po H2 b2 f2 hRO eRO hro oko leno lmo => ?_⟩
  have k2 : KeepT H H2 := (KeepT.same z1).trans (KeepT.but (hb.same z1) f2)
  have s2 : Same H0 H2 := f2.old (sm.trans z1) hp0
  have lo : xo.length ≤ 1 := by rw [hro.length]; omega
  refine ⟨cutV xs none (some r), xo, f2 _ _ eA nA, eRO, Nat.le_trans (show _ ≤ 200 by omega) (by decide), fun C hC => ?_⟩
  have z3 : Same H2 (upd H2 C (.lst (cutV xs none (some r) ++ xo))) := Same.put hC
  have eC : (upd H2 C (.lst (cutV xs none (some r) ++ xo))) C = some (.lst (cutV xs none (some r) ++ xo)) := upd_same
  generalize upd H2 C (.lst (cutV xs none (some r) ++ xo)) = H3 at z3 eC
  have eR3 := z3 _ _ (f2 _ _ (z1 _ _ eR) n1)
  refine ⟨r + 1, rfl, RW, xs, rfl, SqL.of eR3, fun B hB => ?_⟩
  have z4 : Same H3 (upd H3 B (.lst (cutV xs (some (r + 1)) none))) := Same.put hB
  have eB : (upd H3 B (.lst (cutV xs (some (r + 1)) none))) B = some (.lst (cutV xs (some (r + 1)) none)) := upd_same
  generalize upd H3 B (.lst (cutV xs (some (r + 1)) none)) = H4 at z4 eB
  refine ⟨_, _, z4 _ _ eC, eB, Nat.le_trans (show _ ≤ 400 by rw [List.length_append]; omega) (by decide), fun F hF => ?_⟩
  have z5 : Same H4 (upd H4 F (.lst ((cutV xs none (some r) ++ xo) ++ cutV xs (some (r + 1)) none))) := Same.put hF
  have eF : (upd H4 F (.lst ((cutV xs none (some r) ++ xo) ++ cutV xs (some (r + 1)) none))) F = some (.lst ((cutV xs none (some r) ++ xo) ++ cutV xs (some (r + 1)) none)) := upd_same
  generalize upd H4 F (.lst ((cutV xs none (some r) ++ xo) ++ cutV xs (some (r + 1)) none)) = H5 at z5 eF
  have z25 := (z3.trans z4).trans z5
  have k5 : KeepT H H5 := k2.trans (KeepT.same z25)
  have okk : ∀ q ∈ (q1 ++ po) ++ q2, pOk q.1 ∧ pOk q.2 := by
    intro q hq
    rcases List.mem_append.mp hq with h | h
    · rcases List.mem_append.mp h with h | h
      · exact okr ok _ (m1 _ h)
      · exact okr oko _ h
    · exact okr ok _ (m2 _ h)
  refine ⟨F, _, _, rfl, .inr (SqL.of eF), (paired_app (paired_app (hq1.keepT k5) (RowsAt.same hro z25)) (hq2.keepT k5)), okk, (show _ ≤ 1000 by rw [List.length_append, List.length_append]; omega), fun o H7 ap z7 ho pr => ?_⟩
  have pv : POk K g H7 (.ref o) _ := ⟨o, ap, rfl, pr, norm_pOk okk⟩
  have z27 := z25.trans z7
  have k7 := k5.trans (KeepT.same z7)
  have eP7 := z27 _ _ (f2 _ _ (z1 _ _ eP) n2)
  exact ⟨PL, vs, _, rfl, rfl, eP7, Nat.lt_of_le_of_lt (show _ ≤ 100 by omega) (by decide), fin _ (S4.app (H := H) hPL0 n2 n3 (b2.same z27) (z27 _ _ (f2 _ _ (z1 _ _ eR) n1)) (hr.keepT k7) eP7 (hP.keepT k7) lv (s2.trans z27) pv)⟩
/-! ### the wide ones -/
theorem mul_ok {i : Nat} (h : i < 7) : MulOk "a" (1 + (i : Nat)) ∧ MulOk "b" (1 + (i : Nat)) := by
  have : i = 0 ∨ i = 1 ∨ i = 2 ∨ i = 3 ∨ i = 4 ∨ i = 5 ∨ i = 6 := by omega
  rcases this with rfl | rfl | rfl | rfl | rfl | rfl | rfl <;> exact ⟨by unfold MulOk; decide +kernel, by unfold MulOk; decide +kernel⟩
theorem str_ok (x y : Str) : pOk (.str x) ∧ pOk (.str y) := ⟨fun i h => (nomatch h), fun i h => (nomatch h)⟩
theorem law_wide {K : PySem.W.Frag} {mg : Str → Option Value} {g : Ads} (T : Txt K mg g) {E : XK} {D : Ends} {a p RW PL : Addr} {s1 s5 s6 s7 s8 s9 s10 s11 s12 : Option V} {xs : List V} {ps : List Rw} {H0 H : Hp}
    (hp0 : H0 p = none) (hPL0 : H0 PL = none) (n1 : RW ≠ p) (n2 : PL ≠ p) (n3 : RW ≠ PL) (S : S4 K g p RW PL xs ps 6 H0 H)
    (fin : ∀ H' s7, S4 K g p RW PL xs ps 8 H0 H' → R_law_11 K g E D [some (.ref a), s1, some (.ref p), some (.ref RW), some (.ref PL), s5, s6, s7, s8, s9, s10, s11, s12] H') :
    R_law_8 K g E D [some (.ref a), s1, some (.ref p), some (.ref RW), some (.ref PL), s5, s6, s7, s8, s9, s10, s11, s12] H := by
  obtain ⟨hb, eR, hr, ⟨vs, Rs, eP, hP, lv⟩, sm⟩ := S
  refine ⟨1, 8, rfl, ⟨by decide, by decide, by decide, by decide⟩, lc_z (walk_range (lo := 1) (n := 7)) (fun L i H' => Same H H' ∧ ∃ acc qs, H' L = some (.lst acc) ∧ RowsAt K H' acc qs ∧ qs.length = i ∧ ∀ q ∈ qs, pOk q.1 ∧ pOk q.2)
    (fun L hL => ⟨Same.put hL, [], [], upd_same, .nil, rfl, fun q hq => absurd hq (by simp)⟩) (fun _ _ _ _ _ _ => trivial) (fun L i x H1 H1' hL hi pv y => ?_) (fun L H1 hL pv => ?_)⟩
  · obtain ⟨z, acc, qs, e, ha, lq, okq⟩ := pv
    obtain ⟨rfl, rfl⟩ := y
    obtain ⟨o1, o2⟩ := mul_ok hi
    refine ⟨rfl, ?_⟩
    refine ⟨o1, o2, show 2 ≤ sizeLine by decide, fun T0 hT0 => ?_⟩
    have z2 : Same H1' (upd H1' T0 (.tup [.str (PySem.Txt.mul "a" (1 + (i : Nat))), .str (PySem.Txt.mul "b" (1 + (i : Nat)))])) := Same.put hT0
    have eT : (upd H1' T0 (.tup [.str (PySem.Txt.mul "a" (1 + (i : Nat))), .str (PySem.Txt.mul "b" (1 + (i : Nat)))])) T0 = some (.tup [.str (PySem.Txt.mul "a" (1 + (i : Nat))), .str (PySem.Txt.mul "b" (1 + (i : Nat)))]) := upd_same
    have e2 := z2 _ _ e
    have kp := KeepT.put (o := .lst (acc ++ [.ref T0])) e2
    refine ⟨acc, e2, Nat.lt_of_le_of_lt (show _ ≤ 7 by rw [ha.length]; omega) (by decide), ?_, acc ++ [.ref T0], qs ++ [((.str (PySem.Txt.mul "a" (1 + (i : Nat))), .str (PySem.Txt.mul "b" (1 + (i : Nat)))) : Rw)], upd_same, (ha.keepT ((KeepT.same z2).trans kp)).snoc ⟨T0, rfl, Z.SqT.keepT kp (SqT.of eT)⟩, by simp [lq], fun q hq => ?_⟩
    · intro b u eb
      rw [upd_ne (ne_of_none eb hL)]
      exact z2 _ _ (z _ _ eb)
    · rcases List.mem_append.mp hq with h | h
      · exact okq _ h
      · obtain rfl := List.mem_singleton.mp h
        exact str_ok _ _
  · obtain ⟨z, acc, qs, eW, hW, lq, okq⟩ := pv
    have nLp : L ≠ p := hb.ne hL
    have nLP : L ≠ PL := (ne_of_none eP hL).symm
    have lW : acc.length = 7 := by rw [hW.length]; exact lq
    -- the wide pair
    refine ⟨.inl ⟨rfl, _, SqL.of (z _ _ eP)⟩, rfl, L, acc, qs, rfl, .inr (SqL.of eW), hW, okq, (by omega), fun o H2 ap z2 ho pr => ⟨PL, vs, .ref o, rfl, rfl, z2 _ _ (z _ _ eP), Nat.lt_of_le_of_lt (show _ ≤ 100 by omega) (by decide), ?_⟩⟩
    have pv : POk K g H2 (.ref o) _ := ⟨o, ap, rfl, pr, norm_pOk okq⟩
    generalize V.ref o = v at pv
    have z02 := z.trans z2
    have k02 := KeepT.same z02
    have S7 := S4.app (H := H) (v := v) hPL0 n2 n3 (hb.same z02) (z02 _ _ eR) (hr.keepT k02) (z02 _ _ eP) (hP.keepT k02) lv (sm.trans z02) pv
    have eW3 : (upd H2 PL (.lst (vs ++ [v]))) L = some (.lst acc) := by
      rw [upd_ne nLP]
      exact z2 _ _ eW
    have hW3 : RowsAt K (upd H2 PL (.lst (vs ++ [v]))) acc qs := hW.keepT ((KeepT.same z2).trans (KeepT.put (z02 _ _ eP)))
    show R_law_10 K g E D [some (.ref a), s1, some (.ref p), some (.ref RW), some (.ref PL), s5, s6, some (.ref L), s8, s9, s10, s11, s12] (upd H2 PL (.lst (vs ++ [v])))
    generalize upd H2 PL (.lst (vs ++ [v])) = H3 at S7 eW3 hW3
    obtain ⟨hb, eR, hr, ⟨vs, Rs, eP, hP, lv⟩, sm⟩ := S7
    obtain ⟨q1, hq1, m1⟩ := rows_cut hW3 none (some 5)
    obtain ⟨q2, hq2, m2⟩ := rows_cut hW3 (some 6) none
    have lc1 := cutV_length acc none (some 5)
    have lc2 := cutV_length acc (some 6) none
    refine ⟨.inl ⟨rfl, _, SqL.of eP⟩, rfl, 5, rfl, L, acc, rfl, SqL.of eW3, fun A hA => ?_⟩
    have z4 : Same H3 (upd H3 A (.lst (cutV acc none (some 5)))) := Same.put hA
    have eA : (upd H3 A (.lst (cutV acc none (some 5)))) A = some (.lst (cutV acc none (some 5))) := upd_same
    generalize upd H3 A (.lst (cutV acc none (some 5))) = H4 at z4 eA
    refine ⟨show 2 ≤ sizeLine by decide, fun T0 hT0 => ?_⟩
    have z5 : Same H4 (upd H4 T0 (.tup [.str "x", .str "b"])) := Same.put hT0
    have eT : (upd H4 T0 (.tup [.str "x", .str "b"])) T0 = some (.tup [.str "x", .str "b"]) := upd_same
    generalize upd H4 T0 (.tup [V.str "x", .str "b"]) = H5 at z5 eT
    refine ⟨show 1 ≤ sizeLine by decide, fun M hM => ?_⟩
    have z6 : Same H5 (upd H5 M (.lst [.ref T0])) := Same.put hM
    have eM : (upd H5 M (.lst [.ref T0])) M = some (.lst [.ref T0]) := upd_same
    generalize upd H5 M (.lst [V.ref T0]) = H6 at z6 eM
    refine ⟨cutV acc none (some 5), [.ref T0], z6 _ _ (z5 _ _ eA), eM, Nat.le_trans (show _ ≤ 200 by simp only [List.length_cons, List.length_nil]; omega) (by decide), fun C hC => ?_⟩
    have z7 : Same H6 (upd H6 C (.lst (cutV acc none (some 5) ++ [.ref T0]))) := Same.put hC
    have eC : (upd H6 C (.lst (cutV acc none (some 5) ++ [.ref T0]))) C = some (.lst (cutV acc none (some 5) ++ [.ref T0])) := upd_same
    generalize upd H6 C (.lst (cutV acc none (some 5) ++ [V.ref T0])) = H7 at z7 eC
    have z37 := ((z4.trans z5).trans z6).trans z7
    refine ⟨6, rfl, L, acc, rfl, SqL.of (z37 _ _ eW3), fun B hB => ?_⟩
    have z8 : Same H7 (upd H7 B (.lst (cutV acc (some 6) none))) := Same.put hB
    have eB : (upd H7 B (.lst (cutV acc (some 6) none))) B = some (.lst (cutV acc (some 6) none)) := upd_same
    generalize upd H7 B (.lst (cutV acc (some 6) none)) = H8 at z8 eB
    refine ⟨_, _, z8 _ _ eC, eB, Nat.le_trans (show _ ≤ 400 by rw [List.length_append]; simp only [List.length_cons, List.length_nil]; omega) (by decide), fun F hF => ?_⟩
    have z9 : Same H8 (upd H8 F (.lst ((cutV acc none (some 5) ++ [.ref T0]) ++ cutV acc (some 6) none))) := Same.put hF
    have eF : (upd H8 F (.lst ((cutV acc none (some 5) ++ [.ref T0]) ++ cutV acc (some 6) none))) F = some (.lst ((cutV acc none (some 5) ++ [.ref T0]) ++ cutV acc (some 6) none)) := upd_same
    generalize upd H8 F (.lst ((cutV acc none (some 5) ++ [V.ref T0]) ++ cutV acc (some 6) none)) = H9 at z9 eF
    have z39 := (z37.trans z8).trans z9
    have z59 := ((z6.trans z7).trans z8).trans z9
    have k9 := KeepT.same z39
    have okk : ∀ q ∈ (q1 ++ [((.str "x", .str "b") : Rw)]) ++ q2, pOk q.1 ∧ pOk q.2 := by
      intro q hq
      rcases List.mem_append.mp hq with h | h
      · rcases List.mem_append.mp h with h | h
        · exact okq _ (m1 _ h)
        · obtain rfl := List.mem_singleton.mp h
          exact str_ok _ _
      · exact okq _ (m2 _ h)
    refine ⟨F, _, _, rfl, .inr (SqL.of eF), (paired_app (paired_app (hq1.keepT k9) (show RowsAt K H9 [.ref T0] [((.str "x", .str "b") : Rw)] from .cons ⟨T0, rfl, SqT.of (z59 _ _ eT)⟩ .nil)) (hq2.keepT k9)), okk, (show _ ≤ 1000 by rw [List.length_append, List.length_append]; simp only [List.length_cons, List.length_nil]; omega), fun o2 H10 ap2 z10 ho2 pr2 => ?_⟩
    have pv2 : POk K g H10 (.ref o2) _ := ⟨o2, ap2, rfl, pr2, norm_pOk okk⟩
    have z310 := z39.trans z10
    have k10 := KeepT.same z310
    exact ⟨PL, vs, _, rfl, rfl, z310 _ _ eP, Nat.lt_of_le_of_lt (show _ ≤ 100 by omega) (by decide), fin _ _ (S4.app (H := H3) hPL0 n2 n3 (hb.same z310) (z310 _ _ eR) (hr.keepT k10) (z310 _ _ eP) (hP.keepT k10) lv (sm.trans z310) pv2)⟩
end Z
namespace Z
open PySem PySem.Spec PyProof.Rows L2
theorem POk.same {K : PySem.W.Frag} {g : Ads} {H H' : Hp} {v : V} {R : List Rw} (k : Same H H') (h : POk K g H v R) : POk K g H' v R := h.keepT (KeepT.same k)
theorem RankAt.same {K : PySem.W.Frag} {H H' : Hp} {v : V} {rs : List RR} (k : Same H H') (h : RankAt K H v rs) : RankAt K H' v rs := h.keepT (KeepT.same k)
abbrev RanksAt (K : PySem.W.Frag) (H : Hp) : List V → List (List RR) → Prop := Paired (RankAt K H)
theorem RanksAt.keepT {K : PySem.W.Frag} {H H' : Hp} {vs : List V} {rss : List (List RR)} (k : KeepT H H') (h : RanksAt K H vs rss) : RanksAt K H' vs rss := L2.Paired.mapP h fun _ _ q => q.keepT k
theorem ranksAt_dp {K : PySem.W.Frag} {H : Hp} : ∀ {vs : List V} {rss : List (List RR)}, RanksAt K H vs rss → DpAll K H vs (rss.map encRs)
  | _, _, .nil => .nil
  | _, _, .cons h t => .cons h.dp (ranksAt_dp t)
theorem ranksAt_zip {K : PySem.W.Frag} {H : Hp} : ∀ {vs : List V} {rss : List (List RR)}, RanksAt K H vs rss → ∀ b ∈ vs.zip (rss.map encRs), ∃ rs, b.2 = encRs rs ∧ RankAt K H b.1 rs
  | _, _, .nil => fun b hb => absurd hb (by simp)
  | _, _, .cons h t => fun b hb => by
    rcases List.mem_cons.mp hb with rfl | hb
    · exact ⟨_, rfl, h⟩
    · exact ranksAt_zip t b hb
theorem alike_all (rss : List (List RR)) : PySem.W.AllAlike (rss.map encRs) := by
  intro d hd d' hd'
  obtain ⟨rs, _, rfl⟩ := List.mem_map.mp hd
  obtain ⟨ss, _, rfl⟩ := List.mem_map.mp hd'
  exact enc_alike rs ss
theorem tups_all (rss : List (List RR)) : ∀ d, d ∈ rss.map encRs → (∃ ys, d = .tuple ys) ∧ d.depth ≤ 32 := by
  intro d hd
  obtain ⟨rs, _, rfl⟩ := List.mem_map.mp hd
  exact ⟨⟨_, rfl⟩, Nat.le_trans (enc_depth rs) (by decide)⟩
theorem PairAt.ins {K : PySem.W.Frag} {g : Ads} {H : Hp} {o : Addr} {R : List Rw} {ap : List Nat} (h : PairAt K g H o R ap) : ∃ dx fs, H o = some (.ins g.c_Pair dx fs) := by
  obtain ⟨⟨dx, ra, aa, fs, ys, h1, _⟩, _, _, _⟩ := h
  exact ⟨dx, fs, h1⟩
/-- one against another -/
theorem law_other {K : PySem.W.Frag} {mg : Str → Option Value} {g : Ads} (T : Txt K mg g) {E : XK} {D : Ends} {u v w : V} {s0 s1 s2 s3 s4 s5 s6 s7 s11 s12 : Option V} {R G : List Rw} {rs : List RR} {H : Hp}
    (hv : POk K g H v R) (hu : POk K g H u G) (hk : Paired RkRow R rs) (rk : RankAt K H w rs) (fin : ∀ H', Same H H' → D.nx [s0, s1, s2, s3, s4, s5, s6, s7, some v, some w, some u, s11, s12] H') :
    R_law_16 K g E D [s0, s1, s2, s3, s4, s5, s6, s7, some v, some w, some u, s11, s12] H := by
  obtain ⟨o, ap, rfl, pr, okR⟩ := hv
  obtain ⟨o', ap', rfl, pr', okG⟩ := hu
  obtain ⟨ss, hk'⟩ := pr'.ranks
  refine ⟨rfl, o', G, ap', ss, rfl, pr', hk', fun D1 y1 H1 z1 hD1 q1 r1 => RankAt.lt (rk.same z1) ⟨D1, y1, rfl, q1, r1⟩ ?_⟩
  obtain ⟨⟨dx, ra, aa, fs, ys, h1, h2, h3, h4, h5, h6⟩, _, _, lnR⟩ := pr.same z1
  obtain ⟨⟨dx', rb, ab, fs', zs, g1, g2, g3, g4, g5, g6⟩, _, _, lnG⟩ := pr'.same z1
  refine ⟨o, _, _, _, _, rfl, h1, T.cl_Pair, T.na_Pair_rows, h2, o', _, _, _, _, rfl, g1, T.cl_Pair, T.na_Pair_rows, g2, ra, rb, ys, zs, R, G, rs, ss, rfl, h4, h5, g4, g5, hk, hk', lnR.1, lnG.1, fun H2 z2 => .inl ⟨rfl, zite (fun h => by simp at h) fun _ => ?_⟩⟩
  have z12 := z1.trans z2
  refine ⟨rfl, o', G, ap', ss, rfl, pr'.same z12, hk', fun D3 y3 H3 z3 hD3 q3 r3 => RankAt.eq (rk.same (z12.trans z3)) ⟨D3, y3, rfl, q3, r3⟩ ?_⟩
  have z13 := z12.trans z3
  obtain ⟨_, _, i1⟩ := (pr.same z13).ins
  obtain ⟨_, _, i2⟩ := (pr'.same z13).ins
  refine ⟨o, o', _, _, _, _, rfl, rfl, i1, i2, .inl ⟨o, o', R, G, ap, ap', rfl, pr.same z13, pr'.same z13, fun c H4 z4 hc => ⟨c, rfl, ?_⟩⟩⟩
  have e : decide (rs = ss) = c := by
    rw [Bool.eq_iff_iff, hc, decide_eq_true_eq]
    exact ⟨fun e => rks_inj hk (by rw [e]; exact hk'), fun e => rks_fun hk (by rw [e]; exact hk')⟩
  rw [e]
  exact .inl ⟨rfl, zite (fun h => by simp at h) fun _ => fin _ (z13.trans z4)⟩
theorem law_one {K : PySem.W.Frag} {mg : Str → Option Value} {g : Ads} (T : Txt K mg g) {E : XK} {D : Ends} {v : V} {PL : Addr} {s0 s1 s2 s3 s5 s6 s7 s9 s10 s11 s12 : Option V} {R : List Rw} {vs : List V} {Rs : List (List Rw)} {H : Hp}
    (hv : POk K g H v R) (eP : H PL = some (.lst vs)) (hP : PsAt K g H vs Rs) (fin : ∀ H' s9 s10, Same H H' → D.nx [s0, s1, s2, s3, some (.ref PL), s5, s6, s7, some v, s9, s10, s11, s12] H') :
    R_law_12 K g E D [s0, s1, s2, s3, some (.ref PL), s5, s6, s7, some v, s9, s10, s11, s12] H := by
  have hv0 := hv
  obtain ⟨o, ap, rfl, pr, okR⟩ := hv
  obtain ⟨rs, hk⟩ := pr.ranks
  refine ⟨rfl, o, R, ap, rs, rfl, pr, hk, fun D9 y9 H1 z1 hD9 q9 r9 => ?_⟩
  have rk : RankAt K H1 (.ref D9) rs := ⟨D9, y9, rfl, q9, r9⟩
  obtain ⟨⟨dx, ra, aa, fs, ys, h1, h2, h3, h4, h5, h6⟩, _, ⟨ps, eR⟩, lnR⟩ := pr.same z1
  refine ⟨.tuple, ⟨_, q9⟩, zite (fun h => by simp at h) fun _ => ⟨rfl, rfl, o, _, _, _, _, rfl, h1, T.cl_Pair, T.na_Pair_rows, h2, ys, .inr h4, fun A hA => ?_⟩⟩
  have zA := Same.put (o := .lst ys) hA
  refine ⟨A, ys, R, rfl, .inr (SqL.of upd_same), RowsAt.same h5 zA, okR, by rw [h5.length]; exact lnR.1, fun o2 H2 ap2 z2 ho2 pr2 => ?_⟩
  have nR : norm R = R := by rw [eR, norm_norm]
  rw [nR] at pr2
  have z12 := zA.trans z2
  refine ⟨o2, R, ap2, rs, rfl, pr2, hk, fun D2 y2 H3 z3 hD2 q2 r2 => RankAt.ne (rk.same (z12.trans z3)) ⟨D2, y2, rfl, q2, r2⟩ (zite (fun h => by simp at h) fun _ => ?_)⟩
  have z03 := z1.trans (z12.trans z3)
  have rk3 := rk.same (z12.trans z3)
  have eP3 := z03 _ _ eP
  refine ⟨PL, rfl, ⟨_, SqL.of eP3⟩, for_z (walk_list (xs := vs)) (fun j σ H' => (∃ s10, σ = [s0, s1, s2, s3, some (.ref PL), s5, s6, s7, some (.ref o), some (.ref D9), s10, s11, s12]) ∧ Same H3 H') ⟨⟨_, rfl⟩, Same.refl _⟩ (fun j σ H' _ pv => SqL.of (pv.2 _ _ eP3)) (fun j x σ H4 H4' hj pv y => ?_) (fun σ H4 pv => ?_)⟩
  · obtain ⟨⟨s10, rfl⟩, z4⟩ := pv
    obtain ⟨rfl, hx⟩ := y
    obtain ⟨G, _, hG⟩ := paired_get hP hx
    have z04 := z03.trans z4
    exact law_other T (hv0.same z04) (hG.same z04) hk (rk3.same z4) fun H' z => ⟨⟨_, rfl⟩, z4.trans z⟩
  · obtain ⟨⟨s10, rfl⟩, z4⟩ := pv
    exact fin _ _ _ (z03.trans z4)
theorem law_loop {K : PySem.W.Frag} {mg : Str → Option Value} {g : Ads} (T : Txt K mg g) {E : XK} {D : Ends} {PL : Addr} {s0 s1 s2 s3 s5 s6 s7 s8 s9 s10 s11 s12 : Option V} {vs : List V} {Rs : List (List Rw)} {H : Hp}
    (eP : H PL = some (.lst vs)) (hP : PsAt K g H vs Rs) (lv : vs.length = 8) (fin : ∀ H' s8 s9 s10 s11 s12, Same H H' → D.nx [s0, s1, s2, s3, some (.ref PL), s5, s6, s7, s8, s9, s10, s11, s12] H') :
    R_law_11 K g E D [s0, s1, s2, s3, some (.ref PL), s5, s6, s7, s8, s9, s10, s11, s12] H := by
  refine ⟨PL, rfl, ⟨_, SqL.of eP⟩, for_z (walk_list (xs := vs)) (fun i σ H' => (∃ s8 s9 s10, σ = [s0, s1, s2, s3, some (.ref PL), s5, s6, s7, s8, s9, s10, s11, s12]) ∧ Same H H') ⟨⟨_, _, _, rfl⟩, Same.refl H⟩ (fun i σ H' _ pv => SqL.of (pv.2 _ _ eP)) (fun i x σ H1 H1' hi pv y => ?_) (fun σ H1 pv => ?_)⟩
  · obtain ⟨⟨s8, s9, s10, rfl⟩, z1⟩ := pv
    obtain ⟨rfl, hx⟩ := y
    obtain ⟨R, _, hR⟩ := paired_get hP hx
    exact law_one T (hR.same z1) (z1 _ _ eP) (hP.keepT (KeepT.same z1)) fun H' s9 s10 z => ⟨⟨_, _, _, rfl⟩, z1.trans z⟩
  · obtain ⟨⟨s8, s9, s10, rfl⟩, z1⟩ := pv
    have eP1 := z1 _ _ eP
    have hP1 : PsAt K g H1 vs Rs := hP.keepT (KeepT.same z1)
    refine ⟨PL, rfl, ⟨_, SqL.of eP1⟩, lc_z (walk_list (xs := vs)) (fun L i H' => Same H1 H' ∧ ∃ acc rss, H' L = some (.lst acc) ∧ RanksAt K H' acc rss ∧ rss.length = i) (fun L hL => ⟨Same.put hL, [], [], upd_same, .nil, rfl⟩) (fun L i H' _ _ pv => SqL.of (pv.1 _ _ eP1)) (fun L i x H2 H2' hL hi pv y => ?_) (fun L H2 hL pv => ?_)⟩
    · obtain ⟨z2, acc, rss, e2, ha, lr⟩ := pv
      obtain ⟨rfl, hx⟩ := y
      obtain ⟨R, _, hR⟩ := paired_get hP1 hx
      obtain ⟨o, ap, rfl, pr, okR⟩ := hR.same z2
      obtain ⟨rs, hk⟩ := pr.ranks
      refine ⟨rfl, rfl, o, R, ap, rs, rfl, pr, hk, fun D3 y3 H3 z3 hD3 q3 r3 => ?_⟩
      have e3 := z3 _ _ e2
      have kp := KeepT.put (o := .lst (acc ++ [.ref D3])) e3
      refine ⟨acc, e3, Nat.lt_of_le_of_lt (show _ ≤ 8 by rw [ha.length]; omega) (by decide), ?_, acc ++ [.ref D3], rss ++ [rs], upd_same, (ha.keepT ((KeepT.same z3).trans kp)).snoc ((RankAt.keepT kp ⟨D3, y3, rfl, q3, r3⟩)), by simp [lr]⟩
      intro b u eb
      rw [upd_ne (ne_of_none eb hL)]
      exact z3 _ _ (z2 _ _ eb)
    · obtain ⟨z2, acc, rss, e2, ha, lr⟩ := pv
      refine ⟨L, acc, rss.map encRs, rfl, SqL.of e2, ranksAt_dp ha, alike_all rss, tups_all rss, fun bs p pm srt hp => ?_⟩
      have zp := Same.put (o := .lst (bs.map Prod.fst)) hp
      have ha3 : RanksAt K (upd H2 p (.lst (bs.map Prod.fst))) acc rss := ha.keepT (KeepT.same zp)
      have ep : (upd H2 p (.lst (bs.map Prod.fst))) p = some (.lst (bs.map Prod.fst)) := upd_same
      show R_law_21 K g E D [s0, s1, s2, s3, some (.ref PL), s5, s6, s7, s8, s9, s10, some (.ref p), s12] (upd H2 p (.lst (bs.map Prod.fst)))
      have z03 := (z1.trans z2).trans zp
      generalize upd H2 p (.lst (bs.map Prod.fst)) = H3 at ha3 ep z03
      have lb : bs.length = 8 := by
        rw [pm.length_eq, List.length_zip, List.length_map, ha.length, Nat.min_self, lr, lv]
      refine ⟨bs.map Prod.fst, .inl (SqL.of ep), 1, _, rfl, ⟨by decide, by decide, ?_, ?_⟩, for_z (walk_range (lo := 1) (n := ((((bs.map Prod.fst).length : Nat) : Int) - 1).toNat)) (fun i σ H' => (∃ s12, σ = [s0, s1, s2, s3, some (.ref PL), s5, s6, s7, s8, s9, s10, some (.ref p), s12]) ∧ Same H3 H') ⟨⟨_, rfl⟩, Same.refl _⟩ (fun _ _ _ _ _ => trivial) (fun i x σ H4 H4' hi pv y => ?_) (fun σ H4 pv => ?_)⟩
      · rw [List.length_map]; omega
      · rw [List.length_map]; omega
      · obtain ⟨⟨s12, rfl⟩, z4⟩ := pv
        obtain ⟨rfl, rfl⟩ := y
        rw [List.length_map] at hi
        have h1 : i + 1 < bs.length := by omega
        have h0 : i < bs.length := by omega
        have a1 : atI (bs.map Prod.fst) (1 + ((i : Nat) : Int)) = some (bs[i + 1]'h1).1 := by
          rw [show (1 + ((i : Nat) : Int)) = ((i + 1 : Nat) : Int) by omega]
          exact atI_nat (by simp [h1])
        have a0 : atI (bs.map Prod.fst) (1 + ((i : Nat) : Int) - 1) = some (bs[i]'h0).1 := by
          rw [show (1 + ((i : Nat) : Int) - 1) = ((i : Nat) : Int) by omega]
          exact atI_nat (by simp [h0])
        have hs := List.pairwise_iff_getElem.mp srt i (i + 1) h0 h1 (by omega)
        obtain ⟨r1, x1, k1⟩ := ranksAt_zip ha3 _ (pm.mem_iff.mp (List.getElem_mem h1))
        obtain ⟨r0, x0, k0⟩ := ranksAt_zip ha3 _ (pm.mem_iff.mp (List.getElem_mem h0))
        rw [x1, x0, enc_lt] at hs
        have sq := SqL.of (K := K) (z4 _ _ ep)
        exact ⟨_, _, .inl sq, a1, _, _, .inl sq, a0, RankAt.lt (k1.same z4) (k0.same z4) (zite (fun h => by rw [hs] at h; cases h) fun _ => ⟨⟨_, rfl⟩, z4⟩)⟩
      · obtain ⟨⟨s12, rfl⟩, z4⟩ := pv
        exact fin _ _ _ _ _ _ (z03.trans z4)
/-! ### the law -/
theorem law_body {K : PySem.W.Frag} {mg : Str → Option Value} {g : Ads} (T : Txt K mg g) {E : XK} {D : Ends} {a p : Addr} {s1 s3 s4 s5 s6 s7 s8 s9 s10 s11 s12 : Option V} {H0 H : Hp} (hp0 : H0 p = none) (hb : BagAt H p) (sm : Same H0 H)
    (fin : ∀ H' s3 s4 s5 s6 s7 s8 s9 s10 s11 s12, Same H0 H' → D.nx [some (.ref a), s1, some (.ref p), s3, s4, s5, s6, s7, s8, s9, s10, s11, s12] H') :
    R_law_3 K g E D [some (.ref a), s1, some (.ref p), s3, s4, s5, s6, s7, s8, s9, s10, s11, s12] H := by
  refine ⟨p, 13, rfl, hb, by decide, by decide, fun m H1 m0 m1 b1 f1 => ⟨p, m, rfl, b1, m0, by omega, fun RW xs ps H2 b2 f2 hRn hR hr ok len lm => ?_⟩⟩
  have w2 : Same H0 H2 := (f1.trans f2).old sm hp0
  have nRp : RW ≠ p := b1.ne hRn
  have lx : xs.length ≤ 12 := by rw [hr.length]; omega
  -- three pairs
  refine ⟨rfl, RW, xs, ps, rfl, .inr (SqL.of hR), hr, okr ok, by omega, fun o1 H3 ap1 z3 ho1 pr1 => ?_⟩
  have eR3 := z3 _ _ hR
  have hr3 := RowsAt.same hr z3
  obtain ⟨q1, hq1, m1'⟩ := rows_cut hr3 none (some (-1))
  have lc1 := cutV_length xs none (some (-1))
  refine ⟨rfl, -1, rfl, RW, xs, rfl, SqL.of eR3, fun A hA => ?_⟩
  have zA : Same H3 (upd H3 A (.lst (cutV xs none (some (-1))))) := Same.put hA
  refine ⟨A, _, q1, rfl, .inr (SqL.of upd_same), RowsAt.same hq1 zA, fun q hq => okr ok _ (m1' _ hq), by omega, fun o2 H4 ap2 z4 ho2 pr2 => ?_⟩
  have z24 := (z3.trans zA).trans z4
  have eR4 := z24 _ _ hR
  refine ⟨rfl, xs, .inl (SqL.of eR4), p, _, rfl, b2.same z24, by omega, by omega, fun RO xo po H5 b5 f5 hRO eRO hro oko leno lmo => ?_⟩
  refine ⟨RO, xo, po, rfl, .inr (SqL.of eRO), hro, okr oko, by rw [hro.length]; omega, fun o3 H6 ap3 z6 ho3 pr3 => ⟨show 3 ≤ sizeLine by decide, fun PL hPL => ?_⟩⟩
  have zP := Same.put (o := .lst [V.ref o1, .ref o2, .ref o3]) hPL
  have k45 : KeepT H4 H5 := KeepT.but (b2.same z24) f5
  have k57 := KeepT.same (z6.trans zP)
  have k47 := k45.trans k57
  have k34 := KeepT.same (zA.trans z4)
  have w4 := w2.trans z24
  have w5 := f5.old w4 hp0
  have w7 := (w5.trans z6).trans zP
  have hPL0 : H0 PL = none := by
    cases e : H0 PL with
    | none => rfl
    | some o =>
      rw [(w5.trans z6) _ _ e] at hPL
      cases hPL
  have b7 := (b5.same z6).same zP
  have nPp : PL ≠ p := (b5.same z6).ne hPL
  have eR6 := z6 _ _ (f5 _ _ eR4 nRp)
  have nRP : RW ≠ PL := ne_of_none eR6 hPL
  have okq1 : ∀ q ∈ q1, pOk q.1 ∧ pOk q.2 := fun q hq => okr ok _ (m1' _ hq)
  have S : S4 K g p RW PL xs ps 3 H0 (upd H6 PL (.lst [V.ref o1, .ref o2, .ref o3])) := ⟨b7, zP _ _ eR6, (hr.keepT (KeepT.same z24)).keepT k47, ⟨[.ref o1, .ref o2, .ref o3], [norm ps, norm q1, norm po], upd_same,
    .cons (POk.keepT (k34.trans k47) ⟨o1, ap1, rfl, pr1, norm_pOk (okr ok)⟩) (.cons (POk.keepT k47 ⟨o2, ap2, rfl, pr2, norm_pOk okq1⟩) (.cons (POk.keepT (KeepT.same zP) ⟨o3, ap3, rfl, pr3, norm_pOk (okr oko)⟩) .nil)), rfl⟩, w7⟩
  show R_law_5 K g E D [some (.ref a), s1, some (.ref p), some (.ref RW), some (.ref PL), s5, s6, s7, s8, s9, s10, s11, s12] (upd H6 PL (.lst [V.ref o1, .ref o2, .ref o3]))
  generalize upd H6 PL (.lst [V.ref o1, .ref o2, .ref o3]) = H7 at S
  refine ⟨3, rfl, by decide, by decide, for_z (walk_range (lo := 0) (n := 3)) (fun i σ H' => (∃ s5 s6, σ = [some (.ref a), s1, some (.ref p), some (.ref RW), some (.ref PL), s5, s6, s7, s8, s9, s10, s11, s12]) ∧ S4 K g p RW PL xs ps (3 + i) H0 H') ⟨⟨_, _, rfl⟩, S⟩ (fun _ _ _ _ _ => trivial) (fun i x σ H8 H8' hi pv y => ?_) (fun σ H8 pv => ?_)⟩
  · obtain ⟨⟨s5, s6, rfl⟩, S8⟩ := pv
    obtain ⟨rfl, rfl⟩ := y
    obtain ⟨hb8, eR8, hr8, ⟨vs, Rs, eP, hP, lv⟩, sm8⟩ := S8
    refine ⟨xs, .inl (SqL.of eR8), p, _, rfl, hb8, by omega, by omega, fun r H9 r0 r1 b9 f9 => ?_⟩
    have k9 := KeepT.but hb8 f9
    exact law_turn T hp0 hPL0 nRp nPp nRP ok (by omega) (by omega) ⟨b9, f9 _ _ eR8 nRp, hr8.keepT k9, ⟨vs, Rs, f9 _ _ eP nPp, hP.keepT k9, lv⟩, f9.old sm8 hp0⟩ fun H' S' => ⟨⟨_, _, rfl⟩, S'⟩
  · obtain ⟨⟨s5, s6, rfl⟩, S8⟩ := pv
    refine law_wide T hp0 hPL0 nRp nPp nRP S8 fun H9 s7 S9 => ?_
    obtain ⟨hb9, eR9, hr9, ⟨vs, Rs, eP, hP, lv⟩, sm9⟩ := S9
    exact law_loop T eP hP lv fun H' _ _ _ _ _ z => fin _ _ _ _ _ _ _ _ _ _ _ (sm9.trans z)
def sp_law (K : PySem.W.Frag) (g : Ads) : Sp := spLaw K
theorem pf_law {K : PySem.W.Frag} {mg : Str → Option Value} {g : Ads} (T : Txt K mg g) (vs : List V) (H : Hp) (Q : VK) (E : XK) (h : sp_law K g vs H Q E) : rw_law K g vs H Q E := by
  obtain ⟨a, ns, rfl, hs, hn, q⟩ := h
  refine ⟨rfl, _, .inl hs, _, rfl, ?_, ?_, for_z walk_range (fun i σ H' => Same H H' ∧ ∃ b c d e f k l n o q r u, σ = [some (.ref a), b, c, d, e, f, k, l, n, o, q, r, u]) ⟨Same.refl H, _, _, _, _, _, _, _, _, _, _, _, _, rfl⟩ (fun _ _ _ _ _ => trivial) (fun i x σ H1 H1' hi ⟨s1, b, c, d, e, f, k, l, n, o, q, r, u, e1⟩ yy => ?_) (fun σ H1 _ => q H1)⟩
  · split <;> split <;> omega
  · rw [List.length_map]; split <;> split <;> omega
  obtain ⟨rfl, rfl⟩ := yy
  subst e1
  refine ⟨a, ns, _, rfl, s1.seq hs, hn, by omega, fun p H2 hp s2 hb => ?_⟩
  exact law_body T hp hb s2 fun H' _ _ _ _ _ _ _ _ _ _ z => ⟨s1.trans z, _, _, _, _, _, _, _, _, _, _, _, _, rfl⟩
theorem ok_law {P : Program} {w : World} {K : PySem.W.Frag} {mg : Str → Option Value} {base : Heap} {g : Ads} (T : Txt K mg g) : FnZ P w K mg base 7 g.f_law g.d_law ["script"] (spLaw K) := (raw_law T).imp (pf_law T)
end Z
namespace Z
open PySem PySem.Spec PyProof.Rows L2
theorem kt_of {K : PySem.W.Frag} {C : Addr} {T : String} (ht : PySem.W.typeIn K (.ref C) = some (.type "type")) (hm : PySem.W.mroIn K C (.type "object") = some true) (hs : PySem.W.subIn K (.type T) (.ref C) = some false) :
    PySem.W.kitOne K (.type T) (.ref C) = some false := by
  have hc : (PySem.W.clsIn K C).isSome = true := by
    unfold PySem.W.mroIn at hm
    cases e : PySem.W.clsIn K C with
    | none => rw [e] at hm; cases hm
    | some d => rfl
  have hn : ((Value.type T) == Value.ref C) = false := by
    rw [beq_eq_false_iff_ne]
    exact fun h => nomatch h
  unfold PySem.W.kitOne PySem.W.kitCls
  rw [hn]
  simp [hc, ht, hs]
theorem all_mk {P : Program} {w : World} {K : PySem.W.Frag} {h : Heap} {mg : Str → Option Value} {fa : Addr} (X : K.In h) (G : h.Ns mainGlobals mg) (hfa : mg "law" = some (.ref fa))
    {f_BadPair_init : Addr} {od_BadPair_init an_BadPair_init : Option Addr} {sl_BadPair_init : Array (Option Value)} {oc_BadPair_init kV_BadPair_init dc_BadPair_init pm_BadPair_init cd_BadPair_init ct_BadPair_init : Value}
    {f_is_int : Addr} {od_is_int an_is_int : Option Addr} {sl_is_int : Array (Option Value)} {oc_is_int kV_is_int dc_is_int pm_is_int cd_is_int ct_is_int : Value}
    {f_is_part : Addr} {od_is_part an_is_part : Option Addr} {sl_is_part : Array (Option Value)} {oc_is_part kV_is_part dc_is_part pm_is_part cd_is_part ct_is_part : Value}
    {f_is_pair_row : Addr} {od_is_pair_row an_is_pair_row : Option Addr} {sl_is_pair_row : Array (Option Value)} {oc_is_pair_row kV_is_pair_row dc_is_pair_row pm_is_pair_row cd_is_pair_row ct_is_pair_row : Value}
    {f_normal_rows : Addr} {od_normal_rows an_normal_rows : Option Addr} {sl_normal_rows : Array (Option Value)} {oc_normal_rows kV_normal_rows dc_normal_rows pm_normal_rows cd_normal_rows ct_normal_rows : Value}
    {f_are_alike_in_kind : Addr} {od_are_alike_in_kind an_are_alike_in_kind : Option Addr} {sl_are_alike_in_kind : Array (Option Value)} {oc_are_alike_in_kind kV_are_alike_in_kind dc_are_alike_in_kind pm_are_alike_in_kind cd_are_alike_in_kind ct_are_alike_in_kind : Value}
    {f_is_instance : Addr} {od_is_instance an_is_instance : Option Addr} {sl_is_instance : Array (Option Value)} {oc_is_instance kV_is_instance dc_is_instance pm_is_instance cd_is_instance ct_is_instance : Value}
    {f_rank_of : Addr} {od_rank_of an_rank_of : Option Addr} {sl_rank_of : Array (Option Value)} {oc_rank_of kV_rank_of dc_rank_of pm_rank_of cd_rank_of ct_rank_of : Value}
    {f_Pair_init : Addr} {od_Pair_init an_Pair_init : Option Addr} {sl_Pair_init : Array (Option Value)} {oc_Pair_init kV_Pair_init dc_Pair_init pm_Pair_init cd_Pair_init ct_Pair_init : Value}
    {f_Pair_made : Addr} {od_Pair_made an_Pair_made : Option Addr} {sl_Pair_made : Array (Option Value)} {oc_Pair_made kV_Pair_made dc_Pair_made pm_Pair_made cd_Pair_made ct_Pair_made : Value}
    {p_Pair_made : Addr} {rs_Pair_made : List Value}
    {f_Pair_rank : Addr} {od_Pair_rank an_Pair_rank : Option Addr} {sl_Pair_rank : Array (Option Value)} {oc_Pair_rank kV_Pair_rank dc_Pair_rank pm_Pair_rank cd_Pair_rank ct_Pair_rank : Value}
    {p_Pair_rank : Addr} {rs_Pair_rank : List Value}
    {f_Pair_eq : Addr} {od_Pair_eq an_Pair_eq : Option Addr} {sl_Pair_eq : Array (Option Value)} {oc_Pair_eq kV_Pair_eq dc_Pair_eq pm_Pair_eq cd_Pair_eq ct_Pair_eq : Value}
    {f_Pair_contains : Addr} {od_Pair_contains an_Pair_contains : Option Addr} {sl_Pair_contains : Array (Option Value)} {oc_Pair_contains kV_Pair_contains dc_Pair_contains pm_Pair_contains cd_Pair_contains ct_Pair_contains : Value}
    {f_law_digits : Addr} {od_law_digits an_law_digits : Option Addr} {sl_law_digits : Array (Option Value)} {oc_law_digits kV_law_digits dc_law_digits pm_law_digits cd_law_digits ct_law_digits : Value}
    {f_law_take : Addr} {od_law_take an_law_take : Option Addr} {sl_law_take : Array (Option Value)} {oc_law_take kV_law_take dc_law_take pm_law_take cd_law_take ct_law_take : Value}
    {f_law_number : Addr} {od_law_number an_law_number : Option Addr} {sl_law_number : Array (Option Value)} {oc_law_number kV_law_number dc_law_number pm_law_number cd_law_number ct_law_number : Value}
    {f_law_drawn : Addr} {od_law_drawn an_law_drawn : Option Addr} {sl_law_drawn : Array (Option Value)} {oc_law_drawn kV_law_drawn dc_law_drawn pm_law_drawn cd_law_drawn ct_law_drawn : Value}
    {f_law_before : Addr} {od_law_before an_law_before : Option Addr} {sl_law_before : Array (Option Value)} {oc_law_before kV_law_before dc_law_before pm_law_before cd_law_before ct_law_before : Value}
    {f_law_is_less : Addr} {od_law_is_less an_law_is_less : Option Addr} {sl_law_is_less : Array (Option Value)} {oc_law_is_less kV_law_is_less dc_law_is_less pm_law_is_less cd_law_is_less ct_law_is_less : Value}
    {f_law : Addr} {od_law an_law : Option Addr} {sl_law : Array (Option Value)} {oc_law kV_law dc_law pm_law cd_law ct_law : Value}
    {c_BadPair : Addr}
    {nm_BadPair q_BadPair : Str} {N_BadPair : Addr} {bs_BadPair : List Value} {sn_BadPair : List Str} {sub_BadPair : List Value} {ab_BadPair : Bool} {col_BadPair : Option Bool} {dd_BadPair : Option Addr} {m0_BadPair m1_BadPair m2_BadPair m3_BadPair m5_BadPair : Option Value}
    {c_Pair : Addr}
    {tk_BEYOND : Tok}
    (a_BadPair_init : PySem.W.findIn K (.ref c_BadPair) "__init__" = some (some (.ref f_BadPair_init)))
    (t_BadPair_init : PySem.W.typeIn K (.ref f_BadPair_init) = some (.type "function"))
    (l_BadPair_init : K.lookup f_BadPair_init = some ⟨oc_BadPair_init, od_BadPair_init, .func (PySem.W.fnOf "__init__" "BadPair.__init__" (defArgs s_BadPair_init) (defBody s_BadPair_init) (defScope s_BadPair_init) .none kV_BadPair_init dc_BadPair_init pm_BadPair_init an_BadPair_init cd_BadPair_init ct_BadPair_init), sl_BadPair_init⟩)
    (cc_BadPair_init : PySem.W.codeIn K cd_BadPair_init "BadPair.__init__" = true)
    (k_BadPair_init : PySem.W.keepIn K (.ref f_BadPair_init) = true)
    (a_is_int : PySem.W.nsIn K mainGlobals "is_int" = some (some (.ref f_is_int)))
    (l_is_int : K.lookup f_is_int = some ⟨oc_is_int, od_is_int, .func (PySem.W.fnOf "is_int" "is_int" (defArgs s_is_int) (defBody s_is_int) (defScope s_is_int) .none kV_is_int dc_is_int pm_is_int an_is_int cd_is_int ct_is_int), sl_is_int⟩)
    (cc_is_int : PySem.W.codeIn K cd_is_int "is_int" = true)
    (k_is_int : PySem.W.keepIn K (.ref f_is_int) = true)
    (a_is_part : PySem.W.nsIn K mainGlobals "is_part" = some (some (.ref f_is_part)))
    (l_is_part : K.lookup f_is_part = some ⟨oc_is_part, od_is_part, .func (PySem.W.fnOf "is_part" "is_part" (defArgs s_is_part) (defBody s_is_part) (defScope s_is_part) .none kV_is_part dc_is_part pm_is_part an_is_part cd_is_part ct_is_part), sl_is_part⟩)
    (cc_is_part : PySem.W.codeIn K cd_is_part "is_part" = true)
    (k_is_part : PySem.W.keepIn K (.ref f_is_part) = true)
    (a_is_pair_row : PySem.W.nsIn K mainGlobals "is_pair_row" = some (some (.ref f_is_pair_row)))
    (l_is_pair_row : K.lookup f_is_pair_row = some ⟨oc_is_pair_row, od_is_pair_row, .func (PySem.W.fnOf "is_pair_row" "is_pair_row" (defArgs s_is_pair_row) (defBody s_is_pair_row) (defScope s_is_pair_row) .none kV_is_pair_row dc_is_pair_row pm_is_pair_row an_is_pair_row cd_is_pair_row ct_is_pair_row), sl_is_pair_row⟩)
    (cc_is_pair_row : PySem.W.codeIn K cd_is_pair_row "is_pair_row" = true)
    (k_is_pair_row : PySem.W.keepIn K (.ref f_is_pair_row) = true)
    (a_normal_rows : PySem.W.nsIn K mainGlobals "normal_rows" = some (some (.ref f_normal_rows)))
    (l_normal_rows : K.lookup f_normal_rows = some ⟨oc_normal_rows, od_normal_rows, .func (PySem.W.fnOf "normal_rows" "normal_rows" (defArgs s_normal_rows) (defBody s_normal_rows) (defScope s_normal_rows) .none kV_normal_rows dc_normal_rows pm_normal_rows an_normal_rows cd_normal_rows ct_normal_rows), sl_normal_rows⟩)
    (cc_normal_rows : PySem.W.codeIn K cd_normal_rows "normal_rows" = true)
    (k_normal_rows : PySem.W.keepIn K (.ref f_normal_rows) = true)
    (a_are_alike_in_kind : PySem.W.nsIn K mainGlobals "are_alike_in_kind" = some (some (.ref f_are_alike_in_kind)))
    (l_are_alike_in_kind : K.lookup f_are_alike_in_kind = some ⟨oc_are_alike_in_kind, od_are_alike_in_kind, .func (PySem.W.fnOf "are_alike_in_kind" "are_alike_in_kind" (defArgs s_are_alike_in_kind) (defBody s_are_alike_in_kind) (defScope s_are_alike_in_kind) .none kV_are_alike_in_kind dc_are_alike_in_kind pm_are_alike_in_kind an_are_alike_in_kind cd_are_alike_in_kind ct_are_alike_in_kind), sl_are_alike_in_kind⟩)
    (cc_are_alike_in_kind : PySem.W.codeIn K cd_are_alike_in_kind "are_alike_in_kind" = true)
    (k_are_alike_in_kind : PySem.W.keepIn K (.ref f_are_alike_in_kind) = true)
    (a_is_instance : PySem.W.nsIn K mainGlobals "is_instance" = some (some (.ref f_is_instance)))
    (l_is_instance : K.lookup f_is_instance = some ⟨oc_is_instance, od_is_instance, .func (PySem.W.fnOf "is_instance" "is_instance" (defArgs s_is_instance) (defBody s_is_instance) (defScope s_is_instance) .none kV_is_instance dc_is_instance pm_is_instance an_is_instance cd_is_instance ct_is_instance), sl_is_instance⟩)
    (cc_is_instance : PySem.W.codeIn K cd_is_instance "is_instance" = true)
    (k_is_instance : PySem.W.keepIn K (.ref f_is_instance) = true)
    (a_rank_of : PySem.W.nsIn K mainGlobals "rank_of" = some (some (.ref f_rank_of)))
    (l_rank_of : K.lookup f_rank_of = some ⟨oc_rank_of, od_rank_of, .func (PySem.W.fnOf "rank_of" "rank_of" (defArgs s_rank_of) (defBody s_rank_of) (defScope s_rank_of) .none kV_rank_of dc_rank_of pm_rank_of an_rank_of cd_rank_of ct_rank_of), sl_rank_of⟩)
    (cc_rank_of : PySem.W.codeIn K cd_rank_of "rank_of" = true)
    (k_rank_of : PySem.W.keepIn K (.ref f_rank_of) = true)
    (a_Pair_init : PySem.W.findIn K (.ref c_Pair) "__init__" = some (some (.ref f_Pair_init)))
    (i_Pair_init : PySem.W.isFn K (.ref f_Pair_init) = true)
    (l_Pair_init : K.lookup f_Pair_init = some ⟨oc_Pair_init, od_Pair_init, .func (PySem.W.fnOf "__init__" "Pair.__init__" (defArgs s_Pair_init) (defBody s_Pair_init) (defScope s_Pair_init) .none kV_Pair_init dc_Pair_init pm_Pair_init an_Pair_init cd_Pair_init ct_Pair_init), sl_Pair_init⟩)
    (cc_Pair_init : PySem.W.codeIn K cd_Pair_init "Pair.__init__" = true)
    (k_Pair_init : PySem.W.keepIn K (.ref f_Pair_init) = true)
    (at_Pair_made : PySem.W.findCls K (.ref c_Pair) (.type "type") "made" = some (.get (.builtin "classmethod.__get__") (.ref p_Pair_made) .none (.ref c_Pair)))
    (rc_Pair_made : PySem.W.recIn K p_Pair_made "classmethod" = some (.ref f_Pair_made :: rs_Pair_made))
    (fi_Pair_made : PySem.W.fnIn K f_Pair_made = true)
    (l_Pair_made : K.lookup f_Pair_made = some ⟨oc_Pair_made, od_Pair_made, .func (PySem.W.fnOf "made" "Pair.made" (defArgs s_Pair_made) (defBody s_Pair_made) (defScope s_Pair_made) .none kV_Pair_made dc_Pair_made pm_Pair_made an_Pair_made cd_Pair_made ct_Pair_made), sl_Pair_made⟩)
    (cc_Pair_made : PySem.W.codeIn K cd_Pair_made "Pair.made" = true)
    (k_Pair_made : PySem.W.keepIn K (.ref f_Pair_made) = true)
    (at_Pair_rank : PySem.W.findCls K (.ref c_Pair) (.type "type") "rank" = some (.get (.builtin "staticmethod.__get__") (.ref p_Pair_rank) .none (.ref c_Pair)))
    (rc_Pair_rank : PySem.W.recIn K p_Pair_rank "staticmethod" = some (.ref f_Pair_rank :: rs_Pair_rank))
    (l_Pair_rank : K.lookup f_Pair_rank = some ⟨oc_Pair_rank, od_Pair_rank, .func (PySem.W.fnOf "rank" "Pair.rank" (defArgs s_Pair_rank) (defBody s_Pair_rank) (defScope s_Pair_rank) .none kV_Pair_rank dc_Pair_rank pm_Pair_rank an_Pair_rank cd_Pair_rank ct_Pair_rank), sl_Pair_rank⟩)
    (cc_Pair_rank : PySem.W.codeIn K cd_Pair_rank "Pair.rank" = true)
    (k_Pair_rank : PySem.W.keepIn K (.ref f_Pair_rank) = true)
    (a_Pair_eq : PySem.W.findIn K (.ref c_Pair) "__eq__" = some (some (.ref f_Pair_eq)))
    (i_Pair_eq : PySem.W.isFn K (.ref f_Pair_eq) = true)
    (l_Pair_eq : K.lookup f_Pair_eq = some ⟨oc_Pair_eq, od_Pair_eq, .func (PySem.W.fnOf "__eq__" "Pair.__eq__" (defArgs s_Pair_eq) (defBody s_Pair_eq) (defScope s_Pair_eq) .none kV_Pair_eq dc_Pair_eq pm_Pair_eq an_Pair_eq cd_Pair_eq ct_Pair_eq), sl_Pair_eq⟩)
    (cc_Pair_eq : PySem.W.codeIn K cd_Pair_eq "Pair.__eq__" = true)
    (k_Pair_eq : PySem.W.keepIn K (.ref f_Pair_eq) = true)
    (a_Pair_contains : PySem.W.findIn K (.ref c_Pair) "__contains__" = some (some (.ref f_Pair_contains)))
    (i_Pair_contains : PySem.W.isFn K (.ref f_Pair_contains) = true)
    (l_Pair_contains : K.lookup f_Pair_contains = some ⟨oc_Pair_contains, od_Pair_contains, .func (PySem.W.fnOf "__contains__" "Pair.__contains__" (defArgs s_Pair_contains) (defBody s_Pair_contains) (defScope s_Pair_contains) .none kV_Pair_contains dc_Pair_contains pm_Pair_contains an_Pair_contains cd_Pair_contains ct_Pair_contains), sl_Pair_contains⟩)
    (cc_Pair_contains : PySem.W.codeIn K cd_Pair_contains "Pair.__contains__" = true)
    (k_Pair_contains : PySem.W.keepIn K (.ref f_Pair_contains) = true)
    (a_law_digits : PySem.W.nsIn K mainGlobals "_law_digits" = some (some (.ref f_law_digits)))
    (l_law_digits : K.lookup f_law_digits = some ⟨oc_law_digits, od_law_digits, .func (PySem.W.fnOf "_law_digits" "_law_digits" (defArgs s_law_digits) (defBody s_law_digits) (defScope s_law_digits) .none kV_law_digits dc_law_digits pm_law_digits an_law_digits cd_law_digits ct_law_digits), sl_law_digits⟩)
    (cc_law_digits : PySem.W.codeIn K cd_law_digits "_law_digits" = true)
    (k_law_digits : PySem.W.keepIn K (.ref f_law_digits) = true)
    (a_law_take : PySem.W.nsIn K mainGlobals "_law_take" = some (some (.ref f_law_take)))
    (l_law_take : K.lookup f_law_take = some ⟨oc_law_take, od_law_take, .func (PySem.W.fnOf "_law_take" "_law_take" (defArgs s_law_take) (defBody s_law_take) (defScope s_law_take) .none kV_law_take dc_law_take pm_law_take an_law_take cd_law_take ct_law_take), sl_law_take⟩)
    (cc_law_take : PySem.W.codeIn K cd_law_take "_law_take" = true)
    (k_law_take : PySem.W.keepIn K (.ref f_law_take) = true)
    (a_law_number : PySem.W.nsIn K mainGlobals "_law_number" = some (some (.ref f_law_number)))
    (l_law_number : K.lookup f_law_number = some ⟨oc_law_number, od_law_number, .func (PySem.W.fnOf "_law_number" "_law_number" (defArgs s_law_number) (defBody s_law_number) (defScope s_law_number) .none kV_law_number dc_law_number pm_law_number an_law_number cd_law_number ct_law_number), sl_law_number⟩)
    (cc_law_number : PySem.W.codeIn K cd_law_number "_law_number" = true)
    (k_law_number : PySem.W.keepIn K (.ref f_law_number) = true)
    (a_law_drawn : PySem.W.nsIn K mainGlobals "_law_drawn" = some (some (.ref f_law_drawn)))
    (l_law_drawn : K.lookup f_law_drawn = some ⟨oc_law_drawn, od_law_drawn, .func (PySem.W.fnOf "_law_drawn" "_law_drawn" (defArgs s_law_drawn) (defBody s_law_drawn) (defScope s_law_drawn) .none kV_law_drawn dc_law_drawn pm_law_drawn an_law_drawn cd_law_drawn ct_law_drawn), sl_law_drawn⟩)
    (cc_law_drawn : PySem.W.codeIn K cd_law_drawn "_law_drawn" = true)
    (k_law_drawn : PySem.W.keepIn K (.ref f_law_drawn) = true)
    (a_law_before : PySem.W.nsIn K mainGlobals "_law_before" = some (some (.ref f_law_before)))
    (l_law_before : K.lookup f_law_before = some ⟨oc_law_before, od_law_before, .func (PySem.W.fnOf "_law_before" "_law_before" (defArgs s_law_before) (defBody s_law_before) (defScope s_law_before) .none kV_law_before dc_law_before pm_law_before an_law_before cd_law_before ct_law_before), sl_law_before⟩)
    (cc_law_before : PySem.W.codeIn K cd_law_before "_law_before" = true)
    (k_law_before : PySem.W.keepIn K (.ref f_law_before) = true)
    (a_law_is_less : PySem.W.nsIn K mainGlobals "_law_is_less" = some (some (.ref f_law_is_less)))
    (l_law_is_less : K.lookup f_law_is_less = some ⟨oc_law_is_less, od_law_is_less, .func (PySem.W.fnOf "_law_is_less" "_law_is_less" (defArgs s_law_is_less) (defBody s_law_is_less) (defScope s_law_is_less) .none kV_law_is_less dc_law_is_less pm_law_is_less an_law_is_less cd_law_is_less ct_law_is_less), sl_law_is_less⟩)
    (cc_law_is_less : PySem.W.codeIn K cd_law_is_less "_law_is_less" = true)
    (k_law_is_less : PySem.W.keepIn K (.ref f_law_is_less) = true)
    (a_law : PySem.W.nsIn K mainGlobals "law" = some (some (.ref f_law)))
    (l_law : K.lookup f_law = some ⟨oc_law, od_law, .func (PySem.W.fnOf "law" "law" (defArgs s_law) (defBody s_law) (defScope s_law) .none kV_law dc_law pm_law an_law cd_law ct_law), sl_law⟩)
    (cc_law : PySem.W.codeIn K cd_law "law" = true)
    (k_law : PySem.W.keepIn K (.ref f_law) = true)
    (n_BadPair : PySem.W.nsIn K mainGlobals "BadPair" = some (some (.ref c_BadPair)))
    (x_BadPair : K.lookup c_BadPair = some (excClassObj nm_BadPair q_BadPair c_BadPair N_BadPair bs_BadPair [.type "ValueError", .type "Exception", .type "BaseException", .type "object"] true sn_BadPair sub_BadPair ab_BadPair col_BadPair dd_BadPair m0_BadPair m1_BadPair m2_BadPair m3_BadPair m5_BadPair "ValueError.__new__"))
    (sa_BadPair : PySem.W.findIn K (.ref c_BadPair) "__setattr__" = some (some (.builtin "object.__setattr__")))
    (ga_BadPair : PySem.W.findIn K (.ref c_BadPair) "__getattribute__" = some (some (.builtin "BaseException.__getattribute__")))
    (gg_BadPair : PySem.W.findIn K (.ref c_BadPair) "__getattr__" = some none)
    (eC_BadPair : PySem.W.subIn K (.ref c_BadPair) (.type "BaseException") = some true)
    (tC_BadPair : PySem.W.typeIn K (.ref c_BadPair) = some (.type "type"))
    (kC_BadPair : PySem.W.keepIn K (.ref c_BadPair) = true)
    (hC_BadPair : PySem.W.hasDictIn K c_BadPair = true)
    (iC_BadPair : PySem.W.isClsIn K c_BadPair = true)
    (sC_BadPair : PySem.W.subIn K (.ref c_BadPair) (.ref c_BadPair) = some true)
    (z_BadPair_index : PySem.W.findIn K (.ref c_BadPair) "index" = some none)
    (n_Pair : PySem.W.nsIn K mainGlobals "Pair" = some (some (.ref c_Pair)))
    (pg_Pair : PySem.W.plainGet K c_Pair Str.empty = true)
    (hd_Pair : PySem.W.hasDictIn K c_Pair = true)
    (po_Pair : PySem.W.plainOver K c_Pair = true)
    (sa_Pair : PySem.W.findIn K (.ref c_Pair) "__setattr__" = some (some (.builtin "object.__setattr__")))
    (ha_Pair : PySem.W.findIn K (.ref c_Pair) "__class__" = some (some (.builtin "object.__class__")))
    (hn_Pair : PySem.W.specialIn K (.builtin "object.__class__") "__get__" = some (some (.builtin "getset_descriptor.__get__")))
    (ht_Pair : PySem.W.takesIn K (.builtin "object.__class__") = some true)
    (hm_Pair : PySem.W.mroIn K c_Pair (.type "object") = some true)
    (ty_Pair : PySem.W.typeIn K (.ref c_Pair) = some (.type "type"))
    (ns_Pair_NoneType : PySem.W.subIn K (.ref c_Pair) (.type "NoneType") = some false)
    (kt_Pair_NoneType : PySem.W.subIn K (.type "NoneType") (.ref c_Pair) = some false)
    (ns_Pair_str : PySem.W.subIn K (.ref c_Pair) (.type "str") = some false)
    (kt_Pair_str : PySem.W.subIn K (.type "str") (.ref c_Pair) = some false)
    (ns_Pair_list : PySem.W.subIn K (.ref c_Pair) (.type "list") = some false)
    (kt_Pair_list : PySem.W.subIn K (.type "list") (.ref c_Pair) = some false)
    (ns_Pair_tuple : PySem.W.subIn K (.ref c_Pair) (.type "tuple") = some false)
    (kt_Pair_tuple : PySem.W.subIn K (.type "tuple") (.ref c_Pair) = some false)
    (na_Pair_rows : PySem.W.findIn K (.ref c_Pair) "rows" = some none)
    (na_Pair_apart : PySem.W.findIn K (.ref c_Pair) "apart" = some none)
    (mk_Pair : PySem.W.makesIn K c_Pair = true)
    (kc_Pair : PySem.W.keepIn K (.ref c_Pair) = true)
    (rd_Pair : PySem.W.readsIn K c_Pair (.type "type") = true)
    (gq_Pair : PySem.W.specialIn K (.ref c_Pair) "__getattribute__" = some (some (.builtin "type.__getattribute__")))
    (n_BEYOND : PySem.W.nsIn K mainGlobals "BEYOND" = some (some (.int 100000000000000000000 tk_BEYOND)))
    (b_abs : PySem.W.nsIn K mainGlobals "abs" = some none)
    (b_bool : PySem.W.nsIn K mainGlobals "bool" = some none)
    (b_enumerate : PySem.W.nsIn K mainGlobals "enumerate" = some none)
    (b_int : PySem.W.nsIn K mainGlobals "int" = some none)
    (b_isinstance : PySem.W.nsIn K mainGlobals "isinstance" = some none)
    (b_len : PySem.W.nsIn K mainGlobals "len" = some none)
    (b_list : PySem.W.nsIn K mainGlobals "list" = some none)
    (b_max : PySem.W.nsIn K mainGlobals "max" = some none)
    (b_min : PySem.W.nsIn K mainGlobals "min" = some none)
    (b_range : PySem.W.nsIn K mainGlobals "range" = some none)
    (b_sorted : PySem.W.nsIn K mainGlobals "sorted" = some none)
    (b_str : PySem.W.nsIn K mainGlobals "str" = some none)
    (b_tuple : PySem.W.nsIn K mainGlobals "tuple" = some none)
    (b_zip : PySem.W.nsIn K mainGlobals "zip" = some none) :
    ∃ fd : FuncData, (∀ (s : Shared) (u : Value), BindsTo s fd ⟨[u], []⟩ [("script", u)]) ∧ ∀ base : Heap, K.In base → base.Ns mainGlobals mg → FnZ P w K mg base 7 fa fd ["script"] (spLaw K) := by
  have e := hfa.symm.trans (PySem.W.mg_of X G a_law)
  cases e
  have T : Txt K mg ⟨f_BadPair_init, _, f_is_int, _, f_is_part, _, f_is_pair_row, _, f_normal_rows, _, f_are_alike_in_kind, _, f_is_instance, _, f_rank_of, _, f_Pair_init, _, f_Pair_made, _, f_Pair_rank, _, f_Pair_eq, _, f_Pair_contains, _, f_law_digits, _, f_law_take, _, f_law_number, _, f_law_drawn, _, f_law_before, _, f_law_is_less, _, _, _, c_BadPair, c_Pair, p_Pair_made, p_Pair_rank⟩ := {
    f_BadPair_init := fun_mk (st := s_BadPair_init) l_BadPair_init cc_BadPair_init k_BadPair_init,
    e_BadPair_init := (fun_mk (st := s_BadPair_init) l_BadPair_init cc_BadPair_init k_BadPair_init).binds (ps := ["self", "index"]) fun _ _ _ _ _ _ us hl => match us, hl with | [_, _], _ => rfl,
    f_is_int := fun_mk (st := s_is_int) l_is_int cc_is_int k_is_int,
    e_is_int := (fun_mk (st := s_is_int) l_is_int cc_is_int k_is_int).binds (ps := ["thing"]) fun _ _ _ _ _ _ us hl => match us, hl with | [_], _ => rfl,
    g_is_int := PySem.W.mg_of X G a_is_int,
    k_is_int := k_is_int,
    f_is_part := fun_mk (st := s_is_part) l_is_part cc_is_part k_is_part,
    e_is_part := (fun_mk (st := s_is_part) l_is_part cc_is_part k_is_part).binds (ps := ["thing"]) fun _ _ _ _ _ _ us hl => match us, hl with | [_], _ => rfl,
    g_is_part := PySem.W.mg_of X G a_is_part,
    k_is_part := k_is_part,
    f_is_pair_row := fun_mk (st := s_is_pair_row) l_is_pair_row cc_is_pair_row k_is_pair_row,
    e_is_pair_row := (fun_mk (st := s_is_pair_row) l_is_pair_row cc_is_pair_row k_is_pair_row).binds (ps := ["thing"]) fun _ _ _ _ _ _ us hl => match us, hl with | [_], _ => rfl,
    g_is_pair_row := PySem.W.mg_of X G a_is_pair_row,
    k_is_pair_row := k_is_pair_row,
    f_normal_rows := fun_mk (st := s_normal_rows) l_normal_rows cc_normal_rows k_normal_rows,
    e_normal_rows := (fun_mk (st := s_normal_rows) l_normal_rows cc_normal_rows k_normal_rows).binds (ps := ["rows"]) fun _ _ _ _ _ _ us hl => match us, hl with | [_], _ => rfl,
    g_normal_rows := PySem.W.mg_of X G a_normal_rows,
    k_normal_rows := k_normal_rows,
    f_are_alike_in_kind := fun_mk (st := s_are_alike_in_kind) l_are_alike_in_kind cc_are_alike_in_kind k_are_alike_in_kind,
    e_are_alike_in_kind := (fun_mk (st := s_are_alike_in_kind) l_are_alike_in_kind cc_are_alike_in_kind k_are_alike_in_kind).binds (ps := ["wide", "given"]) fun _ _ _ _ _ _ us hl => match us, hl with | [_, _], _ => rfl,
    g_are_alike_in_kind := PySem.W.mg_of X G a_are_alike_in_kind,
    k_are_alike_in_kind := k_are_alike_in_kind,
    f_is_instance := fun_mk (st := s_is_instance) l_is_instance cc_is_instance k_is_instance,
    e_is_instance := (fun_mk (st := s_is_instance) l_is_instance cc_is_instance k_is_instance).binds (ps := ["wide", "rows"]) fun _ _ _ _ _ _ us hl => match us, hl with | [_, _], _ => rfl,
    g_is_instance := PySem.W.mg_of X G a_is_instance,
    k_is_instance := k_is_instance,
    f_rank_of := fun_mk (st := s_rank_of) l_rank_of cc_rank_of k_rank_of,
    e_rank_of := (fun_mk (st := s_rank_of) l_rank_of cc_rank_of k_rank_of).binds (ps := ["part"]) fun _ _ _ _ _ _ us hl => match us, hl with | [_], _ => rfl,
    g_rank_of := PySem.W.mg_of X G a_rank_of,
    k_rank_of := k_rank_of,
    f_Pair_init := fun_mk (st := s_Pair_init) l_Pair_init cc_Pair_init k_Pair_init,
    f_Pair_made := fun_mk (st := s_Pair_made) l_Pair_made cc_Pair_made k_Pair_made,
    e_Pair_made := (fun_mk (st := s_Pair_made) l_Pair_made cc_Pair_made k_Pair_made).binds (ps := ["cls", "rows"]) fun _ _ _ _ _ _ us hl => match us, hl with | [_, _], _ => rfl,
    f_Pair_rank := fun_mk (st := s_Pair_rank) l_Pair_rank cc_Pair_rank k_Pair_rank,
    e_Pair_rank := (fun_mk (st := s_Pair_rank) l_Pair_rank cc_Pair_rank k_Pair_rank).binds (ps := ["pair"]) fun _ _ _ _ _ _ us hl => match us, hl with | [_], _ => rfl,
    f_Pair_eq := fun_mk (st := s_Pair_eq) l_Pair_eq cc_Pair_eq k_Pair_eq,
    e_Pair_eq := (fun_mk (st := s_Pair_eq) l_Pair_eq cc_Pair_eq k_Pair_eq).binds (ps := ["self", "other"]) fun _ _ _ _ _ _ us hl => match us, hl with | [_, _], _ => rfl,
    f_Pair_contains := fun_mk (st := s_Pair_contains) l_Pair_contains cc_Pair_contains k_Pair_contains,
    e_Pair_contains := (fun_mk (st := s_Pair_contains) l_Pair_contains cc_Pair_contains k_Pair_contains).binds (ps := ["self", "other"]) fun _ _ _ _ _ _ us hl => match us, hl with | [_, _], _ => rfl,
    f_law_digits := fun_mk (st := s_law_digits) l_law_digits cc_law_digits k_law_digits,
    e_law_digits := (fun_mk (st := s_law_digits) l_law_digits cc_law_digits k_law_digits).binds (ps := ["script", "at"]) fun _ _ _ _ _ _ us hl => match us, hl with | [_, _], _ => rfl,
    g_law_digits := PySem.W.mg_of X G a_law_digits,
    k_law_digits := k_law_digits,
    f_law_take := fun_mk (st := s_law_take) l_law_take cc_law_take k_law_take,
    e_law_take := (fun_mk (st := s_law_take) l_law_take cc_law_take k_law_take).binds (ps := ["bag", "many"]) fun _ _ _ _ _ _ us hl => match us, hl with | [_, _], _ => rfl,
    g_law_take := PySem.W.mg_of X G a_law_take,
    k_law_take := k_law_take,
    f_law_number := fun_mk (st := s_law_number) l_law_number cc_law_number k_law_number,
    e_law_number := (fun_mk (st := s_law_number) l_law_number cc_law_number k_law_number).binds (ps := ["bag"]) fun _ _ _ _ _ _ us hl => match us, hl with | [_], _ => rfl,
    g_law_number := PySem.W.mg_of X G a_law_number,
    k_law_number := k_law_number,
    f_law_drawn := fun_mk (st := s_law_drawn) l_law_drawn cc_law_drawn k_law_drawn,
    e_law_drawn := (fun_mk (st := s_law_drawn) l_law_drawn cc_law_drawn k_law_drawn).binds (ps := ["bag", "many"]) fun _ _ _ _ _ _ us hl => match us, hl with | [_, _], _ => rfl,
    g_law_drawn := PySem.W.mg_of X G a_law_drawn,
    k_law_drawn := k_law_drawn,
    f_law_before := fun_mk (st := s_law_before) l_law_before cc_law_before k_law_before,
    e_law_before := (fun_mk (st := s_law_before) l_law_before cc_law_before k_law_before).binds (ps := ["one", "other"]) fun _ _ _ _ _ _ us hl => match us, hl with | [_, _], _ => rfl,
    g_law_before := PySem.W.mg_of X G a_law_before,
    k_law_before := k_law_before,
    f_law_is_less := fun_mk (st := s_law_is_less) l_law_is_less cc_law_is_less k_law_is_less,
    e_law_is_less := (fun_mk (st := s_law_is_less) l_law_is_less cc_law_is_less k_law_is_less).binds (ps := ["one", "other"]) fun _ _ _ _ _ _ us hl => match us, hl with | [_, _], _ => rfl,
    g_law_is_less := PySem.W.mg_of X G a_law_is_less,
    k_law_is_less := k_law_is_less,
    f_law := fun_mk (st := s_law) l_law cc_law k_law,
    e_law := (fun_mk (st := s_law) l_law cc_law k_law).binds (ps := ["script"]) fun _ _ _ _ _ _ us hl => match us, hl with | [_], _ => rfl,
    g_law := PySem.W.mg_of X G a_law,
    k_law := k_law,
    g_BadPair := PySem.W.mg_of X G n_BadPair,
    o_BadPair := ⟨⟨_, _, _, _, _, _, _, _, _, _, _, _, _, _, _, x_BadPair, by decide +kernel⟩, sa_BadPair, eC_BadPair, tC_BadPair, kC_BadPair⟩,
    x_BadPair := ⟨ga_BadPair, gg_BadPair, eC_BadPair, hC_BadPair⟩,
    h_BadPair := exm_own eC_BadPair iC_BadPair tC_BadPair sC_BadPair,
    i_BadPair := a_BadPair_init,
    t_BadPair := t_BadPair_init,
    a_BadPair_index := z_BadPair_index,
    g_Pair := PySem.W.mg_of X G n_Pair,
    cl_Pair := ⟨pg_Pair, hd_Pair, po_Pair, sa_Pair⟩,
    ci_Pair := ⟨⟨pg_Pair, hd_Pair, po_Pair, sa_Pair⟩, ha_Pair, hn_Pair, ht_Pair, hm_Pair⟩,
    kt_Pair_NoneType := kt_of ty_Pair hm_Pair kt_Pair_NoneType,
    kt_Pair_str := kt_of ty_Pair hm_Pair kt_Pair_str,
    kt_Pair_list := kt_of ty_Pair hm_Pair kt_Pair_list,
    kt_Pair_tuple := kt_of ty_Pair hm_Pair kt_Pair_tuple,
    ne_Pair := ⟨ns_Pair_NoneType, ns_Pair_str, ns_Pair_list, ns_Pair_tuple, a_Pair_eq, i_Pair_eq⟩,
    na_Pair_rows := na_Pair_rows,
    na_Pair_apart := na_Pair_apart,
    m_Pair := ⟨mk_Pair, a_Pair_init, i_Pair_init, kc_Pair⟩,
    cm_Pair_made := ⟨at_Pair_made, ⟨_, rc_Pair_made⟩, fi_Pair_made⟩,
    sm_Pair_rank := ⟨at_Pair_rank, ⟨_, rc_Pair_rank⟩, k_Pair_rank⟩,
    a_Pair_eq := a_Pair_eq,
    i_Pair_eq := i_Pair_eq,
    a_Pair_contains := a_Pair_contains,
    i_Pair_contains := i_Pair_contains,
    cr_Pair := ⟨rd_Pair, gq_Pair⟩,
    n_BEYOND := ⟨_, PySem.W.mg_of X G n_BEYOND⟩,
    b_abs := PySem.W.mg_none_of X G b_abs,
    b_bool := PySem.W.mg_none_of X G b_bool,
    b_enumerate := PySem.W.mg_none_of X G b_enumerate,
    b_int := PySem.W.mg_none_of X G b_int,
    b_isinstance := PySem.W.mg_none_of X G b_isinstance,
    b_len := PySem.W.mg_none_of X G b_len,
    b_list := PySem.W.mg_none_of X G b_list,
    b_max := PySem.W.mg_none_of X G b_max,
    b_min := PySem.W.mg_none_of X G b_min,
    b_range := PySem.W.mg_none_of X G b_range,
    b_sorted := PySem.W.mg_none_of X G b_sorted,
    b_str := PySem.W.mg_none_of X G b_str,
    b_tuple := PySem.W.mg_none_of X G b_tuple,
    b_zip := PySem.W.mg_none_of X G b_zip }
  exact ⟨_, fun _ _ => .of_eq rfl, fun base _ _ => ok_law T⟩
end Z
open PySem PySem.W PyProof.Rows
set_option maxRecDepth 100000 in
set_option maxHeartbeats 0 in
theorem PySem.Challenge.cw_falsedefaults_k43_pairs_in_order_holds : PySem.Challenge.rw_falsedefaults_k43_pairs_in_order.Holds := by
  w_on; o_law; k_head; (case hw => w_witness2)
  k_fill
  refine Z.law_walk (l := PySem.Challenge.rw_falsedefaults_k43_pairs_in_order) (k := 7) rfl rfl ⟨rfl, by decide, by decide⟩ (fun w h Y => PySem.W.kIn_of Y) ?F
  case F =>
    intro w mg fa h KX G hmg
    refine' Z.all_mk KX G hmg ?a_BadPair_init ?t_BadPair_init ?l_BadPair_init ?cc_BadPair_init ?k_BadPair_init ?a_is_int ?l_is_int ?cc_is_int ?k_is_int ?a_is_part ?l_is_part ?cc_is_part ?k_is_part ?a_is_pair_row ?l_is_pair_row ?cc_is_pair_row ?k_is_pair_row ?a_normal_rows ?l_normal_rows ?cc_normal_rows ?k_normal_rows ?a_are_alike_in_kind ?l_are_alike_in_kind ?cc_are_alike_in_kind ?k_are_alike_in_kind ?a_is_instance ?l_is_instance ?cc_is_instance ?k_is_instance ?a_rank_of ?l_rank_of ?cc_rank_of ?k_rank_of ?a_Pair_init ?i_Pair_init ?l_Pair_init ?cc_Pair_init ?k_Pair_init ?at_Pair_made ?rc_Pair_made ?fi_Pair_made ?l_Pair_made ?cc_Pair_made ?k_Pair_made ?at_Pair_rank ?rc_Pair_rank ?l_Pair_rank ?cc_Pair_rank ?k_Pair_rank ?a_Pair_eq ?i_Pair_eq ?l_Pair_eq ?cc_Pair_eq ?k_Pair_eq ?a_Pair_contains ?i_Pair_contains ?l_Pair_contains ?cc_Pair_contains ?k_Pair_contains ?a_law_digits ?l_law_digits ?cc_law_digits ?k_law_digits ?a_law_take ?l_law_take ?cc_law_take ?k_law_take ?a_law_number ?l_law_number ?cc_law_number ?k_law_number ?a_law_drawn ?l_law_drawn ?cc_law_drawn ?k_law_drawn ?a_law_before ?l_law_before ?cc_law_before ?k_law_before ?a_law_is_less ?l_law_is_less ?cc_law_is_less ?k_law_is_less ?a_law ?l_law ?cc_law ?k_law ?n_BadPair ?x_BadPair ?sa_BadPair ?ga_BadPair ?gg_BadPair ?eC_BadPair ?tC_BadPair ?kC_BadPair ?hC_BadPair ?iC_BadPair ?sC_BadPair ?z_BadPair_index ?n_Pair ?pg_Pair ?hd_Pair ?po_Pair ?sa_Pair ?ha_Pair ?hn_Pair ?ht_Pair ?hm_Pair ?ty_Pair ?ns_Pair_NoneType ?kt_Pair_NoneType ?ns_Pair_str ?kt_Pair_str ?ns_Pair_list ?kt_Pair_list ?ns_Pair_tuple ?kt_Pair_tuple ?na_Pair_rows ?na_Pair_apart ?mk_Pair ?kc_Pair ?rd_Pair ?gq_Pair ?n_BEYOND ?b_abs ?b_bool ?b_enumerate ?b_int ?b_isinstance ?b_len ?b_list ?b_max ?b_min ?b_range ?b_sorted ?b_str ?b_tuple ?b_zip
    (case n_BadPair => k_is)
    (case n_Pair => k_is)
    (case a_BadPair_init => k_is)
    (case t_BadPair_init => k_is)
    (case l_BadPair_init => k_is)
    (case cc_BadPair_init => k_is)
    (case k_BadPair_init => k_is)
    (case a_is_int => k_is)
    (case l_is_int => k_is)
    (case cc_is_int => k_is)
    (case k_is_int => k_is)
    (case a_is_part => k_is)
    (case l_is_part => k_is)
    (case cc_is_part => k_is)
    (case k_is_part => k_is)
    (case a_is_pair_row => k_is)
    (case l_is_pair_row => k_is)
    (case cc_is_pair_row => k_is)
    (case k_is_pair_row => k_is)
    (case a_normal_rows => k_is)
    (case l_normal_rows => k_is)
    (case cc_normal_rows => k_is)
    (case k_normal_rows => k_is)
    (case a_are_alike_in_kind => k_is)
    (case l_are_alike_in_kind => k_is)
    (case cc_are_alike_in_kind => k_is)
    (case k_are_alike_in_kind => k_is)
    (case a_is_instance => k_is)
    (case l_is_instance => k_is)
    (case cc_is_instance => k_is)
    (case k_is_instance => k_is)
    (case a_rank_of => k_is)
    (case l_rank_of => k_is)
    (case cc_rank_of => k_is)
    (case k_rank_of => k_is)
    (case a_Pair_init => k_is)
    (case i_Pair_init => k_is)
    (case l_Pair_init => k_is)
    (case cc_Pair_init => k_is)
    (case k_Pair_init => k_is)
    (case at_Pair_made => k_is)
    (case rc_Pair_made => k_is)
    (case fi_Pair_made => k_is)
    (case l_Pair_made => k_is)
    (case cc_Pair_made => k_is)
    (case k_Pair_made => k_is)
    (case at_Pair_rank => k_is)
    (case rc_Pair_rank => k_is)
    (case l_Pair_rank => k_is)
    (case cc_Pair_rank => k_is)
    (case k_Pair_rank => k_is)
    (case a_Pair_eq => k_is)
    (case i_Pair_eq => k_is)
    (case l_Pair_eq => k_is)
    (case cc_Pair_eq => k_is)
    (case k_Pair_eq => k_is)
    (case a_Pair_contains => k_is)
    (case i_Pair_contains => k_is)
    (case l_Pair_contains => k_is)
    (case cc_Pair_contains => k_is)
    (case k_Pair_contains => k_is)
    (case a_law_digits => k_is)
    (case l_law_digits => k_is)
    (case cc_law_digits => k_is)
    (case k_law_digits => k_is)
    (case a_law_take => k_is)
    (case l_law_take => k_is)
    (case cc_law_take => k_is)
    (case k_law_take => k_is)
    (case a_law_number => k_is)
    (case l_law_number => k_is)
    (case cc_law_number => k_is)
    (case k_law_number => k_is)
    (case a_law_drawn => k_is)
    (case l_law_drawn => k_is)
    (case cc_law_drawn => k_is)
    (case k_law_drawn => k_is)
    (case a_law_before => k_is)
    (case l_law_before => k_is)
    (case cc_law_before => k_is)
    (case k_law_before => k_is)
    (case a_law_is_less => k_is)
    (case l_law_is_less => k_is)
    (case cc_law_is_less => k_is)
    (case k_law_is_less => k_is)
    (case a_law => k_is)
    (case l_law => k_is)
    (case cc_law => k_is)
    (case k_law => k_is)
    (case x_BadPair => k_is)
    (case sa_BadPair => k_is)
    (case ga_BadPair => k_is)
    (case gg_BadPair => k_is)
    (case eC_BadPair => k_is)
    (case tC_BadPair => k_is)
    (case kC_BadPair => k_is)
    (case hC_BadPair => k_is)
    (case iC_BadPair => k_is)
    (case sC_BadPair => first | rfl | k_is)
    (case z_BadPair_index => k_is)
    (case pg_Pair => k_is)
    (case hd_Pair => k_is)
    (case po_Pair => k_is)
    (case sa_Pair => k_is)
    (case ha_Pair => k_is)
    (case hn_Pair => k_is)
    (case ht_Pair => k_is)
    (case hm_Pair => k_is)
    (case ty_Pair => k_is)
    (case ns_Pair_NoneType => k_is)
    (case kt_Pair_NoneType => k_is)
    (case ns_Pair_str => k_is)
    (case kt_Pair_str => k_is)
    (case ns_Pair_list => k_is)
    (case kt_Pair_list => k_is)
    (case ns_Pair_tuple => k_is)
    (case kt_Pair_tuple => k_is)
    (case na_Pair_rows => k_is)
    (case na_Pair_apart => k_is)
    (case mk_Pair => k_is)
    (case kc_Pair => k_is)
    (case rd_Pair => k_is)
    (case gq_Pair => k_is)
    (case n_BEYOND => k_is)
    (case b_abs => k_is)
    (case b_bool => k_is)
    (case b_enumerate => k_is)
    (case b_int => k_is)
    (case b_isinstance => k_is)
    (case b_len => k_is)
    (case b_list => k_is)
    (case b_max => k_is)
    (case b_min => k_is)
    (case b_range => k_is)
    (case b_sorted => k_is)
    (case b_str => k_is)
    (case b_tuple => k_is)
    (case b_zip => k_is)
