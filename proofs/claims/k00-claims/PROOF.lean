import PyProof.Rows.All
import Wide.All
import OpenK.AllK
import Wide.FinOn
import HandS.ForMost
import HandS.Deep
import HandS.Property
import HandS.ExcOwn
import HandS.ExcInit
import HandS.Defaults
import HandS.Ends
import HandS.Words
import HandS.StrMore
import HandS.IsInst
import HandS.Flow
import KE.KeyNested
import HandS.TupAny
import HandS.ReCall
import KE.KIndexOf
import HandS.SetFor
import HandS.Style
import KE.GoesMore
import KE.GoesEnum
import HandS.WordsExc
import HandS.SlotsOwn
import HandS.Codes
import PyProof.Rows.FactsN_abs
import PyProof.Rows.FactsN_isinstance
import PyProof.DictRoadsH
import PyProof.DictMoreH
import OpenK.KMeth
import HandS.ExcField
import HandS.ExcIs
import HandS.TryMany
import HandS.More
import KE.KRevSl
import PyProof.ReprRoads
import PyProof.ReprLen
import PyProof.CallFns
import PyProof.Rows.FactsT3
import HandS.FStr
import KE.KExcSuper
import KE.KOpsOwn
import KE.KCallOwn
import PyProof.Rows.CountFlat
import HandS.Text
import HandS.Star
import KE.RegKSuper
import PySem.Challenge.RW_pagesheld_k00_claims_read_and_held
set_option Elab.async false
set_option linter.all false
set_option maxRecDepth 100000
/-! calls under a bare guard: as L2's rules, but what runs is known to stand in no repr -/
namespace L3
open PySem PySem.Spec L2 PyProof.Rows

structure Room (k : Nat) (A : Around) : Prop where
  r : L2.Room k A
  gd : A.guards = some []
namespace Room
variable {j k : Nat} {A : Around}
theorem hd (r : Room k A) : A.handled = none := r.r.hd
theorem un (r : Room k A) : A.units + 16 * k + 200 < cLine := r.r.un
theorem units (r : Room k A) : A.units + 64 < cLine := r.r.units
theorem units0 (r : Room k A) : A.units < cLine := r.r.units0
theorem depth (r : Room k A) : A.depth < recursionLimit := r.r.depth
theorem mono (r : Room k A) (h : j ≤ k) : Room j A := ⟨r.r.mono h, r.gd⟩
theorem in1 (r : Room (k + 1) A) : Room k A.in1 := ⟨r.r.in1, r.gd⟩
theorem deeper (r : Room (k + 1) A) (env : Env) : Room k (A.deeper env) := ⟨r.r.deeper env, by have := r.gd; simpa [Around.deeper] using this⟩
theorem make (r : Room (k + 1) A) (C : Addr) (us : List Value) (kw : List (Str × Value)) : Room k (A.under (.builtin "type.__call__" ⟨.ref C :: us, kw⟩)) := by
  refine ⟨r.r.make C us kw, ?_⟩
  have hg : (Code.builtin "type.__call__" ⟨Value.ref C :: us, kw⟩).isGuard = false := by
    show guardIds.contains "type.__call__" = false
    decide +kernel
  simp [Around.under, Code.guards, hg, r.gd, pushGuards]
end Room
theorem hu_of {k : Nat} {A : Around} (r : Room k A) : A.units + 1 < cLine := by have := r.un; omega

structure FnOk (P : Program) (w : World) (K : PySem.W.Frag) (mg : Str → Option Value) (base : Heap) (CX : CXT) (k : Nat) (f : Addr) (fd : FuncData) (ps : List Str) (sp : Sp) : Prop where
  len : ∀ vs H Q E, sp vs H Q E → vs.length = ps.length
  run : ∀ (A : Around) (outer : List Env) (s : Shared) (H : Hp) (args : Args) (us : List Value) (vs : List V) (Q : VK) (E : XK), Room k A → Env0 P w K mg base A outer s H →
    BindsTo s fd args (ps.zip us) → Vals vs us → sp vs H Q E → codeAny (model P w) A (.call (.ref f) args) (CR CX outer P w H s Q E) s
section
variable {P : Program} {w : World} {K : PySem.W.Frag} {mg : Str → Option Value} {base : Heap} {CX : CXT} {j k : Nat} {f : Addr} {fd : FuncData} {ps : List Str} {sp sp' : Sp}
theorem FnOk.of (F : L2.FnOk P w K mg base CX k f fd ps sp) : FnOk P w K mg base CX k f fd ps sp :=
  ⟨F.len, fun A outer s H args us vs Q E hr => F.run A outer s H args us vs Q E hr.r⟩
theorem FnOk.mono (F : FnOk P w K mg base CX j f fd ps sp) (h : j ≤ k) : FnOk P w K mg base CX k f fd ps sp :=
  ⟨F.len, fun A outer s H args us vs Q E hr => F.run A outer s H args us vs Q E (hr.mono h)⟩
theorem FnOk.imp (F : FnOk P w K mg base CX k f fd ps sp) (h : ∀ vs H Q E, sp' vs H Q E → sp vs H Q E) : FnOk P w K mg base CX k f fd ps sp' :=
  ⟨fun vs H Q E q => F.len vs H Q E (h _ _ _ _ q), fun A outer s H args us vs Q E hr he hb hv hs => F.run A outer s H args us vs Q E hr he hb hv (h _ _ _ _ hs)⟩
end
section
variable {X : Cx} {CX : CXT} {k : Nat} {f g C p' a dx : Addr} {fd : FuncData} {ps : List Str} {sp : Sp} {dvs : List V} {ds : List Value} {E : XK} {x m : Str} {p pos apos : Pos} {e o : Expr} {es : List Expr} {ta : TE} {t : TA} {fs : List (Str × V)}
/-- the end of a call, whatever it was -/
theorem ends_call {pins : List (Addr × Obj)} {σ : L2.St} {H : Hp} {s s' : Shared} {Q : VK} {r : Result} {R : Value → Shared → Prop} (q : CR CX X.stack X.prog X.w H s Q E r s') (hx : ∀ e, CX X.stack H s E e s' → R e s') (I : Inv X pins σ H s) :
    (match r with | .ok (.ret u) => EP X pins σ Q u s' | .ok _ => False | .error e => R e s') := by
  cases r with
  | error e => exact hx e q
  | ok fl => cases fl <;> first | exact I.after q | exact q
theorem run_fn {pins : List (Addr × Obj)} {σ : L2.St} {H : Hp} {s : Shared} {Q : VK} {us : List Value} {vs : List V} (F : FnOk X.prog X.w X.K X.mg X.base CX k f fd ps sp) (hr : Room k X.A) (hb : Binds X.K fd ps ds) (hd : Vals dvs ds)
    (hx : Passes CX X E) (I : Inv X pins σ H s) (r : Vals vs us) (h : sp (vs ++ dvs) H Q E) :
    wpAny (model X.prog X.w) X.A (call (.ref f) us) (EP X pins σ Q) X.xe s := by
  have r2 := r.append hd
  have hl : (us ++ ds).length = ps.length := r2.length.symm.trans (F.len _ _ _ _ h)
  refine wpAny_call (codeAny_mono (F.run X.A X.stack s H ⟨us, []⟩ _ _ Q E hr I.env0 (hb s us I.kIn hl) r2 h) ?_)
  intro r s' q
  have z := ends_call (R := X.xe) q (fun e => hx pins σ H s e s' I) I
  cases r with
  | error e => exact z
  | ok fl => cases fl <;> exact z
theorem pe_call (F : FnOk X.prog X.w X.K X.mg X.base CX k f fd ps sp) (hr : Room k X.A) (hg : Gl X x) (hm : X.mg x = some (.ref f)) (hk : PySem.W.keepIn X.K (.ref f) = true) (hb : Binds X.K fd ps ds) (hd : Vals dvs ds)
    (hx : Passes CX X E) (ha : PA X (e :: es) t) (hdb : (x == ("__debug__" : Str)) = false := by decide)
    (he : starEach (e :: es) X.env = (false, eval e X.env) :: starEach es X.env := by rfl) (hpl : (backTo pos (starEach es X.env)).any (·.1) = false := by rfl) : PE X (.Call (.Name x p) (e :: es) [] pos) (tCall sp dvs E t) := by
  constructor
  intro pins s σ H Q I h
  refine wpAny_Call_Name_kw (ld_glob I hg hm (PySem.W.callWith_K (h₀ := X.base) I.ok.mod.kin hk (thn (ha.run pos pins s σ H _ I h) ?_) he hpl) hdb)
  rintro us s1 ⟨vs, H1, I1, r, q⟩
  exact ⟨I1.kIn, run_fn F hr hb hd hx I1 r q⟩
theorem pe_meth {pl : Sem Bool} (he : PE X o ta) (c : Cls X.K C) (hm : Meth X.K C m f) (F : FnOk X.prog X.w X.K X.mg X.base CX k f fd ps sp) (hr : Room k X.A) (hb : Binds X.K fd ps ds) (hd : Vals dvs ds) (hx : Passes CX X E)
    (ha : PA X (e :: es) t) (hst : starEach (e :: es) X.env = (false, eval e X.env) :: starEach es X.env := by rfl) (hpl : (backTo pos (starEach es X.env)).any (·.1) = false := by rfl)
    (ht : eval (.Call (.Attribute o m apos) (e :: es) [] pos) X.env = (do
      let ov ← eval o X.env
      standAt apos.atName
      let (f, first) ← holding [ov] (getMethod ov m pl)
      callWith pos f first (backTo pos (starEach (e :: es) X.env)) (backToKw pos (keywordEach [] X.env))) := by rfl) :
    PE X (.Call (.Attribute o m apos) (e :: es) [] pos) (tMeth C m sp dvs E ta t) := by
  constructor
  intro pins s σ H Q I h
  refine PySem.W.methodCall_KW (pl := pl) (thn (he.run pins s σ H _ I h) ?_) ht
  rintro u s1 ⟨x, H1, I1, rx, b, dx, fs, rfl, ea, l, q⟩
  cases (show u = Value.ref b from rx)
  refine getmeth_ok I1 ea c hm l (PySem.W.callWith_K (first := [.ref b]) (h₀ := X.base) I.ok.mod.kin hm.kp (thn (ha.run pos pins s1 σ H1 _ I1 q) ?_) hst hpl)
  rintro us s2 ⟨vs, H2, I2, r, q2⟩
  exact ⟨I2.kIn, run_fn (us := .ref b :: us) (vs := .ref b :: vs) F hr hb hd hx I2 (.cons rfl r) q2⟩
theorem run_make {pins : List (Addr × Obj)} {σ : L2.St} {H : Hp} {s : Shared} {Q : VK} {us : List Value} {vs : List V} (M : Mk X.K C f) (F : FnOk X.prog X.w X.K X.mg X.base CX k f fd ps sp) (hr : Room (k + 1) X.A)
    (hb : Binds X.K fd ps ds) (hd : Vals dvs ds) (hx : Passes CX X E) (I : Inv X pins σ H s) (r : Vals vs us)
    (h : ∀ x dx, H x = none → H dx = none → dx ≠ x → sp (.ref x :: (vs ++ dvs)) (upd (upd H dx (.own x)) x (.ins C dx [])) (fun v H2 => v = .non ∧ Q (.ref x) H2) E) :
    wpAny (model X.prog X.w) X.A (call (.ref C) us) (EP X pins σ Q) X.xe s := by
  have hq := h _ _ (I.hok.fresh (Nat.le_succ s.heap.objs.size)) (I.hok.fresh (Nat.le_refl s.heap.objs.size)) (Nat.ne_of_lt (Nat.lt_succ_self _))
  have I2 := Inv.made (C := C) I
  have r2 : Vals (V.ref (s.heap.objs.size + 1) :: (vs ++ dvs)) (Value.ref (s.heap.objs.size + 1) :: (us ++ ds)) := .cons rfl (r.append hd)
  have hl : ((Value.ref (s.heap.objs.size + 1) :: us) ++ ds).length = ps.length := r2.length.symm.trans (F.len _ _ _ _ hq)
  have hF := F.run _ X.stack _ _ ⟨Value.ref (s.heap.objs.size + 1) :: us, []⟩ _ _ _ E (hr.make C us []) (I2.env0.make C us []) (hb _ _ I2.kIn hl) r2 hq
  refine wpAny_call (make_map (f := f) I.kIn M.makes M.init (beq_iff_eq.mp M.fn) (codeAny_mono hF ?_))
  intro r s' q
  have z := ends_call (R := X.xe) q (fun e => hx pins σ _ _ e s' I2) I2
  cases r with
  | error e => exact z
  | ok fl =>
    cases fl with
    | ret u =>
      obtain ⟨v, H', I3, rv, ev, q3⟩ := z
      subst ev
      exact ⟨rv, ⟨V.ref (s.heap.objs.size + 1), H', I3, rfl, q3⟩⟩
    | next => exact z
    | brk => exact z
    | cont => exact z
theorem pe_make (M : Mk X.K C f) (F : FnOk X.prog X.w X.K X.mg X.base CX k f fd ps sp) (hr : Room (k + 1) X.A) (hg : Gl X x) (hm : X.mg x = some (.ref C)) (hb : Binds X.K fd ps ds) (hd : Vals dvs ds) (hx : Passes CX X E)
    (ha : PA X (e :: es) t) (hdb : (x == ("__debug__" : Str)) = false := by decide) (he : starEach (e :: es) X.env = (false, eval e X.env) :: starEach es X.env := by rfl)
    (hpl : (backTo pos (starEach es X.env)).any (·.1) = false := by rfl) : PE X (.Call (.Name x p) (e :: es) [] pos) (tMake C sp dvs E t) := by
  constructor
  intro pins s σ H Q I h
  refine wpAny_Call_Name_kw (ld_glob I hg hm (PySem.W.callWith_K (h₀ := X.base) I.ok.mod.kin M.kp (thn (ha.run pos pins s σ H _ I h) ?_) he hpl) hdb)
  rintro us s1 ⟨vs, H1, I1, r, q⟩
  exact ⟨I1.kIn, run_make M F hr hb hd hx I1 r q⟩
theorem pe_make0 (M : Mk X.K C f) (F : FnOk X.prog X.w X.K X.mg X.base CX k f fd ps sp) (hr : Room (k + 1) X.A) (hg : Gl X x) (hm : X.mg x = some (.ref C)) (hb : Binds X.K fd ps ds) (hd : Vals dvs ds) (hx : Passes CX X E)
    (hdb : (x == ("__debug__" : Str)) = false := by decide) : PE X (.Call (.Name x p) [] [] pos) (tMake C sp dvs E tNil) :=
  ⟨fun pins s σ H Q I h => wpAny_Call_Name_kw (ld_glob I hg hm (PySem.W.callWith_K0 I.kIn M.kp (run_make (us := []) M F hr hb hd hx I .nil h)) hdb)⟩
theorem pe_prop (he : PE X e ta) (c : Cls X.K C) (hp : PropOf X.K C m p' g) (F : FnOk X.prog X.w X.K X.mg X.base CX k g fd ps sp) (hr : Room (k + 1) X.A) (hb : Binds X.K fd ps ds) (hd : Vals dvs ds) (hx : Passes CX X.nox E)
    (hab : attributeBase e m X.env (eval e X.env) = eval e X.env) : PE X (.Attribute e m pos) (tProp C sp dvs E ta) := by
  constructor
  intro pins s σ H Q I h
  refine attr_of hab (thn (he.run pins s σ H _ I h) ?_)
  rintro u s1 ⟨x, H1, I1, rx, b, dx, fs, rfl, ea, q⟩
  cases (show u = Value.ref b from rx)
  obtain ⟨mA, O, _⟩ := ins_get I1.hok ea
  obtain ⟨od, J, _⟩ := O.look
  obtain ⟨rest, hrec⟩ := hp.rec_
  have I2 := I1.tok (s1.toks + 1)
  have r2 : Vals (V.ref b :: dvs) (Value.ref b :: ds) := .cons rfl hd
  have hl : ([Value.ref b] ++ ds).length = ps.length := r2.length.symm.trans (F.len _ _ _ _ q)
  have hc : (PySem.W.clsIn X.K C).isSome = true := by
    obtain ⟨cd, z, _⟩ := PySem.W.any_some c.hd
    rw [z]; rfl
  have hF := F.run X.A.in1 X.stack { s1 with toks := s1.toks + 1 } H1 ⟨[.ref b], []⟩ _ _ Q E hr.in1 I2.env0.in1 (hb _ [.ref b] I2.kIn hl) r2 q
  refine PySem.W.get_bind I1.kIn J (PySem.W.plainGet_of (c.get m)).1 (PySem.W.findObj_data hc hp.at_ hp.get hp.tak) (PySem.W.plainGet_of (c.get m)).2 ?_
  refine wpAny_call (PySem.W.prop_get (s := { s1 with toks := s1.toks + 1 }) I1.kIn hrec (codeAny_mono hF ?_))
  intro r s' z
  have z := ends_call (R := fun _ _ => False) z (fun e => hx pins σ _ _ e s' (I2.wish _)) I2
  cases r with
  | error e => exact z.elim
  | ok fl =>
    cases fl with
    | ret u =>
      obtain ⟨v, H', I3, rv, q3⟩ := z
      show wpAny _ _ (handedOut u) _ _ _
      rw [PySem.W.handedOut_of (handed_of rv)]
      exact wpAny_pure ⟨v, H', I3, rv, q3⟩
    | next => exact z
    | brk => exact z
    | cont => exact z
end
/-! ### a def by its body -/
section
variable {CX : CXT} {P : Program} {w : World} {K : PySem.W.Frag} {mg : Str → Option Value} {base : Heap} {k : Nat} {f : Addr} {name qual x : Str} {params : Arguments} {body : List Stmt} {scope : Scope} {dvs : List V} {kws : List (Str × V)} {N ps : List Str} {sp : Sp} {fd : FuncData}
theorem funD_ok (F : FunD K x qual params body scope dvs kws f fd) (S : FnScope N ps scope) (len : ∀ vs H Q E, sp vs H Q E → vs.length = ps.length)
    (hbody : ∀ (cdv : Value) (A : Around) (outer : List Env) (s : Shared) (H : Hp) (vs : List V) (Q : VK) (E : XK), Room k (A.deeper (envOfC qual scope s.heap.objs.size f cdv)) → sp vs H Q E →
      ∃ t, PSs (cxOf CX P w K mg base N qual scope f cdv A outer s H E) body t ∧ t { nx := fun _ H' => Q .non H', rt := Q } (start N vs) H) : FnOk P w K mg base CX (k + 1) f fd ps sp := by
  refine ⟨len, ?_⟩
  intro A outer s H args us vs Q E hr e0 hb r hsp
  obtain ⟨oc, od, dV, kV, doc, pm, an, cdv, ct, osl, rfl, lk, hcd, _, _⟩ := F.ex
  have KX : K.In s.heap := e0.mod.kin.keeps fun b o e => (e0.bs b o e).1
  have lim : s.heap.NoLimit := e0.mod.nolimit.keeps fun b o e => (e0.bs b o e).1
  have hl := len _ _ _ _ hsp
  have hkind : ∀ y ∈ ps.zip us, scope.names.lookup y.1 = some .local ∨ (scope.names.lookup y.1 = some .cell ∧ ((cellsFrom (s.heap.objs.size + 1) scope.names []).lookup y.1).isSome = true) := by
    rintro ⟨n, v⟩ hy
    exact (S.par n (List.of_mem_zip hy).1).imp id fun q => ⟨q, PySem.W.cellsFrom_some _ _ _ (.inl q)⟩
  refine codeAny_call_function hr.depth (KX _ _ lk) rfl S.co S.gen rfl (PySem.W.codeRec_of KX hcd) (hb _ _ _ _ (wpAny_newFunctionEnv_cells S.kind hkind ?_))
  rintro env rfl s1 x
  refine ⟨lim.keeps x.toInCall.keep, codeAny_func ?_⟩
  obtain ⟨t, ht, hq⟩ := hbody cdv A outer s H vs Q E (hr.deeper _) hsp
  have I : Inv (cxOf CX P w K mg base N qual scope f cdv A outer s H E) [] (start N vs) H s1 := inv_start S hr.hd e0 hl r x
  refine wpAny_mono (ht.run [] s1 (start N vs) H _ I hq) ?_ fun e s' hs => hs
  intro fl s' hs
  cases fl with
  | ret u =>
    obtain ⟨v, σ', H', J, rv, q⟩ := hs
    exact ⟨v, H', J.os, J.bare, J.base, J.hok, rv, q⟩
  | next =>
    obtain ⟨σ', H', J, q⟩ := hs
    exact ⟨.non, H', J.os, J.bare, J.base, J.hok, rfl, q⟩
  | brk =>
    obtain ⟨_, _, _, q⟩ := hs
    exact False.elim q
  | cont =>
    obtain ⟨_, _, _, q⟩ := hs
    exact False.elim q
end
/-! ### calls that may raise -/
section
variable {X : Cx} {CX : CXT} {k : Nat} {f C fI : Addr} {fd : FuncData} {ps : List Str} {sp : Sp} {E : L2.St → XK} {x : Str} {p pos : Pos} {e : Expr} {es : List Expr} {t ta : TA} {dvs : List V} {ds : List Value}
theorem run_fnS {pins : List (Addr × Obj)} {σ : L2.St} {H : Hp} {s : Shared} {Q : VK} {us : List Value} {vs : List V} (F : FnOk X.prog X.w X.K X.mg X.base CX k f fd ps sp) (hr : Room k X.A) (hb : Binds X.K fd ps [])
    (hx : PassesAt CX X σ (E σ)) (I : Inv X pins σ H s) (r : Vals vs us) (h : sp vs H Q (E σ)) :
    wpAny (model X.prog X.w) X.A (call (.ref f) us) (EP X pins σ Q) X.xe s := by
  have b := hb s us I.kIn (by rw [List.append_nil]; exact r.length.symm.trans (F.len _ _ _ _ h))
  rw [List.append_nil] at b
  refine wpAny_call (codeAny_mono (F.run X.A X.stack s H ⟨us, []⟩ us vs Q (E σ) hr I.env0 b r h) ?_)
  intro r s' q
  have z := ends_call (R := X.xe) q (fun e => hx pins H s e s' I) I
  cases r with
  | error e => exact z
  | ok fl => cases fl <;> exact z
theorem pe_callS (F : FnOk X.prog X.w X.K X.mg X.base CX k f fd ps sp) (hr : Room k X.A) (hg : Gl X x) (hm : X.mg x = some (.ref f)) (hk : PySem.W.keepIn X.K (.ref f) = true) (hb : Binds X.K fd ps [])
    (hx : ∀ σ, PassesAt CX X σ (E σ)) (ha : PA X (e :: es) t) (hdb : (x == ("__debug__" : Str)) = false := by decide)
    (he : starEach (e :: es) X.env = (false, eval e X.env) :: starEach es X.env := by rfl) (hpl : (backTo pos (starEach es X.env)).any (·.1) = false := by rfl) : PE X (.Call (.Name x p) (e :: es) [] pos) (tCallS sp E t) := by
  constructor
  intro pins s σ H Q I h
  refine wpAny_Call_Name_kw (ld_glob I hg hm (PySem.W.callWith_K (h₀ := X.base) I.ok.mod.kin hk (thn (ha.run pos pins s σ H _ I h) ?_) he hpl) hdb)
  rintro us s1 ⟨vs, H1, I1, r, q⟩
  exact ⟨I1.kIn, run_fnS F hr hb (hx σ) I1 r q⟩
theorem run_fnS0 (F : FnOk X.prog X.w X.K X.mg X.base CX k f fd ps sp) (hr : Room k X.A) (hg : Gl X x) (hm : X.mg x = some (.ref f)) (hk : PySem.W.keepIn X.K (.ref f) = true) (hb : Binds X.K fd ps [])
    (hx : ∀ σ, PassesAt CX X σ (E σ)) (hdb : (x == ("__debug__" : Str)) = false := by decide) : PE X (.Call (.Name x p) [] [] pos) (tCallS sp E tNil) :=
  ⟨fun pins s σ H Q I h => wpAny_Call_Name_kw (ld_glob I hg hm (PySem.W.callWith_K0 I.kIn hk (run_fnS (us := []) F hr hb (hx σ) I .nil h)) hdb)⟩
/-- C(e, ..) of an exception class -/
theorem pmk_oex {sp : Sp} (T : OexC X.K C) (iC : PySem.W.findIn X.K (.ref C) "__init__" = some (some (.ref fI))) (tI : PySem.W.typeIn X.K (.ref fI) = some (.type "function")) (F1 : FnOk X.prog X.w X.K X.mg X.base CX k fI fd ps sp)
    (hr : Room (k + 1) X.A) (hb : Binds X.K fd ps ds) (hd : Vals dvs ds) (hx : Passes CX X (fun _ _ _ => False)) (hg : Gl X x) (hm : X.mg x = some (.ref C)) (ha : PA X (e :: es) ta) (hdb : (x == ("__debug__" : Str)) = false := by decide)
    (he : starEach (e :: es) X.env = (false, eval e X.env) :: starEach es X.env := by rfl) (hpl : (backTo pos (starEach es X.env)).any (·.1) = false := by rfl) : PMk X (.Call (.Name x p) (e :: es) [] pos) (tMkO C sp dvs ta) := by
  intro pins s σ H Q I h
  obtain ⟨nm, q, N, bs, bm, sn, sub, ab, col, dd, k0, k1, k2, k3, k5, hC, hbm⟩ := T.cls
  refine wpAny_Call_Name_kw (ld_glob I hg hm (PySem.W.callWith_K (h₀ := X.base) I.ok.mod.kin T.kC (thn (ha.run pos pins s σ H _ I h) ?_) he hpl) hdb)
  rintro us s1 ⟨vs, H1, I1, r1, hz, q1⟩
  refine ⟨I1.kIn, ?_⟩
  show wpAny _ _ (call (.ref C) us) _ _ _
  obtain ⟨hp, g, dr, tk, os⟩ := s1
  have hn : H1 (hp.objs.size + 1) = none := I1.hok.fresh (Nat.le_succ _)
  have hq := q1 _ hn
  have kk : ∀ b o, hp.get? b = some o → ((hp.push (PySem.W.kdv_tup us)).push (PySem.HandSPX.excO C hp.objs.size)).get? b = some o := fun b o z => Heap.get?_push_of_some _ (Heap.get?_push_of_some _ z)
  have hget : ((hp.push (PySem.W.kdv_tup us)).push (PySem.HandSPX.excO C hp.objs.size)).get? (hp.objs.size + 1) = some (PySem.HandSPX.excO C hp.objs.size) := by heap_get
  have I2 := I1.laid (t' := tk) (a := hp.objs.size + 1) (o := exo (hp.objs.size + 1) C none) kk (Nat.le_succ _) (exo_ok hget)
  have r2 : Vals (V.ref (hp.objs.size + 1) :: (vs ++ dvs)) (Value.ref (hp.objs.size + 1) :: (us ++ ds)) := .cons rfl (r1.append hd)
  have hl : ((Value.ref (hp.objs.size + 1) :: us) ++ ds).length = ps.length := r2.length.symm.trans (F1.len _ _ _ _ hq)
  have hus : us.length ≤ sizeLine := by rw [← Paired.length r1, sizeLine_eq]; omega
  have hF := F1.run _ X.stack _ _ ⟨Value.ref (hp.objs.size + 1) :: us, []⟩ _ _ _ (fun _ _ _ => False) (hr.make C us []) (I2.env0.make C us []) (hb _ _ I2.kIn hl) r2 hq
  refine wpAny_call (PySem.HandSPX.call_own F.excBase_ValueError (fun Y => PySem.HandSPX.refsVE_contains Y bm hbm) (I1.kIn _ _ hC) (PySem.W.looks_findIn I1.kIn iC) (fun self => PySem.W.bind_fn I1.kIn self tI) hus (codeAny_mono hF ?_))
  intro r s' hq'
  cases r with
  | error er => exact hx pins σ _ _ er s' I2 hq'
  | ok fl =>
    cases fl with
    | ret u =>
      obtain ⟨v, H2, os2, bare2, un2, hok2, rv, ev, d, fs, ea, ed, hd1, q2⟩ := hq'
      subst ev
      obtain ⟨h2, g2, d2, t2, os'⟩ := s'
      exact ⟨rv, mk_end (raises_own T.exC T.tyC) I1 (Nat.le_succ _) kk un2 hok2 os2 bare2 ea ed hd1 q2⟩
    | next => exact hq'.elim
    | brk => exact hq'.elim
    | cont => exact hq'.elim
end
/-! ### the law's call -/
theorem law_call {P : Program} {w : World} {K : PySem.W.Frag} {mg mb : Str → Option Value} {CX : CXT} {k : Nat} {fa a : Addr} {fd : FuncData} {x : Str} {sp : Sp} {s₁ : Shared} {vs : List Value} {ns : List Int}
    (KX : K.In s₁.heap) (hns : s₁.heap.Ns mainGlobals mg) (hb : s₁.heap.Ns builtinsNs mb) (hbb : ∀ x : Str, x ≠ "__name__" → mb x = bootBuiltins x) (hlim : s₁.heap.NoLimit) (hg : s₁.gens = #[])
    (ha : s₁.heap.get? a = some { cls := .type "list", data := .seq vs.toArray }) (hi : IntsAre vs ns) (hl : ns.length ≤ sizeLine) (hr : Room k callerA) (hbind : ∀ (s : Shared) (u : Value), BindsTo s fd ⟨[u], []⟩ [(x, u)])
    (F : ∀ base : Heap, K.In base → base.Ns mainGlobals mg → FnOk P w K mg base CX k fa fd [x] sp) (hsp : ∀ H : Hp, Only H → SqL K H a (ns.map V.int) → sp [.ref a] H (fun v _ => v = .bl true) fun _ _ _ => False)
    (hCX : ∀ H e s', CX [] H s₁ (fun _ _ _ => False) e s' → False) :
    codeAny (model P w) callerA (.call (.ref fa) ⟨[.ref a], []⟩) (fun r s' => r = .ok (.ret (.bool true)) ∧ OldK s₁.heap s'.heap ∧ s'.os = s₁.os ∧ AllBare s'.gens) s₁ := by
  have rv := vals_ints hi
  have goes : ∀ H : Hp, Only H → SqL K H a (ns.map V.int) → HOk P w H s₁.heap → (∀ b u, H b = some u → b = a) → (∀ u, H a = some u → K.lookup a = none) →
      codeAny (model P w) callerA (.call (.ref fa) ⟨[.ref a], []⟩) (fun r s' => r = .ok (.ret (.bool true)) ∧ OldK s₁.heap s'.heap ∧ s'.os = s₁.os ∧ AllBare s'.gens) s₁ := by
    intro H hO hS hok hA hK
    have dictN : ∀ {b : Addr} {o : Obj} {es : Array DictEntry} {ep : Nat}, s₁.heap.get? b = some o → o.data = .dict es ep → H b = none := by
      intro b o es ep z d
      cases q : H b with
      | none => rfl
      | some u =>
        cases hA b u q
        rw [ha] at z
        cases z
        cases (show Data.seq vs.toArray _ = Data.dict es ep from d)
    have nsK : ∀ {b : Addr} {m : Str → Option Value}, s₁.heap.Ns b m → (hidT s₁.heap H).Ns b m := by
      rintro b m ⟨o, es, ep, z, d, r⟩
      exact ⟨o, es, ep, hidT_get z (dictN z d), d, r⟩
    have hKb : K.In (hidT s₁.heap H) := by
      intro b o z
      refine hidT_get (KX b o z) ?_
      cases q : H b with
      | none => rfl
      | some u =>
        cases hA b u q
        rw [hK u q] at z
        cases z
    obtain ⟨mc, c1, c2⟩ := hlim
    have hM : Mod K mg (hidT s₁.heap H) := ⟨hKb, nsK hns, ⟨mb, nsK hb, hbb⟩, mc, nsK c1, c2⟩
    have e0 : Env0 P w K mg (hidT s₁.heap H) callerA [] s₁ H := ⟨rfl, hM, fun b o z => of_hidT z, Nat.le_of_eq (hidT_size _ _), trivial, fun b z => absurd (show b ∈ ([] : List Addr) from z) (by simp), hok, .of_eq hg⟩
    refine codeAny_mono ((F _ hKb (nsK hns)).run callerA [] s₁ H ⟨[.ref a], []⟩ [.ref a] [.ref a] _ _ hr e0 (hbind s₁ (.ref a)) (.cons rfl .nil) (hsp H hO hS)) ?_
    intro r s' z
    cases r with
    | error e => exact (hCX H e s' z).elim
    | ok fl =>
      cases fl with
      | next => exact z.elim
      | brk => exact z.elim
      | cont => exact z.elim
      | ret u =>
        obtain ⟨v, H', os, bare, un, hok', r', q⟩ := z
        cases (show v = .bl true from q)
        cases (show u = Value.bool true from r')
        refine ⟨rfl, OldK.of_keep fun b o z => ?_, os, bare⟩
        rcases hO b with n | ⟨ob, xs, n⟩
        · exact un.keep b o z n (fun y => absurd (show b ∈ ([] : List Addr) from y) (by simp)) (by simp)
        · obtain ⟨e1, _⟩ := hok b _ n
          obtain ⟨e2, _⟩ := hok' b _ (un.frzs b ob _ n)
          rw [z] at e1
          cases e1
          exact e2
  have lenV := hi.length
  cases hk : K.lookup a with
  | some o =>
    have z := KX a o hk
    rw [ha] at z
    cases z
    exact goes (fun _ => none) (fun _ => .inl rfl) (.inr ⟨_, vs.toArray, _, hk, rfl, rfl, rfl, by rw [List.size_toArray, lenV]; exact hl, by simpa using rv⟩) (fun b u z => by cases (show (none : Option HO) = some u from z)) (fun b u z => by cases (show (none : Option HO) = some u from z)) fun u z => by cases (show (none : Option HO) = some u from z)
  | none =>
    have at_ : ∀ {b : Addr} {u : HO}, (if b = a then some (HO.frz { cls := .type "list", data := .seq vs.toArray } (.lst (ns.map V.int))) else none) = some u → b = a ∧ u = .frz { cls := .type "list", data := .seq vs.toArray } (.lst (ns.map V.int)) := by
      intro b u z
      by_cases hb : b = a
      · rw [if_pos hb] at z
        exact ⟨hb, (Option.some.inj z).symm⟩
      · rw [if_neg hb] at z
        cases z
    refine goes (fun b => if b = a then some (.frz { cls := .type "list", data := .seq vs.toArray } (.lst (ns.map V.int))) else none) (fun b => ?_) (.inl (.inr ⟨{ cls := .type "list", data := .seq vs.toArray }, if_pos rfl⟩)) (fun b u z => ?_) (fun b u z => (at_ z).1) fun _ _ => hk
    · by_cases hb : b = a
      · exact .inr ⟨_, _, if_pos hb⟩
      · exact .inl (if_neg hb)
    · obtain ⟨rfl, rfl⟩ := at_ z
      exact ⟨ha, by rw [List.length_map]; exact hl, vs, _, rv, ha⟩
theorem walk_of {l : PySem.W.OpenLaw} {n k : Nat} {q : Program} {loose : List Str} {XP : (Str → Option Value) → Heap → Prop} {YP : World → Heap → Prop} {d : DefRec} {K : Params → PySem.W.Frag} {CX : World → CXT} {sp : World → Sp} {x : Str}
    (hn : l.most = some n) (hn2 : n ≤ sizeLine) (hdf : d.params.defaults = []) (hr : Room k callerA) (hY : ∀ (w : World) (h : Heap), YP w h → (K w.params).In h)
    (F : ∀ (w : World) (mg : Str → Option Value) (fa : Addr) (h : Heap), (K w.params).In h → h.Ns mainGlobals mg → mg d.name = some (.ref fa) → ∃ fd : FuncData, (∀ (s : Shared) (u : Value), BindsTo s fd ⟨[u], []⟩ [(x, u)]) ∧
      ∀ base : Heap, (K w.params).In base → base.Ns mainGlobals mg → FnOk l.prog w (K w.params) mg base (CX w) k fa fd [x] (sp w))
    (hsp : ∀ (w : World) (H : Hp) (a : Addr) (ns : List Int), ns.length ≤ n → Only H → SqL (K w.params) H a (ns.map V.int) → sp w [.ref a] H (fun v _ => v = .bl true) fun _ _ _ => False)
    (hCX : ∀ (w : World) (H : Hp) (s : Shared) (e : Value) (s' : Shared), CX w [] H s (fun _ _ _ => False) e s' → False) : PySem.W.WalkO q loose XP YP l.row.toRowW d [] (fun f vs => PySem.call f vs) := by
  refine Att.attach_call hn hdf ?_
  intro w s₀ s₁ mg mb fa o pm cd doc a vs ns G Y ho hd hcd hmg hobj hints hlen hg
  have KX := hY w _ Y
  obtain ⟨fd, hb, hF⟩ := F w mg fa _ KX G.T.g hmg
  exact law_call KX G.T.g G.T.b G.T.builtins G.T.nolimit hg hobj hints (Nat.le_trans hlen hn2) hr hb hF (fun H hO hS => hsp w H a ns hlen hO hS) fun H e s' => hCX w H s₁ e s'
theorem room_caller {k : Nat} (h : L2.Room k callerA) : Room k callerA := ⟨h, rfl⟩
end L3

set_option Elab.async false
set_option linter.all false
set_option maxRecDepth 100000
namespace L3
open PySem L2

/-! ### data without a heap -/
inductive D where
  | non | bl (b : Bool) | int (i : Int) | str (s : Str)
  | tup (xs : List D) | lst (xs : List D)
  | dic (kvs : List (Key × D)) | dit (kvs : List (List Key × D))
  | obj (C : Addr) (fs : List (Str × D))
  | ty (n : String) | cls (C : Addr)
  | scr (ns : List Int)
  | bx (b : Addr) (d : D)
  | din (w : World) (kvs : List (D × D))
  | exc (a dd C : Addr) (fs : List (Str × D))
  | dik (kvs : List (Key × D))

/-- a dict whose keys are tuples (nested), by its entries -/
def DNat (w : World) (d : Addr) (xs : List (NestedKey × Addr × Value)) (h : Heap) : Prop :=
  ∃ o es ep, h.get? d = some o ∧ o.ExactDict ∧ o.data = .dict es ep ∧ es.toList = xs.map (fun x => (⟨x.1.hash w, .ref x.2.1, x.2.2⟩ : DictEntry)) ∧ (xs.map (·.1)).Nodup ∧ xs.length ≤ sizeLine ∧ (d == sysModules) = false
mutual
/-- data as a key -/
def D.nk : D → Option NestedKey
  | .non => some .none
  | .bl b => some (.num (if b = true then 1 else 0))
  | .int i => some (.num i)
  | .str s => some (.text s)
  | .tup ds => (D.nks ds).map .tup
  | _ => none
def D.nks : List D → Option (List NestedKey)
  | [] => some []
  | d :: ds => match D.nk d, D.nks ds with
    | some k, some ks => some (k :: ks)
    | _, _ => none
end
def KT (K : PySem.W.Frag) (a : Addr) (xs : List V) : Prop :=
  ∃ (o : Obj) (its : Array Value) (n : Nat), K.lookup a = some o ∧ o.cls = .type "tuple" ∧ o.dict = none ∧ o.data = .seq its n ∧ its.size ≤ sizeLine ∧ Vals xs its.toList
def KL (K : PySem.W.Frag) (a : Addr) (xs : List V) : Prop :=
  ∃ (o : Obj) (its : Array Value) (n : Nat), K.lookup a = some o ∧ o.cls = .type "list" ∧ o.dict = none ∧ o.data = .seq its n ∧ its.size ≤ sizeLine ∧ Vals xs its.toList
abbrev US := Addr → Prop
def TupAt (H : Hp) (a : Addr) (xs : List V) : Prop := ∃ o : Obj, o.dict = none ∧ H a = some (.frz o (.tup xs))
def RdT (K : PySem.W.Frag) (H : Hp) (U : US) (a : Addr) (xs : List V) : Prop := (TupAt H a xs ∧ ¬ U a) ∨ KT K a xs
def RdL (H : Hp) (U : US) (a : Addr) (xs : List V) : Prop := H a = some (.lst xs) ∧ ¬ U a
mutual
def Rp (K : PySem.W.Frag) (H : Hp) (U : US) : D → V → Prop
  | .non, v => v = .non
  | .bl b, v => v = .bl b
  | .int i, v => v = .int i
  | .str s, v => v = .str s
  | .tup ds, v => ∃ a vs, v = .ref a ∧ RdT K H U a vs ∧ RpAll K H U ds vs
  | .lst ds, v => ∃ a vs, v = .ref a ∧ RdL H U a vs ∧ RpAll K H U ds vs
  | .dic ds, v => ∃ a kvs, v = .ref a ∧ Rd H a (.dK kvs) ∧ ¬ U a ∧ RpK K H U ds kvs
  | .dit ds, v => ∃ a kvs, v = .ref a ∧ Rd H a (.dT kvs) ∧ ¬ U a ∧ RpT K H U ds kvs
  | .ty n, v => v = .ty n
  | .cls C, v => v = .ref C
  | .bx _ _, _ => False
  | .din w ds, v => ∃ a xs, v = .ref a ∧ Rd H a (.ext (DNat w a xs)) ∧ ¬ U a ∧ RpN K H U ds xs
  | .exc a dd C fs, v => v = .ref a ∧ ∃ gs, H dd = some (.xd gs) ∧ ¬ U dd ∧ RpF K H U fs gs
  | .dik ds, v => ∃ a o kvs, v = .ref a ∧ H a = some (.frz o (.dK kvs)) ∧ ¬ U a ∧ RpK K H U ds kvs
  | .scr ns, v => ∃ a, v = .ref a ∧ (KL K a (ns.map V.int) ∨ ∃ o, H a = some (.frz o (.lst (ns.map V.int))) ∧ ¬ U a)
  | .obj C fs, v => ∃ a dx gs, v = .ref a ∧ H a = some (.ins C dx gs) ∧ ¬ U a ∧ RpF K H U fs gs
def RpAll (K : PySem.W.Frag) (H : Hp) (U : US) : List D → List V → Prop
  | [], vs => vs = []
  | d :: ds, vs => ∃ v r, vs = v :: r ∧ Rp K H U d v ∧ RpAll K H U ds r
def RpK (K : PySem.W.Frag) (H : Hp) (U : US) : List (Key × D) → List (Key × V) → Prop
  | [], vs => vs = []
  | (k, d) :: ds, vs => ∃ v r, vs = (k, v) :: r ∧ Rp K H U d v ∧ RpK K H U ds r
def RpT (K : PySem.W.Frag) (H : Hp) (U : US) : List (List Key × D) → List (List Key × V) → Prop
  | [], vs => vs = []
  | (k, d) :: ds, vs => ∃ v r, vs = (k, v) :: r ∧ Rp K H U d v ∧ RpT K H U ds r
def RpN (K : PySem.W.Frag) (H : Hp) (U : US) : List (D × D) → List (NestedKey × Addr × Value) → Prop
  | [], xs => xs = []
  | (dk, dv) :: ds, xs => ∃ k b u v r, xs = (k, b, u) :: r ∧ dk.nk = some k ∧ k.depth ≤ 8 ∧ Rp K H U dk (.ref b) ∧ Rp K H U dv v ∧ RelV v u ∧ RpN K H U ds r
def RpF (K : PySem.W.Frag) (H : Hp) (U : US) : List (Str × D) → List (Str × V) → Prop
  | [], vs => vs = []
  | (k, d) :: ds, vs => ∃ v r, vs = (k, v) :: r ∧ Rp K H U d v ∧ RpF K H U ds r
end
def Pres (H : Hp) (U : US) (H' : Hp) (U' : US) : Prop := ∀ a o, H a = some o → ¬ U a → H' a = some o ∧ ¬ U' a
theorem Pres.refl (H : Hp) (U : US) : Pres H U H U := fun _ _ h n => ⟨h, n⟩
theorem Pres.trans {H H1 H2 : Hp} {U U1 U2 : US} (a : Pres H U H1 U1) (b : Pres H1 U1 H2 U2) : Pres H U H2 U2 := fun x o h n =>
  let ⟨h1, n1⟩ := a x o h n
  b x o h1 n1
theorem Pres.rd {H H' : Hp} {U U' : US} (p : Pres H U H' U') {a : Addr} {u : HO} (h : Rd H a u) (n : ¬ U a) : Rd H' a u ∧ ¬ U' a := by
  rcases h with h | ⟨o, h⟩
  · obtain ⟨h', n'⟩ := p a _ h n
    exact ⟨.inl h', n'⟩
  · obtain ⟨h', n'⟩ := p a _ h n
    exact ⟨.inr ⟨o, h'⟩, n'⟩
theorem RdT.pres {K : PySem.W.Frag} {H H' : Hp} {U U' : US} (p : Pres H U H' U') {a : Addr} {xs : List V} (h : RdT K H U a xs) : RdT K H' U' a xs := by
  rcases h with ⟨⟨o, hd, h⟩, n⟩ | h
  · obtain ⟨h', n'⟩ := p a _ h n
    exact .inl ⟨⟨o, hd, h'⟩, n'⟩
  · exact .inr h
theorem KT.sq {K : PySem.W.Frag} {H : Hp} {a : Addr} {xs : List V} (h : KT K a xs) : SqT K H a xs := by
  obtain ⟨o, its, n, h1, h2, _, h3, h4, h5⟩ := h
  exact .inr ⟨o, its, n, h1, h2, h3, h4, h5⟩
theorem RdT.sq {K : PySem.W.Frag} {H : Hp} {U : US} {a : Addr} {xs : List V} (h : RdT K H U a xs) : SqT K H a xs := by
  rcases h with ⟨⟨o, _, h⟩, _⟩ | h
  · exact .inl (.inr ⟨o, h⟩)
  · exact h.sq
theorem RdL.pres {H H' : Hp} {U U' : US} (p : Pres H U H' U') {a : Addr} {xs : List V} (h : RdL H U a xs) : RdL H' U' a xs := p a _ h.1 h.2
mutual
theorem Rp.pres {K : PySem.W.Frag} {H H' : Hp} {U U' : US} (p : Pres H U H' U') : ∀ (d : D) (v : V), Rp K H U d v → Rp K H' U' d v
  | .non, _, h => by simpa only [Rp] using h
  | .bl _, _, h => by simpa only [Rp] using h
  | .int _, _, h => by simpa only [Rp] using h
  | .str _, _, h => by simpa only [Rp] using h
  | .ty _, _, h => by simpa only [Rp] using h
  | .scr _, _, h => by
    simp only [Rp] at h ⊢
    obtain ⟨a, e, h⟩ := h
    refine ⟨a, e, h.imp id fun ⟨o, h1, n⟩ => ?_⟩
    obtain ⟨h', n'⟩ := p a _ h1 n
    exact ⟨o, h', n'⟩
  | .cls _, _, h => by simpa only [Rp] using h
  | .bx _ _, _, h => by simp only [Rp] at h
  | .dik ds, _, h => by
    simp only [Rp] at h ⊢
    obtain ⟨a, o, vs, e, h1, n, h2⟩ := h
    obtain ⟨h1, n⟩ := p a _ h1 n
    exact ⟨a, o, vs, e, h1, n, RpK.pres p ds vs h2⟩
  | .exc a dd C fs, _, h => by
    simp only [Rp] at h ⊢
    obtain ⟨e, gs, h1, n, h2⟩ := h
    obtain ⟨h1, n⟩ := p dd _ h1 n
    exact ⟨e, gs, h1, n, RpF.pres p fs gs h2⟩
  | .din w ds, _, h => by
    simp only [Rp] at h ⊢
    obtain ⟨a, xs, e, h1, n, h2⟩ := h
    obtain ⟨h1, n⟩ := p.rd h1 n
    exact ⟨a, xs, e, h1, n, RpN.pres p ds xs h2⟩
  | .tup ds, _, h => by
    simp only [Rp] at h ⊢
    obtain ⟨a, vs, e, h1, h2⟩ := h
    exact ⟨a, vs, e, h1.pres p, RpAll.pres p ds vs h2⟩
  | .lst ds, _, h => by
    simp only [Rp] at h ⊢
    obtain ⟨a, vs, e, h1, h2⟩ := h
    exact ⟨a, vs, e, h1.pres p, RpAll.pres p ds vs h2⟩
  | .dic ds, _, h => by
    simp only [Rp] at h ⊢
    obtain ⟨a, vs, e, h1, n, h2⟩ := h
    obtain ⟨h1, n⟩ := p.rd h1 n
    exact ⟨a, vs, e, h1, n, RpK.pres p ds vs h2⟩
  | .dit ds, _, h => by
    simp only [Rp] at h ⊢
    obtain ⟨a, vs, e, h1, n, h2⟩ := h
    obtain ⟨h1, n⟩ := p.rd h1 n
    exact ⟨a, vs, e, h1, n, RpT.pres p ds vs h2⟩
  | .obj C fs, _, h => by
    simp only [Rp] at h ⊢
    obtain ⟨a, dx, gs, e, h1, n, h2⟩ := h
    obtain ⟨h1, n⟩ := p a _ h1 n
    exact ⟨a, dx, gs, e, h1, n, RpF.pres p fs gs h2⟩
theorem RpAll.pres {K : PySem.W.Frag} {H H' : Hp} {U U' : US} (p : Pres H U H' U') : ∀ (ds : List D) (vs : List V), RpAll K H U ds vs → RpAll K H' U' ds vs
  | [], _, h => by simpa only [RpAll] using h
  | d :: ds, _, h => by
    simp only [RpAll] at h ⊢
    obtain ⟨v, r, e, h1, h2⟩ := h
    exact ⟨v, r, e, Rp.pres p d v h1, RpAll.pres p ds r h2⟩
theorem RpK.pres {K : PySem.W.Frag} {H H' : Hp} {U U' : US} (p : Pres H U H' U') : ∀ (ds : List (Key × D)) (vs : List (Key × V)), RpK K H U ds vs → RpK K H' U' ds vs
  | [], _, h => by simpa only [RpK] using h
  | (k, d) :: ds, _, h => by
    simp only [RpK] at h ⊢
    obtain ⟨v, r, e, h1, h2⟩ := h
    exact ⟨v, r, e, Rp.pres p d v h1, RpK.pres p ds r h2⟩
theorem RpT.pres {K : PySem.W.Frag} {H H' : Hp} {U U' : US} (p : Pres H U H' U') : ∀ (ds : List (List Key × D)) (vs : List (List Key × V)), RpT K H U ds vs → RpT K H' U' ds vs
  | [], _, h => by simpa only [RpT] using h
  | (k, d) :: ds, _, h => by
    simp only [RpT] at h ⊢
    obtain ⟨v, r, e, h1, h2⟩ := h
    exact ⟨v, r, e, Rp.pres p d v h1, RpT.pres p ds r h2⟩
theorem RpN.pres {K : PySem.W.Frag} {H H' : Hp} {U U' : US} (p : Pres H U H' U') : ∀ (ds : List (D × D)) (xs : List (NestedKey × Addr × Value)), RpN K H U ds xs → RpN K H' U' ds xs
  | [], _, h => by simpa only [RpN] using h
  | (dk, dv) :: ds, _, h => by
    simp only [RpN] at h ⊢
    obtain ⟨k, b, u, v, r, e, h1, h2, h3, h4, h5, h6⟩ := h
    exact ⟨k, b, u, v, r, e, h1, h2, Rp.pres p dk _ h3, Rp.pres p dv _ h4, h5, RpN.pres p ds r h6⟩
theorem RpF.pres {K : PySem.W.Frag} {H H' : Hp} {U U' : US} (p : Pres H U H' U') : ∀ (ds : List (Str × D)) (vs : List (Str × V)), RpF K H U ds vs → RpF K H' U' ds vs
  | [], _, h => by simpa only [RpF] using h
  | (k, d) :: ds, _, h => by
    simp only [RpF] at h ⊢
    obtain ⟨v, r, e, h1, h2⟩ := h
    exact ⟨v, r, e, Rp.pres p d v h1, RpF.pres p ds r h2⟩
end
end L3

set_option Elab.async false
set_option linter.all false
set_option maxRecDepth 100000
namespace L3
open PySem L2

/-- own, par: data without boxes; owb, pab: an instance whose fields may hold boxes (objects that it alone owns) -/
inductive Sl where
  | emp | shr (d : D) | own (d : D) | par (d : D) | brw (d : D) | owb (d : D) | pab (d : D)
abbrev En := List Sl
def Sl.isW : Sl → Bool
  | .own _ => true
  | .par _ => true
  | .owb _ => true
  | .pab _ => true
  | _ => false
def Sl.locked : Sl → Bool
  | .par _ => true
  | .pab _ => true
  | .brw _ => true
  | _ => false
def Sl.lk : Sl → Option (Option D)
  | .par _ => some none
  | .pab _ => some none
  | .brw d => some (some d)
  | _ => none
/-- the data that a slot holds -/
def Sl.dat : Sl → Option D
  | .emp => none
  | .shr d => some d
  | .own d => some d
  | .par d => some d
  | .brw d => some d
  | .owb d => some d
  | .pab d => some d
/-- the same slot with other data -/
def Sl.upd : Sl → D → Sl
  | .own _, d => .own d
  | .par _, d => .par d
  | .owb _, d => .owb d
  | .pab _, d => .pab d
  | s, _ => s
def bxsF : List (Str × D) → List Addr
  | [] => []
  | (_, .bx b _) :: fs => b :: bxsF fs
  | _ :: fs => bxsF fs
def D.bxs : D → List Addr
  | .obj _ fs => bxsF fs
  | _ => []
def Sl.bxs : Sl → List Addr
  | .owb d => d.bxs
  | .pab d => d.bxs
  | _ => []
/-- the slot s, which holds o, owns x -/
def Sl.reg (s : Sl) (o : Option V) (x : Addr) : Prop := s.isW = true ∧ (o = some (.ref x) ∨ x ∈ s.bxs)

section
variable (K : PySem.W.Frag) (H : Hp) (U : US)
def TopW : D → Addr → Prop
  | .lst ds, a => ∃ vs, H a = some (.lst vs) ∧ RpAll K H U ds vs
  | .dic ds, a => ∃ vs, H a = some (.dK vs) ∧ RpK K H U ds vs
  | .dit ds, a => ∃ vs, H a = some (.dT vs) ∧ RpT K H U ds vs
  | .din w ds, a => ∃ xs, H a = some (.ext (DNat w a xs)) ∧ RpN K H U ds xs
  | .obj C fs, a => ∃ dx gs, H a = some (.ins C dx gs) ∧ RpF K H U fs gs
  | _, _ => False
/-- a field's data: a box or shared -/
def Ov : D → V → Prop
  | .bx b d, v => v = .ref b ∧ U b ∧ TopW K H U d b
  | d, v => Rp K H U d v
def OvF : List (Str × D) → List (Str × V) → Prop
  | [], vs => vs = []
  | (k, d) :: ds, vs => ∃ v r, vs = (k, v) :: r ∧ Ov K H U d v ∧ OvF ds r
def TopB : D → Addr → Prop
  | .obj C fs, a => ∃ dx gs, H a = some (.ins C dx gs) ∧ OvF K H U fs gs ∧ (a :: bxsF fs).Nodup
  | _, _ => False
def TopR0 : D → Addr → Prop
  | .lst ds, a => ∃ vs, Rd H a (.lst vs) ∧ RpAll K H U ds vs
  | .dic ds, a => ∃ vs, Rd H a (.dK vs) ∧ RpK K H U ds vs
  | .dit ds, a => ∃ vs, Rd H a (.dT vs) ∧ RpT K H U ds vs
  | .din w ds, a => ∃ xs, Rd H a (.ext (DNat w a xs)) ∧ RpN K H U ds xs
  | .obj C fs, a => ∃ dx gs, H a = some (.ins C dx gs) ∧ RpF K H U fs gs
  | _, _ => False
def Rv : D → V → Prop
  | .bx b d, v => v = .ref b ∧ TopR0 K H U d b
  | d, v => Rp K H U d v
def RvF : List (Str × D) → List (Str × V) → Prop
  | [], vs => vs = []
  | (k, d) :: ds, vs => ∃ v r, vs = (k, v) :: r ∧ Rv K H U d v ∧ RvF ds r
def TopR : D → Addr → Prop
  | .lst ds, a => ∃ vs, Rd H a (.lst vs) ∧ RpAll K H U ds vs
  | .dic ds, a => ∃ vs, Rd H a (.dK vs) ∧ RpK K H U ds vs
  | .dit ds, a => ∃ vs, Rd H a (.dT vs) ∧ RpT K H U ds vs
  | .din w ds, a => ∃ xs, Rd H a (.ext (DNat w a xs)) ∧ RpN K H U ds xs
  | .obj C fs, a => ∃ dx gs, H a = some (.ins C dx gs) ∧ RvF K H U fs gs
  | _, _ => False
def SlotOk : Sl → Option V → Prop
  | .emp, _ => True
  | .shr d, o => ∃ v, o = some v ∧ Rp K H U d v
  | .own d, o => ∃ a, o = some (.ref a) ∧ U a ∧ TopW K H U d a
  | .par d, o => ∃ a, o = some (.ref a) ∧ U a ∧ TopW K H U d a
  | .owb d, o => ∃ a, o = some (.ref a) ∧ U a ∧ TopB K H U d a
  | .pab d, o => ∃ a, o = some (.ref a) ∧ U a ∧ TopB K H U d a
  | .brw _, _ => True
end
def Own (ρ : En) (σ : St) (x : Addr) : Prop := ∃ (i : Nat) (s : Sl) (o : Option V), ρ[i]? = some s ∧ σ[i]? = some o ∧ s.reg o x
theorem Own.root {ρ : En} {σ : St} {i : Nat} {s : Sl} {a : Addr} (h1 : ρ[i]? = some s) (h2 : s.isW = true) (h3 : σ[i]? = some (some (.ref a))) : Own ρ σ a := ⟨i, s, _, h1, h3, h2, .inl rfl⟩

structure Fr where
  K : PySem.W.Frag
  H0 : Hp
  U0 : US
  W0 : US
  S0 : St
  L0 : Nat → Option D → Prop

/-- what a lent slot's address shields: itself and its boxes -/
def D.reg (d : D) (a x : Addr) : Prop := x = a ∨ x ∈ d.bxs
structure Rel (F : Fr) (U : US) (ρ : En) (σ : St) (H : Hp) : Prop where
  len : ρ.length = σ.length
  slot : ∀ (i : Nat) (s : Sl) (o : Option V), ρ[i]? = some s → σ[i]? = some o → SlotOk F.K H U s o
  bor : ∀ (i : Nat) (d : D) (o : Option V), ρ[i]? = some (.brw d) → σ[i]? = some o → (∃ v, o = some v ∧ Rp F.K H U d v) ∨ (∃ a, o = some (.ref a) ∧ TopR F.K H U d a ∧ ∀ x, d.reg a x → ¬ Own ρ σ x)
  inj : ∀ (i j : Nat) (s t : Sl) (o o' : Option V) (x : Addr), ρ[i]? = some s → ρ[j]? = some t → σ[i]? = some o → σ[j]? = some o' → s.reg o x → t.reg o' x → i = j
  tr : ∀ a, U a → ∃ o, H a = some o
  keep : ∀ a o, F.H0 a = some o → ¬ F.W0 a → H a = some o
  ktr : ∀ a o, F.H0 a = some o → ∃ o', H a = some o'
  shar : ∀ a o, F.H0 a = some o → ¬ F.U0 a → ¬ U a
  up : ∀ a, F.U0 a → ¬ F.W0 a → U a
  new : ∀ a, Own ρ σ a → F.W0 a ∨ F.H0 a = none
  lock : ∀ (i : Nat) (s : Sl) (l : Option D), ρ[i]? = some s → s.lk = some l → F.L0 i l ∧ σ[i]? = F.S0[i]?
  wu : ∀ a, F.W0 a → F.U0 a
  b0 : ∀ (j : Nat) (d : D), F.L0 j (some d) → (∃ v, F.S0[j]? = some (some v) ∧ Rp F.K F.H0 F.U0 d v) ∨ (∃ (a : Addr), F.S0[j]? = some (some (.ref a)) ∧ ∀ x, d.reg a x → ∃ o, F.H0 x = some o)
  u0 : ∀ a, F.U0 a → ∃ o, F.H0 a = some o

section
variable {K : PySem.W.Frag} {H H' : Hp} {U U' : US} {d : D} {a : Addr}
theorem rpF_rvF : ∀ {ds : List (Str × D)} {vs : List (Str × V)}, RpF K H U ds vs → RvF K H U ds vs
  | [], _, h => by simpa only [RpF, RvF] using h
  | (k, d) :: ds, _, h => by
    simp only [RpF] at h
    obtain ⟨v, r, e, h1, h2⟩ := h
    refine ⟨v, r, e, ?_, rpF_rvF h2⟩
    cases d <;> first | exact h1 | (simp only [Rp] at h1)
theorem TopW.r0 (h : TopW K H U d a) : TopR0 K H U d a := by
  cases d <;> first | exact h.elim | (obtain ⟨vs, h1, h2⟩ := h; first | exact ⟨vs, .inl h1, h2⟩ | exact ⟨vs, h1, h2⟩)
theorem TopW.r (h : TopW K H U d a) : TopR K H U d a := by
  cases d <;> first | exact h.elim | (obtain ⟨vs, h1, h2⟩ := h; first | exact ⟨vs, .inl h1, h2⟩ | (obtain ⟨gs, h1, h2⟩ := (⟨h1, h2⟩ : ∃ gs, _ ∧ _); exact ⟨vs, gs, h1, rpF_rvF h2⟩) | (obtain ⟨h2, h3⟩ := h2; exact ⟨vs, h1, h2, rpF_rvF h3⟩))
theorem ovF_rvF : ∀ {ds : List (Str × D)} {vs : List (Str × V)}, OvF K H U ds vs → RvF K H U ds vs
  | [], _, h => by simpa only [OvF, RvF] using h
  | (k, d) :: ds, _, h => by
    simp only [OvF] at h
    obtain ⟨v, r, e, h1, h2⟩ := h
    refine ⟨v, r, e, ?_, ovF_rvF h2⟩
    cases d <;> first | exact h1 | skip
    obtain ⟨e1, _, t⟩ := h1
    exact ⟨e1, t.r0⟩
theorem TopB.r (h : TopB K H U d a) : TopR K H U d a := by
  cases d <;> first | exact h.elim | skip
  obtain ⟨dx, gs, h1, h2, _⟩ := h
  exact ⟨dx, gs, h1, ovF_rvF h2⟩
theorem TopW.pres (p : Pres H U H' U') (e : ∀ o, H a = some o → H' a = some o) (h : TopW K H U d a) : TopW K H' U' d a := by
  cases d with
  | lst ds => obtain ⟨vs, h1, h2⟩ := h; exact ⟨vs, e _ h1, RpAll.pres p ds vs h2⟩
  | dic ds => obtain ⟨vs, h1, h2⟩ := h; exact ⟨vs, e _ h1, RpK.pres p ds vs h2⟩
  | dit ds => obtain ⟨vs, h1, h2⟩ := h; exact ⟨vs, e _ h1, RpT.pres p ds vs h2⟩
  | din w ds => obtain ⟨vs, h1, h2⟩ := h; exact ⟨vs, e _ h1, RpN.pres p ds vs h2⟩
  | obj C fs => obtain ⟨dx, gs, h1, h2⟩ := h; exact ⟨dx, gs, e _ h1, RpF.pres p fs gs h2⟩
  | _ => exact h.elim
theorem OvF.pres (p : Pres H U H' U') : ∀ {ds : List (Str × D)} {vs : List (Str × V)}, (∀ x, x ∈ bxsF ds → U x → U' x ∧ ∀ o, H x = some o → H' x = some o) → OvF K H U ds vs → OvF K H' U' ds vs
  | [], _, _, h => by simpa only [OvF] using h
  | (k, d) :: ds, _, e, h => by
    simp only [OvF] at h
    obtain ⟨v, r, e1, h1, h2⟩ := h
    cases d with
    | bx b d =>
      obtain ⟨e2, u, t⟩ := h1
      obtain ⟨u', k'⟩ := e b (List.mem_cons_self ..) u
      exact ⟨v, r, e1, ⟨e2, u', t.pres p k'⟩, OvF.pres p (fun x hx => e x (List.mem_cons_of_mem _ hx)) h2⟩
    | _ => exact ⟨v, r, e1, Rp.pres p _ _ h1, OvF.pres p e h2⟩
theorem TopB.pres (p : Pres H U H' U') (e : ∀ o, H a = some o → H' a = some o) (eb : ∀ x, x ∈ d.bxs → U x → U' x ∧ ∀ o, H x = some o → H' x = some o) (h : TopB K H U d a) : TopB K H' U' d a := by
  cases d <;> first | exact h.elim | skip
  obtain ⟨dx, gs, h1, h2, h3⟩ := h
  exact ⟨dx, gs, e _ h1, h2.pres p eb, h3⟩
theorem rd_pres {a : Addr} (e : ∀ o, H a = some o → H' a = some o) : ∀ u, Rd H a u → Rd H' a u := fun u h => h.elim (fun h => .inl (e _ h)) fun ⟨o, h⟩ => .inr ⟨o, e _ h⟩
theorem TopR0.pres (p : Pres H U H' U') (e : ∀ o, H a = some o → H' a = some o) (h : TopR0 K H U d a) : TopR0 K H' U' d a := by
  cases d with
  | lst ds => obtain ⟨vs, h1, h2⟩ := h; exact ⟨vs, rd_pres e _ h1, RpAll.pres p ds vs h2⟩
  | dic ds => obtain ⟨vs, h1, h2⟩ := h; exact ⟨vs, rd_pres e _ h1, RpK.pres p ds vs h2⟩
  | dit ds => obtain ⟨vs, h1, h2⟩ := h; exact ⟨vs, rd_pres e _ h1, RpT.pres p ds vs h2⟩
  | din w ds => obtain ⟨vs, h1, h2⟩ := h; exact ⟨vs, rd_pres e _ h1, RpN.pres p ds vs h2⟩
  | obj C fs => obtain ⟨dx, gs, h1, h2⟩ := h; exact ⟨dx, gs, e _ h1, RpF.pres p fs gs h2⟩
  | _ => exact h.elim
theorem RvF.pres (p : Pres H U H' U') : ∀ {ds : List (Str × D)} {vs : List (Str × V)}, (∀ x, x ∈ bxsF ds → ∀ o, H x = some o → H' x = some o) → RvF K H U ds vs → RvF K H' U' ds vs
  | [], _, _, h => by simpa only [RvF] using h
  | (k, d) :: ds, _, e, h => by
    simp only [RvF] at h
    obtain ⟨v, r, e1, h1, h2⟩ := h
    cases d with
    | bx b d =>
      obtain ⟨e2, t⟩ := h1
      exact ⟨v, r, e1, ⟨e2, t.pres p (e b (List.mem_cons_self ..))⟩, RvF.pres p (fun x hx => e x (List.mem_cons_of_mem _ hx)) h2⟩
    | _ => exact ⟨v, r, e1, Rp.pres p _ _ h1, RvF.pres p e h2⟩
theorem TopR.pres (p : Pres H U H' U') (e : ∀ x, d.reg a x → ∀ o, H x = some o → H' x = some o) (h : TopR K H U d a) : TopR K H' U' d a := by
  have e0 := e a (.inl rfl)
  cases d with
  | lst ds => obtain ⟨vs, h1, h2⟩ := h; exact ⟨vs, rd_pres e0 _ h1, RpAll.pres p ds vs h2⟩
  | dic ds => obtain ⟨vs, h1, h2⟩ := h; exact ⟨vs, rd_pres e0 _ h1, RpK.pres p ds vs h2⟩
  | dit ds => obtain ⟨vs, h1, h2⟩ := h; exact ⟨vs, rd_pres e0 _ h1, RpT.pres p ds vs h2⟩
  | din w ds => obtain ⟨vs, h1, h2⟩ := h; exact ⟨vs, rd_pres e0 _ h1, RpN.pres p ds vs h2⟩
  | obj C fs => obtain ⟨dx, gs, h1, h2⟩ := h; exact ⟨dx, gs, e0 _ h1, h2.pres p fun x hx => e x (.inr hx)⟩
  | _ => exact h.elim
theorem TopR0.some (h : TopR0 K H U d a) : ∃ o, H a = some o := by
  have rd : ∀ u, Rd H a u → ∃ o, H a = Option.some o := fun u h => h.elim (fun h => ⟨_, h⟩) fun ⟨o, h⟩ => ⟨_, h⟩
  cases d with
  | lst ds => obtain ⟨vs, h1, h2⟩ := h; exact rd _ h1
  | dic ds => obtain ⟨vs, h1, h2⟩ := h; exact rd _ h1
  | dit ds => obtain ⟨vs, h1, h2⟩ := h; exact rd _ h1
  | din w ds => obtain ⟨vs, h1, h2⟩ := h; exact rd _ h1
  | obj C fs => obtain ⟨dx, gs, h1, h2⟩ := h; exact ⟨_, h1⟩
  | _ => exact h.elim
theorem RvF.som : ∀ {ds : List (Str × D)} {vs : List (Str × V)}, RvF K H U ds vs → ∀ x, x ∈ bxsF ds → ∃ o, H x = some o
  | [], _, _, x, hx => by cases hx
  | (k, d) :: ds, _, h, x, hx => by
    simp only [RvF] at h
    obtain ⟨v, r, e1, h1, h2⟩ := h
    cases d with
    | bx b d =>
      rcases List.mem_cons.mp hx with e | hx
      · subst e; exact h1.2.some
      · exact h2.som x hx
    | _ => exact h2.som x hx
theorem TopR.some (h : TopR K H U d a) : ∀ x, d.reg a x → ∃ o, H x = some o := by
  have rd : ∀ u, Rd H a u → ∃ o, H a = Option.some o := fun u h => h.elim (fun h => ⟨_, h⟩) fun ⟨o, h⟩ => ⟨_, h⟩
  intro x hx
  cases d with
  | lst ds => obtain ⟨vs, h1, h2⟩ := h; rcases hx with e | hx; (subst e; exact rd _ h1); cases hx
  | dic ds => obtain ⟨vs, h1, h2⟩ := h; rcases hx with e | hx; (subst e; exact rd _ h1); cases hx
  | dit ds => obtain ⟨vs, h1, h2⟩ := h; rcases hx with e | hx; (subst e; exact rd _ h1); cases hx
  | din w ds => obtain ⟨vs, h1, h2⟩ := h; rcases hx with e | hx; (subst e; exact rd _ h1); cases hx
  | obj C fs =>
    obtain ⟨dx, gs, h1, h2⟩ := h
    rcases hx with e | hx
    · subst e; exact ⟨_, h1⟩
    · exact h2.som x hx
  | _ => exact h.elim
theorem TopW.nob (h : TopW K H U d a) : d.bxs = [] := by
  cases d <;> first | rfl | exact h.elim | skip
  obtain ⟨dx, gs, h1, h2⟩ := h
  have go : ∀ {ds : List (Str × D)} {vs : List (Str × V)}, RpF K H U ds vs → bxsF ds = [] := by
    intro ds
    induction ds with
    | nil => intro _ _; rfl
    | cons p ds ih =>
      intro vs h
      obtain ⟨k, d⟩ := p
      simp only [RpF] at h
      obtain ⟨v, r, e1, h1, h2⟩ := h
      cases d <;> first | exact ih h2 | (simp only [Rp] at h1)
  exact go h2
theorem OvF.u : ∀ {ds : List (Str × D)} {vs : List (Str × V)}, OvF K H U ds vs → ∀ x, x ∈ bxsF ds → U x
  | [], _, _, x, hx => by cases hx
  | (k, d) :: ds, _, h, x, hx => by
    simp only [OvF] at h
    obtain ⟨v, r, e1, h1, h2⟩ := h
    cases d with
    | bx b d =>
      rcases List.mem_cons.mp hx with e | hx
      · subst e; exact h1.2.1
      · exact h2.u x hx
    | _ => exact h2.u x hx
theorem TopB.u (h : TopB K H U d a) : ∀ x, x ∈ d.bxs → U x := by
  cases d <;> first | exact h.elim | skip
  obtain ⟨dx, gs, h1, h2, h3⟩ := h
  exact h2.u
theorem SlotOk.regU {s : Sl} {o : Option V} (h : SlotOk K H U s o) {x : Addr} (r : s.reg o x) : U x := by
  obtain ⟨w, r⟩ := r
  cases s with
  | own d => obtain ⟨b, e, u, _⟩ := h; rcases r with r | r; (rw [e] at r; cases r; exact u); cases r
  | par d => obtain ⟨b, e, u, _⟩ := h; rcases r with r | r; (rw [e] at r; cases r; exact u); cases r
  | owb d => obtain ⟨b, e, u, t⟩ := h; rcases r with r | r; (rw [e] at r; cases r; exact u); exact t.u x r
  | pab d => obtain ⟨b, e, u, t⟩ := h; rcases r with r | r; (rw [e] at r; cases r; exact u); exact t.u x r
  | _ => cases w
/-- a slot's data stays if what it owns stays -/
theorem SlotOk.pres (p : Pres H U H' U') {s : Sl} {o : Option V} (e : ∀ x, s.reg o x → U x → U' x ∧ ∀ u, H x = some u → H' x = some u) (h : SlotOk K H U s o) : SlotOk K H' U' s o := by
  cases s with
  | emp => trivial
  | brw d => trivial
  | shr d => obtain ⟨v, e1, q⟩ := h; exact ⟨v, e1, Rp.pres p d v q⟩
  | own d => obtain ⟨a, rfl, u, q⟩ := h; obtain ⟨u', k⟩ := e a ⟨rfl, .inl rfl⟩ u; exact ⟨a, rfl, u', q.pres p k⟩
  | par d => obtain ⟨a, rfl, u, q⟩ := h; obtain ⟨u', k⟩ := e a ⟨rfl, .inl rfl⟩ u; exact ⟨a, rfl, u', q.pres p k⟩
  | owb d => obtain ⟨a, rfl, u, q⟩ := h; obtain ⟨u', k⟩ := e a ⟨rfl, .inl rfl⟩ u; exact ⟨a, rfl, u', q.pres p k fun x hx => e x ⟨rfl, .inr hx⟩⟩
  | pab d => obtain ⟨a, rfl, u, q⟩ := h; obtain ⟨u', k⟩ := e a ⟨rfl, .inl rfl⟩ u; exact ⟨a, rfl, u', q.pres p k fun x hx => e x ⟨rfl, .inr hx⟩⟩
theorem SlotOk.ref {s : Sl} {o : Option V} (h : SlotOk K H U s o) (w : s.isW = true) : ∃ a, o = some (.ref a) ∧ U a := by
  cases s with
  | own d => obtain ⟨a, e, u, _⟩ := h; exact ⟨a, e, u⟩
  | par d => obtain ⟨a, e, u, _⟩ := h; exact ⟨a, e, u⟩
  | owb d => obtain ⟨a, e, u, _⟩ := h; exact ⟨a, e, u⟩
  | pab d => obtain ⟨a, e, u, _⟩ := h; exact ⟨a, e, u⟩
  | _ => cases w
end
theorem set_get {α : Type} {l : List α} {i j : Nat} {x y : α} (h : (l.set i x)[j]? = some y) : (i = j ∧ y = x ∧ i < l.length) ∨ (i ≠ j ∧ l[j]? = some y) := by
  by_cases e : i = j
  · subst e
    by_cases hl : i < l.length
    · rw [List.getElem?_set_self hl] at h
      exact .inl ⟨rfl, (Option.some.inj h).symm, hl⟩
    · rw [List.getElem?_eq_none (by rw [List.length_set]; omega)] at h
      cases h
  · rw [List.getElem?_set_ne e] at h
    exact .inr ⟨e, h⟩
theorem reg_noW {s : Sl} {o : Option V} {x : Addr} (h : s.isW = false) : ¬ s.reg o x := fun r => by rw [r.1] at h; cases h

section
variable {F : Fr} {U U' : US} {ρ ρ' : En} {σ : St} {H H' : Hp}
theorem Rel.ownU (R : Rel F U ρ σ H) {a : Addr} (h : Own ρ σ a) : U a := by
  obtain ⟨i, s, o, h1, h2, h3⟩ := h
  exact (R.slot i s _ h1 h2).regU h3
/-- what is owned did not stand as shared at the start -/
theorem Rel.own0 (R : Rel F U ρ σ H) {a : Addr} (h : Own ρ σ a) (u : F.U0 a) : F.W0 a := by
  rcases R.new a h with z | z
  · exact z
  · obtain ⟨o, e⟩ := R.u0 a u
    rw [z] at e; cases e
/-- the frame's slots after a change that keeps what stands -/
theorem Rel.ext (R : Rel F U ρ σ H) (e : ∀ a o, H a = some o → H' a = some o) : Rel F U ρ σ H' := by
  have p : Pres H U H' U := fun a o h n => ⟨e a o h, n⟩
  refine ⟨R.len, fun i s o h1 h2 => (R.slot i s o h1 h2).pres p fun x _ u => ⟨u, e x⟩, fun i d o h1 h2 => ?_, R.inj, fun a h => ?_, fun a o h n => e a o (R.keep a o h n), fun a o h => ?_, R.shar, R.up, R.new, R.lock, R.wu, R.b0, R.u0⟩
  · rcases R.bor i d o h1 h2 with ⟨v, e1, q⟩ | ⟨a, e1, q, n⟩
    · exact .inl ⟨v, e1, Rp.pres p d v q⟩
    · exact .inr ⟨a, e1, q.pres p fun x _ => e x, n⟩
  · obtain ⟨o, h⟩ := R.tr a h
    exact ⟨o, e a o h⟩
  · obtain ⟨o', h⟩ := R.ktr a o h
    exact ⟨o', e a o' h⟩
theorem Rel.fresh (R : Rel F U ρ σ H) {a : Addr} (h : H a = none) : ¬ U a := fun u => by
  obtain ⟨o, e⟩ := R.tr a u
  rw [h] at e; cases e
theorem ext_new {H : Hp} {p : Addr} {o : HO} (h : H p = none) : ∀ a u, H a = some u → upd H p o a = some u := fun a u e => by
  rw [upd_ne (ne_of_none e h)]; exact e
theorem reg_upd {s : Sl} {d' : D} {o : Option V} {x : Addr} (h : (s.upd d').reg o x) (hb : ∀ y, y ∈ (s.upd d').bxs → y ∈ s.bxs) : s.reg o x := by
  obtain ⟨w, h⟩ := h
  refine ⟨?_, h.imp id (hb x)⟩
  cases s <;> first | rfl | exact w
theorem isW_upd {s : Sl} {d' : D} : (s.upd d').isW = s.isW := by cases s <;> rfl
theorem lk_upd {s : Sl} {d' : D} (h : s.isW = true) : (s.upd d').lk = s.lk := by cases s <;> first | rfl | cases h
/-- an owned object of slot i (its root or a box) is written -/
theorem Rel.writeX (R : Rel F U ρ σ H) {i : Nat} {s : Sl} {a x : Addr} {d' : D} {o' : HO} (h1 : ρ[i]? = some s) (h2 : s.isW = true) (h3 : σ[i]? = some (some (.ref a))) (hx : s.reg (some (.ref a)) x)
    (hb : ∀ y, y ∈ (s.upd d').bxs → y ∈ s.bxs) (new : SlotOk F.K (upd H x o') U (s.upd d') (some (.ref a))) : Rel F U (ρ.set i (s.upd d')) σ (upd H x o') := by
  have hox : Own ρ σ x := ⟨i, s, _, h1, h3, hx⟩
  have hu : U x := R.ownU hox
  have hi : i < ρ.length := (List.getElem?_eq_some_iff.mp h1).1
  have p : Pres H U (upd H x o') U := fun y o h n => ⟨by
    have nx : y ≠ x := fun e => n (by rw [e]; exact hu)
    rw [upd_ne nx]
    exact h, n⟩
  have own' : ∀ y, Own (ρ.set i (s.upd d')) σ y → Own ρ σ y := fun y => by
    rintro ⟨j, t, o, q1, q2, q3⟩
    rcases set_get q1 with ⟨e, rfl, _⟩ | ⟨_, q1⟩
    · subst e; exact ⟨i, s, o, h1, q2, reg_upd q3 hb⟩
    · exact ⟨j, t, o, q1, q2, q3⟩
  refine ⟨by rw [List.length_set]; exact R.len, fun j t o q1 q2 => ?_, fun j d o q1 q2 => ?_, fun j k t u o o2 b q1 q2 q3 q4 q5 q6 => ?_, fun y u => ?_, fun y o q n => ?_, fun y o q => ?_, R.shar, R.up, fun y q => R.new y (own' y q), fun j t l q1 q2 => ?_, R.wu, R.b0, R.u0⟩
  · rcases set_get q1 with ⟨e, rfl, _⟩ | ⟨ne, q1⟩
    · subst e
      rw [h3] at q2; cases q2
      exact new
    · refine (R.slot j t o q1 q2).pres p fun y hy u => ⟨u, fun w hw => ?_⟩
      have nb : y ≠ x := fun e => ne (R.inj i j s t _ _ x h1 q1 h3 q2 hx (e ▸ hy))
      rw [upd_ne nb]; exact hw
  · rcases set_get q1 with ⟨e, e2, _⟩ | ⟨ne, q1⟩
    · have : (s.upd d').isW = true := isW_upd.trans h2
      rw [← e2] at this; cases this
    · rcases R.bor j d o q1 q2 with ⟨v, e1, q⟩ | ⟨b, e1, q, n⟩
      · exact .inl ⟨v, e1, Rp.pres p d v q⟩
      · refine .inr ⟨b, e1, q.pres p (fun y hy w hw => ?_), fun y hy z => n y hy (own' y z)⟩
        have nb : y ≠ x := fun e => n y hy (by rw [e]; exact hox)
        rw [upd_ne nb]; exact hw
  · have f : ∀ {j : Nat} {t : Sl} {o : Option V}, (ρ.set i (s.upd d'))[j]? = some t → t.reg o b → ∃ t' : Sl, ρ[j]? = some t' ∧ t'.reg o b := fun {j t o} q1 q3 => by
      rcases set_get q1 with ⟨e, rfl, _⟩ | ⟨ne, q1⟩
      · subst e; exact ⟨s, h1, reg_upd q3 hb⟩
      · exact ⟨t, q1, q3⟩
    obtain ⟨t', z1, z2⟩ := f q1 q5
    obtain ⟨u', z3, z4⟩ := f q2 q6
    exact R.inj j k t' u' o o2 b z1 z3 q3 q4 z2 z4
  · by_cases e : y = x
    · subst e; exact ⟨_, upd_same⟩
    · obtain ⟨o, h⟩ := R.tr y u
      exact ⟨o, by rw [upd_ne e]; exact h⟩
  · have nx : y ≠ x := fun e => by
      subst e
      rcases R.new y hox with z | z
      · exact n z
      · rw [z] at q; cases q
    rw [upd_ne nx]; exact R.keep y o q n
  · by_cases e : y = x
    · subst e; exact ⟨_, upd_same⟩
    · obtain ⟨o', h⟩ := R.ktr y o q
      exact ⟨o', by rw [upd_ne e]; exact h⟩
  · rcases set_get q1 with ⟨e, rfl, _⟩ | ⟨ne, q1⟩
    · subst e; rw [lk_upd h2] at q2; exact R.lock i s l h1 q2
    · exact R.lock j t l q1 q2
def Sl.flat : Sl → Bool
  | .owb _ => false
  | .pab _ => false
  | _ => true
theorem flat_bxs {s : Sl} (h : s.flat = true) : s.bxs = [] := by cases s <;> first | rfl | cases h
theorem flat_upd {s : Sl} {d : D} : (s.upd d).flat = s.flat := by cases s <;> rfl
theorem flat_ok {K : PySem.W.Frag} {s : Sl} {d : D} {a : Addr} (w : s.isW = true) (f : s.flat = true) (u : U a) (t : TopW K H U d a) : SlotOk K H U (s.upd d) (some (.ref a)) := by
  cases s <;> first | exact ⟨a, rfl, u, t⟩ | (cases f; done) | (cases w; done)
/-- an owned object is written -/
theorem Rel.write (R : Rel F U ρ σ H) {i : Nat} {s : Sl} {a : Addr} {d' : D} {o' : HO} (h1 : ρ[i]? = some s) (h2 : s.isW = true) (hf : s.flat = true) (h3 : σ[i]? = some (some (.ref a)))
    (new : TopW F.K (upd H a o') U d' a) : Rel F U (ρ.set i (s.upd d')) σ (upd H a o') :=
  R.writeX h1 h2 h3 ⟨h2, .inl rfl⟩ (fun y hy => by rw [flat_bxs (flat_upd.trans hf)] at hy; cases hy) (flat_ok h2 hf (R.ownU (Own.root h1 h2 h3)) new)
/-- a slot that is not locked gets something that owns nothing -/
theorem Rel.setNo (R : Rel F U ρ σ H) {i : Nat} {s s' : Sl} {o' : Option V} (h1 : ρ[i]? = some s) (h2 : s.locked = false) (hw : s'.isW = false) (hl : s'.lk = none) (ok : SlotOk F.K H U s' o') : Rel F U (ρ.set i s') (σ.set i o') H := by
  have hi : i < σ.length := by rw [← R.len]; exact (List.getElem?_eq_some_iff.mp h1).1
  have own' : ∀ x, Own (ρ.set i s') (σ.set i o') x → Own ρ σ x := fun x ⟨j, t, o, q1, q2, q3⟩ => by
    rcases set_get q1 with ⟨e, rfl, _⟩ | ⟨ne, q1⟩
    · exact absurd q3 (reg_noW hw)
    · rw [List.getElem?_set_ne ne] at q2
      exact ⟨j, t, o, q1, q2, q3⟩
  refine ⟨by rw [List.length_set, List.length_set]; exact R.len, fun j t o q1 q2 => ?_, fun j d' o q1 q2 => ?_, fun j k t u o o2 b q1 q2 q3 q4 q5 q6 => ?_, R.tr, R.keep, R.ktr, R.shar, R.up, fun x q => R.new x (own' x q), fun j t l q1 q2 => ?_, R.wu, R.b0, R.u0⟩
  · rcases set_get q1 with ⟨e, rfl, _⟩ | ⟨ne, q1⟩
    · subst e
      rw [List.getElem?_set_self hi] at q2; cases q2
      exact ok
    · rw [List.getElem?_set_ne ne] at q2
      exact R.slot j t o q1 q2
  · rcases set_get q1 with ⟨e, e2, _⟩ | ⟨ne, q1⟩
    · rw [← e2] at hl; cases hl
    · rw [List.getElem?_set_ne ne] at q2
      rcases R.bor j d' o q1 q2 with z | ⟨b, e1, q, n⟩
      · exact .inl z
      · exact .inr ⟨b, e1, q, fun y hy z => n y hy (own' y z)⟩
  · rcases set_get q1 with ⟨e, rfl, _⟩ | ⟨ne, q1⟩
    · exact absurd q5 (reg_noW hw)
    · rcases set_get q2 with ⟨e, rfl, _⟩ | ⟨ne2, q2⟩
      · exact absurd q6 (reg_noW hw)
      · rw [List.getElem?_set_ne ne] at q3
        rw [List.getElem?_set_ne ne2] at q4
        exact R.inj j k t u o o2 b q1 q2 q3 q4 q5 q6
  · rcases set_get q1 with ⟨e, rfl, _⟩ | ⟨ne, q1⟩
    · rw [hl] at q2; cases q2
    · rw [List.getElem?_set_ne ne]
      exact R.lock j t l q1 q2
/-- a slot that is not locked gets a shared value -/
theorem Rel.setShr (R : Rel F U ρ σ H) {i : Nat} {s : Sl} {d : D} {v : V} (h1 : ρ[i]? = some s) (h2 : s.locked = false) (r : Rp F.K H U d v) : Rel F U (ρ.set i (.shr d)) (σ.set i (some v)) H :=
  R.setNo h1 h2 rfl rfl ⟨v, rfl, r⟩
/-- .. is emptied -/
theorem Rel.setEmp (R : Rel F U ρ σ H) {i : Nat} {s : Sl} {o : Option V} (h1 : ρ[i]? = some s) (h2 : s.locked = false) : Rel F U (ρ.set i .emp) (σ.set i o) H :=
  R.setNo h1 h2 rfl rfl trivial
/-- a new object, owned by nobody yet, of which nobody else knows -/
structure Fresh (F : Fr) (U : US) (H : Hp) (d : D) (a : Addr) : Prop where
  top : TopW F.K H U d a
  u : U a
  new : F.H0 a = none
/-- a slot that is not locked gets a new object, with its boxes -/
theorem Rel.setNew (R : Rel F U ρ σ H) {i : Nat} {s s' : Sl} {a : Addr} (h1 : ρ[i]? = some s) (h2 : s.locked = false) (hl : s'.lk = none) (ok : SlotOk F.K H U s' (some (.ref a))) (nw : ∀ x, s'.reg (some (.ref a)) x → F.W0 x ∨ F.H0 x = none) (no : ∀ x, s'.reg (some (.ref a)) x → ¬ Own ρ σ x)
    (nb : ∀ (j : Nat) (e : D), ρ[j]? = some (.brw e) → ∀ b, σ[j]? = some (some (.ref b)) → (∃ x, e.reg b x ∧ s'.reg (some (.ref a)) x) → Rp F.K H U e (.ref b)) : Rel F U (ρ.set i s') (σ.set i (some (.ref a))) H := by
  have hi : i < σ.length := by rw [← R.len]; exact (List.getElem?_eq_some_iff.mp h1).1
  have own' : ∀ x, Own (ρ.set i s') (σ.set i (some (.ref a))) x → Own ρ σ x ∨ s'.reg (some (.ref a)) x := fun x ⟨j, t, o, q1, q2, q3⟩ => by
    rcases set_get q1 with ⟨e, rfl, _⟩ | ⟨ne, q1⟩
    · subst e
      rw [List.getElem?_set_self hi] at q2
      cases q2
      exact .inr q3
    · rw [List.getElem?_set_ne ne] at q2
      exact .inl ⟨j, t, o, q1, q2, q3⟩
  refine ⟨by rw [List.length_set, List.length_set]; exact R.len, fun j t o q1 q2 => ?_, fun j d' o q1 q2 => ?_, fun j k t u o o2 b q1 q2 q3 q4 q5 q6 => ?_, R.tr, R.keep, R.ktr, R.shar, R.up, fun x q => ?_, fun j t l q1 q2 => ?_, R.wu, R.b0, R.u0⟩
  · rcases set_get q1 with ⟨e, rfl, _⟩ | ⟨ne, q1⟩
    · subst e
      rw [List.getElem?_set_self hi] at q2; cases q2
      exact ok
    · rw [List.getElem?_set_ne ne] at q2
      exact R.slot j t o q1 q2
  · rcases set_get q1 with ⟨e, e2, _⟩ | ⟨ne, q1⟩
    · rw [← e2] at hl; cases hl
    · rw [List.getElem?_set_ne ne] at q2
      rcases R.bor j d' o q1 q2 with z | ⟨b, e1, q, n⟩
      · exact .inl z
      · by_cases ex : ∃ x, d'.reg b x ∧ s'.reg (some (.ref a)) x
        · subst e1
          exact .inl ⟨_, rfl, nb j d' q1 b q2 ex⟩
        · exact .inr ⟨b, e1, q, fun y hy z => (own' y z).elim (n y hy) fun w => ex ⟨y, hy, w⟩⟩
  · rcases set_get q1 with ⟨e, rfl, _⟩ | ⟨ne, q1'⟩
    · rcases set_get q2 with ⟨e2, rfl, _⟩ | ⟨ne2, q2⟩
      · omega
      · subst e
        rw [List.getElem?_set_self hi] at q3; cases q3
        rw [List.getElem?_set_ne ne2] at q4
        exact absurd ⟨k, u, o2, q2, q4, q6⟩ (no b q5)
    · rcases set_get q2 with ⟨e2, e3, _⟩ | ⟨ne2, q2'⟩
      · subst e2
        rw [List.getElem?_set_self hi] at q4; cases q4
        rw [List.getElem?_set_ne ne] at q3
        rw [e3] at q6
        exact absurd ⟨j, t, o, q1', q3, q5⟩ (no b q6)
      · rw [List.getElem?_set_ne ne] at q3
        rw [List.getElem?_set_ne ne2] at q4
        exact R.inj j k t u o o2 b q1' q2' q3 q4 q5 q6
  · rcases own' x q with z | z
    · exact R.new x z
    · exact nw x z
  · rcases set_get q1 with ⟨e, rfl, _⟩ | ⟨ne, q1⟩
    · rw [hl] at q2; cases q2
    · rw [List.getElem?_set_ne ne]
      exact R.lock j t l q1 q2
theorem reg_own {d : D} {a x : Addr} (h : (Sl.own d).reg (some (.ref a)) x) : x = a := by
  rcases h.2 with h | h
  · cases h; rfl
  · cases h
theorem reg_flat {s : Sl} (f : s.flat = true) {a x : Addr} (h : s.reg (some (.ref a)) x) : x = a := by
  rcases h.2 with h | h
  · cases h; rfl
  · rw [flat_bxs f] at h; cases h
/-- a slot that is not locked gets a new object -/
theorem Rel.setOwn (R : Rel F U ρ σ H) {i : Nat} {s : Sl} {d : D} {a : Addr} (h1 : ρ[i]? = some s) (h2 : s.locked = false) (r : Fresh F U H d a) (no : ¬ Own ρ σ a)
    (nb : ∀ (j : Nat) (e : D), ρ[j]? = some (.brw e) → ∀ b, σ[j]? = some (some (.ref b)) → e.reg b a → Rp F.K H U e (.ref b)) : Rel F U (ρ.set i (.own d)) (σ.set i (some (.ref a))) H :=
  R.setNew h1 h2 rfl ⟨a, rfl, r.u, r.top⟩ (fun x hx => by rw [reg_own hx]; exact .inr r.new) (fun x hx => by rw [reg_own hx]; exact no) fun j e q1 b q2 ⟨x, hx, hy⟩ => nb j e q1 b q2 (by rw [← reg_own hy]; exact hx)
/-- U may grow by objects that nobody knows yet -/
theorem Rel.growX (R : Rel F U ρ σ H) {N : Addr → Prop} (hn : ∀ a, N a → H a = none) (e : ∀ b u, H b = some u → H' b = some u) (ha : ∀ a, N a → ∃ o, H' a = some o) : Rel F (fun b => U b ∨ N b) ρ σ H' := by
  have p : Pres H U H' (fun b => U b ∨ N b) := fun x u h n => ⟨e x u h, fun z => z.elim n fun q => by rw [hn x q] at h; cases h⟩
  refine ⟨R.len, fun i s o h1 h2 => (R.slot i s o h1 h2).pres p fun x _ u => ⟨.inl u, e x⟩, fun i d o h1 h2 => ?_, R.inj, fun b h => ?_, fun a o h n => e a o (R.keep a o h n), fun a o h => ?_, fun b u h n z => ?_, fun b h w => .inl (R.up b h w), R.new, R.lock, R.wu, R.b0, R.u0⟩
  · rcases R.bor i d o h1 h2 with ⟨v, e1, q⟩ | ⟨b, e1, q, n⟩
    · exact .inl ⟨v, e1, Rp.pres p d v q⟩
    · exact .inr ⟨b, e1, q.pres p fun x _ => e x, n⟩
  · rcases h with h | h
    · obtain ⟨o, h⟩ := R.tr b h
      exact ⟨o, e b o h⟩
    · exact ha b h
  · obtain ⟨o', h⟩ := R.ktr a o h
    exact ⟨o', e a o' h⟩
  · rcases z with z | z
    · exact R.shar b u h n z
    · obtain ⟨o', h'⟩ := R.ktr b u h
      rw [hn b z] at h'; cases h'
theorem Rel.grow (R : Rel F U ρ σ H) {a : Addr} {o : HO} (hn : H a = none) (e : ∀ b u, H b = some u → H' b = some u) (ha : H' a = some o) : Rel F (fun b => U b ∨ b = a) ρ σ H' :=
  R.growX (N := fun b => b = a) (fun b h => by rw [h]; exact hn) e fun b h => ⟨o, by rw [h]; exact ha⟩
/-- U may shrink to what is owned and what the frame began with -/
theorem Rel.shrink (R : Rel F U' ρ σ H) (le : ∀ a, U a → U' a) (up : ∀ a, F.U0 a → ¬ F.W0 a → U a) (own : ∀ a, Own ρ σ a → U a) : Rel F U ρ σ H := by
  have p : Pres H U' H U := fun x u h n => ⟨h, fun z => n (le x z)⟩
  refine ⟨R.len, fun i s o h1 h2 => (R.slot i s o h1 h2).pres p fun x hx _ => ⟨own x ⟨i, s, o, h1, h2, hx⟩, fun _ z => z⟩, fun i d o h1 h2 => ?_, R.inj, fun b h => R.tr b (le b h), R.keep, R.ktr, fun b u h n z => R.shar b u h n (le b z), up, R.new, R.lock, R.wu, R.b0, R.u0⟩
  · rcases R.bor i d o h1 h2 with ⟨v, e1, q⟩ | ⟨b, e1, q, n⟩
    · exact .inl ⟨v, e1, Rp.pres p d v q⟩
    · exact .inr ⟨b, e1, q.pres p (fun _ _ _ z => z), n⟩
/-- what the frame began with still stands -/
theorem Rel.pres0 (R : Rel F U ρ σ H) : Pres F.H0 F.U0 H U := fun a o h n => ⟨R.keep a o h fun w => n (R.wu a w), R.shar a o h n⟩
end
end L3

set_option Elab.async false
set_option linter.all false
set_option maxRecDepth 100000
namespace L3
open PySem L2

/-! ### what an expression gives: a shared value, or what an owned (lent) slot holds -/
inductive Rs where
  | val (d : D) | sl (i : Nat) | bx (i : Nat) (f : Str) (b : Addr)
/-- the box in the field f of what slot i holds -/
def boxOf (ρ : En) (i : Nat) (f : Str) : Option (Addr × D) := match ρ[i]? with
  | some s => match s.dat with
    | some (.obj _ fs) => match fs.lookup f with
      | some (.bx b d) => some (b, d)
      | _ => none
    | _ => none
  | none => none
def isBrw (ρ : En) (i : Nat) : Bool := match ρ[i]? with
  | some (.brw _) => true
  | _ => false
def Rs.dat (ρ : En) : Rs → Option D
  | .val d => some d
  | .bx i f b => match boxOf ρ i f with
    | some (b', d) => if b' = b then some d else none
    | none => none
  | .sl i => match ρ[i]? with
    | some s => s.dat
    | none => none
/-- .. not of a lent slot -/
def Sl.datN : Sl → Option D
  | .brw _ => none
  | .owb _ => none
  | .pab _ => none
  | s => s.dat
def Rs.datN (ρ : En) : Rs → Option D
  | .val d => some d
  | .bx i f b => if isBrw ρ i then none else match boxOf ρ i f with
    | some (b', d) => if b' = b then some d else none
    | none => none
  | .sl i => match ρ[i]? with
    | some s => s.datN
    | none => none
def RV (F : Fr) (U : US) (σ : St) (H : Hp) : Rs → V → Prop
  | .val d, v => Rp F.K H U d v
  | .bx _ _ b, v => v = .ref b
  | .sl i, v => σ[i]? = some (some v)
structure Stp (ρ : En) (σ : St) (H : Hp) (ρ' : En) (H' : Hp) : Prop where
  keep : ∀ a o, H a = some o → ¬ Own ρ σ a → H' a = some o
  own : ∀ a, Own ρ' σ a → Own ρ σ a
  tr : ∀ a o, H a = some o → ∃ o', H' a = some o'
abbrev T3E := En → (Rs → En → Prop) → Prop
abbrev T3T := En → (Bool → En → Prop) → Prop
abbrev T3A := En → (List Rs → En → Prop) → Prop
/-- what follows, at both levels -/
abbrev KE (F : Fr) (U : US) (ρ : En) (σ : St) (H : Hp) (Q3 : Rs → En → Prop) (Q2 : VK) : Prop :=
  ∀ r v ρ' H', Rel F U ρ' σ H' → Stp ρ σ H ρ' H' → RV F U σ H' r v → Q3 r ρ' → Q2 v H'
def SimE (K : PySem.W.Frag) (t2 : TE) (t3 : T3E) : Prop :=
  ∀ (F : Fr) (U : US) (ρ : En) (σ : St) (H : Hp) (Q3 : Rs → En → Prop) (Q2 : VK), F.K = K → Rel F U ρ σ H → t3 ρ Q3 → KE F U ρ σ H Q3 Q2 → t2 σ H Q2
def SimT (K : PySem.W.Frag) (t2 : TT) (t3 : T3T) : Prop :=
  ∀ (F : Fr) (U : US) (ρ : En) (σ : St) (H : Hp) (Q3 : Bool → En → Prop) (Q2 : Bool → Hp → Prop), F.K = K → Rel F U ρ σ H → t3 ρ Q3 →
    (∀ b ρ' H', Rel F U ρ' σ H' → Stp ρ σ H ρ' H' → Q3 b ρ' → Q2 b H') → t2 σ H Q2
inductive RVs (F : Fr) (U : US) (σ : St) (H : Hp) : List Rs → List V → Prop
  | nil : RVs F U σ H [] []
  | cons {r : Rs} {v : V} {rs : List Rs} {vs : List V} : RV F U σ H r v → RVs F U σ H rs vs → RVs F U σ H (r :: rs) (v :: vs)
def SimA (K : PySem.W.Frag) (t2 : TA) (t3 : T3A) : Prop :=
  ∀ (F : Fr) (U : US) (ρ : En) (σ : St) (H : Hp) (Q3 : List Rs → En → Prop) (Q2 : List V → Hp → Prop), F.K = K → Rel F U ρ σ H → t3 ρ Q3 →
    (∀ rs vs ρ' H', Rel F U ρ' σ H' → Stp ρ σ H ρ' H' → RVs F U σ H' rs vs → Q3 rs ρ' → Q2 vs H') → t2 σ H Q2
/-- a two-place operation on values -/
def SimR2 (K : PySem.W.Frag) (r2 : R2) (r3 : Rs → Rs → En → (Rs → En → Prop) → Prop) : Prop :=
  ∀ (F : Fr) (U : US) (ρ : En) (σ : St) (H : Hp) (x y : V) (rx ry : Rs) (Q3 : Rs → En → Prop) (Q2 : VK), F.K = K → Rel F U ρ σ H → RV F U σ H rx x → RV F U σ H ry y → r3 rx ry ρ Q3 → KE F U ρ σ H Q3 Q2 → r2 x y H Q2
/-- a call by values -/
def SimCR (K : PySem.W.Frag) (r2 : List V → Hp → VK → Prop) (r3 : List Rs → En → (Rs → En → Prop) → Prop) : Prop :=
  ∀ (F : Fr) (U : US) (ρ : En) (σ : St) (H : Hp) (vs : List V) (rs : List Rs) (Q3 : Rs → En → Prop) (Q2 : VK), F.K = K → Rel F U ρ σ H → RVs F U σ H rs vs → r3 rs ρ Q3 → KE F U ρ σ H Q3 Q2 → r2 vs H Q2

section
variable {F : Fr} {U : US} {ρ ρ' ρ2 : En} {σ : St} {H H' H2 : Hp} {K : PySem.W.Frag}
theorem Stp.refl (R : Rel F U ρ σ H) : Stp ρ σ H ρ H := ⟨fun _ _ h _ => h, fun _ h => h, fun _ o h => ⟨o, h⟩⟩
theorem Stp.trans (a : Stp ρ σ H ρ' H') (b : Stp ρ' σ H' ρ2 H2) : Stp ρ σ H ρ2 H2 :=
  ⟨fun x o h n => b.keep x o (a.keep x o h n) fun z => n (a.own x z), fun x z => a.own x (b.own x z), fun x o h => let ⟨o', h'⟩ := a.tr x o h; b.tr x o' h'⟩
theorem Stp.pres (s : Stp ρ σ H ρ' H') (R : Rel F U ρ σ H) : Pres H U H' U := fun a o h n => ⟨s.keep a o h fun z => n (R.ownU z), n⟩
theorem Stp.ext (e : ∀ a o, H a = some o → H' a = some o) : Stp ρ σ H ρ H' := ⟨fun a o h _ => e a o h, fun _ h => h, fun a o h => ⟨o, e a o h⟩⟩
theorem RV.pres {r : Rs} {v : V} (h : RV F U σ H r v) (p : Pres H U H' U) : RV F U σ H' r v := by
  cases r with
  | val d => exact Rp.pres p d v h
  | sl i => exact h
  | bx i f b => exact h
theorem RVs.pres {rs : List Rs} {vs : List V} (h : RVs F U σ H rs vs) (p : Pres H U H' U) : RVs F U σ H' rs vs := by
  induction h with
  | nil => exact .nil
  | cons h _ ih => exact .cons (h.pres p) ih
theorem RvF.get : ∀ {ds : List (Str × D)} {vs : List (Str × V)} {f : Str} {d : D}, RvF K H U ds vs → ds.lookup f = some d → ∃ v, vs.lookup f = some v ∧ Rv K H U d v
  | [], _, _, _, _, e => by cases e
  | (k, d) :: ds, _, f, d', h, e => by
    simp only [RvF] at h
    obtain ⟨v, r, rfl, h1, h2⟩ := h
    rw [List.lookup_cons] at e ⊢
    cases hk : (f == k) with
    | true => rw [hk] at e; cases e; exact ⟨v, rfl, h1⟩
    | false => rw [hk] at e; exact RvF.get h2 e
theorem OvF.get : ∀ {ds : List (Str × D)} {vs : List (Str × V)} {f : Str} {d : D}, OvF K H U ds vs → ds.lookup f = some d → ∃ v, vs.lookup f = some v ∧ Ov K H U d v
  | [], _, _, _, _, e => by cases e
  | (k, d) :: ds, _, f, d', h, e => by
    simp only [OvF] at h
    obtain ⟨v, r, rfl, h1, h2⟩ := h
    rw [List.lookup_cons] at e ⊢
    cases hk : (f == k) with
    | true => rw [hk] at e; cases e; exact ⟨v, rfl, h1⟩
    | false => rw [hk] at e; exact OvF.get h2 e
theorem TopR0.r {d : D} {a : Addr} (h : TopR0 K H U d a) : TopR K H U d a := by
  cases d with
  | obj C fs => obtain ⟨dx, gs, h1, h2⟩ := h; exact ⟨dx, gs, h1, rpF_rvF h2⟩
  | _ => exact h
theorem boxOf_out {ρ : En} {i : Nat} {f : Str} {b : Addr} {d : D} (h : boxOf ρ i f = some (b, d)) : ∃ s C fs, ρ[i]? = some s ∧ s.dat = some (.obj C fs) ∧ fs.lookup f = some (.bx b d) := by
  unfold boxOf at h
  cases hs : ρ[i]? with
  | none => rw [hs] at h; cases h
  | some s =>
    rw [hs] at h
    refine ⟨s, ?_⟩
    cases hd : s.dat with
    | none => simp [hd] at h
    | some e =>
      cases e with
      | obj C fs =>
        simp only [hd] at h
        refine ⟨C, fs, rfl, rfl, ?_⟩
        cases hl : fs.lookup f with
        | none => simp [hl] at h
        | some e2 =>
          cases e2 <;> simp [hl] at h
          obtain ⟨rfl, rfl⟩ := h
          rfl
      | _ => simp [hd] at h
theorem noBx {b : Addr} {d : D} {v : V} (h : Rp K H U (.bx b d) v) : False := by simp only [Rp] at h
theorem RpF.noBx {fs : List (Str × D)} {gs : List (Str × V)} {f : Str} {b : Addr} {d : D} (h : RpF K H U fs gs) (e : fs.lookup f = some (.bx b d)) : False := by
  induction fs generalizing gs with
  | nil => cases e
  | cons p fs ih =>
    obtain ⟨k, d'⟩ := p
    simp only [RpF] at h
    obtain ⟨v, r, rfl, h1, h2⟩ := h
    rw [List.lookup_cons] at e
    cases hk : (f == k) with
    | true => rw [hk] at e; cases e; exact L3.noBx h1
    | false => rw [hk] at e; exact ih h2 e
/-- a box of a slot -/
theorem Rel.box (R : Rel F U ρ σ H) {i : Nat} {f : Str} {b : Addr} {d : D} (h : boxOf ρ i f = some (b, d)) : TopR F.K H U d b ∧ (isBrw ρ i = false → ∃ s C fs a, ρ[i]? = some s ∧ s.isW = true ∧ s.flat = false ∧ s.dat = some (.obj C fs) ∧ fs.lookup f = some (.bx b d) ∧ σ[i]? = some (some (.ref a)) ∧ TopB F.K H U (.obj C fs) a ∧ TopW F.K H U d b ∧ U b) := by
  obtain ⟨s, C, fs, h1, h2, h3⟩ := boxOf_out h
  have hi : i < σ.length := by rw [← R.len]; exact (List.getElem?_eq_some_iff.mp h1).1
  have hσ : σ[i]? = some σ[i] := List.getElem?_eq_getElem hi
  have q := R.slot i s _ h1 hσ
  have bo : ∀ {a : Addr}, TopB F.K H U (.obj C fs) a → TopW F.K H U d b ∧ U b := fun {a} t => by
    obtain ⟨dx, gs, g1, g2, g3⟩ := t
    obtain ⟨v, _, e2, u, t⟩ := g2.get h3
    exact ⟨t, u⟩
  cases s with
  | emp => cases h2
  | shr d' =>
    cases h2
    obtain ⟨v, _, q⟩ := q
    simp only [Rp] at q
    obtain ⟨a, dx, gs, _, _, _, g⟩ := q
    exact (g.noBx h3).elim
  | own d' => cases h2; obtain ⟨a, _, _, dx, gs, _, g⟩ := q; exact (g.noBx h3).elim
  | par d' => cases h2; obtain ⟨a, _, _, dx, gs, _, g⟩ := q; exact (g.noBx h3).elim
  | owb d' => cases h2; obtain ⟨a, e, _, t⟩ := q; exact ⟨(bo t).1.r, fun _ => ⟨_, C, fs, a, h1, rfl, rfl, rfl, h3, hσ.trans (by rw [e]), t, bo t⟩⟩
  | pab d' => cases h2; obtain ⟨a, e, _, t⟩ := q; exact ⟨(bo t).1.r, fun _ => ⟨_, C, fs, a, h1, rfl, rfl, rfl, h3, hσ.trans (by rw [e]), t, bo t⟩⟩
  | brw d' =>
    cases h2
    refine ⟨?_, fun z => by simp [isBrw, h1] at z⟩
    rcases R.bor i _ _ h1 hσ with ⟨v, _, g⟩ | ⟨a, _, t, _⟩
    · simp only [Rp] at g
      obtain ⟨a, dx, gs, _, _, _, g⟩ := g
      exact (g.noBx h3).elim
    · obtain ⟨dx, gs, _, g⟩ := t
      obtain ⟨v, _, _, t⟩ := g.get h3
      exact t.r
/-- what a result holds -/
theorem RV.get (R : Rel F U ρ σ H) {r : Rs} {v : V} {d : D} (h : RV F U σ H r v) (e : r.dat ρ = some d) : Rp F.K H U d v ∨ ∃ a, v = .ref a ∧ TopR F.K H U d a := by
  cases r with
  | val d' => cases e; exact .inl h
  | bx i f b =>
    have e : (match boxOf ρ i f with | some (b', d) => if b' = b then some d else none | none => none) = some d := e
    cases hb : boxOf ρ i f with
    | none => rw [hb] at e; cases e
    | some p =>
      obtain ⟨b', d'⟩ := p
      rw [hb] at e
      have e : (if b' = b then some d' else none) = some d := e
      by_cases z : b' = b
      · rw [if_pos z] at e; cases e; subst z
        exact .inr ⟨b', h, (R.box hb).1⟩
      · rw [if_neg z] at e; cases e
  | sl i =>
    have h : σ[i]? = some (some v) := h
    have e : (match ρ[i]? with | some s => s.dat | none => none) = some d := e
    cases hs : ρ[i]? with
    | none => rw [hs] at e; cases e
    | some s =>
      rw [hs] at e
      have q := R.slot i s _ hs h
      cases s with
      | emp => cases e
      | shr d' => cases e; obtain ⟨v', e', q⟩ := q; cases e'; exact .inl q
      | own d' => cases e; obtain ⟨a, e', _, q⟩ := q; cases e'; exact .inr ⟨a, rfl, q.r⟩
      | par d' => cases e; obtain ⟨a, e', _, q⟩ := q; cases e'; exact .inr ⟨a, rfl, q.r⟩
      | owb d' => cases e; obtain ⟨a, e', _, q⟩ := q; cases e'; exact .inr ⟨a, rfl, q.r⟩
      | pab d' => cases e; obtain ⟨a, e', _, q⟩ := q; cases e'; exact .inr ⟨a, rfl, q.r⟩
      | brw d' =>
        cases e
        rcases R.bor i d _ hs h with ⟨v', e', q2⟩ | ⟨a, e', q2, _⟩
        · cases e'; exact .inl q2
        · cases e'; exact .inr ⟨a, rfl, q2⟩
theorem RV.getN (R : Rel F U ρ σ H) {r : Rs} {v : V} {d : D} (h : RV F U σ H r v) (e : r.datN ρ = some d) : Rp F.K H U d v ∨ ∃ a, v = .ref a ∧ TopW F.K H U d a := by
  cases r with
  | val d' => cases e; exact .inl h
  | bx i f b =>
    have e : (if isBrw ρ i then none else match boxOf ρ i f with | some (b', d) => if b' = b then some d else none | none => none) = some d := e
    cases w : isBrw ρ i with
    | true => rw [w] at e; cases e
    | false =>
      rw [w, if_neg (by simp)] at e
      cases hb : boxOf ρ i f with
      | none => rw [hb] at e; cases e
      | some p =>
        obtain ⟨b', d'⟩ := p
        rw [hb] at e
        have e : (if b' = b then some d' else none) = some d := e
        by_cases z : b' = b
        · rw [if_pos z] at e; cases e; subst z
          obtain ⟨s, C, fs, a, _, _, _, _, _, _, _, t, u⟩ := (R.box hb).2 w
          exact .inr ⟨b', h, t⟩
        · rw [if_neg z] at e; cases e
  | sl i =>
    have h : σ[i]? = some (some v) := h
    have e : (match ρ[i]? with | some s => s.datN | none => none) = some d := e
    cases hs : ρ[i]? with
    | none => rw [hs] at e; cases e
    | some s =>
      rw [hs] at e
      have q := R.slot i s _ hs h
      cases s with
      | emp => cases e
      | shr d' => cases e; obtain ⟨v', e', q⟩ := q; cases e'; exact .inl q
      | own d' => cases e; obtain ⟨a, e', _, q⟩ := q; cases e'; exact .inr ⟨a, rfl, q⟩
      | par d' => cases e; obtain ⟨a, e', _, q⟩ := q; cases e'; exact .inr ⟨a, rfl, q⟩
      | _ => cases e
theorem RV.int (R : Rel F U ρ σ H) {r : Rs} {v : V} {i : Int} (h : RV F U σ H r v) (e : r.dat ρ = some (.int i)) : v = .int i := by
  rcases h.get R e with q | ⟨a, _, q⟩
  · simpa only [Rp] using q
  · exact q.elim
theorem RV.str (R : Rel F U ρ σ H) {r : Rs} {v : V} {i : Str} (h : RV F U σ H r v) (e : r.dat ρ = some (.str i)) : v = .str i := by
  rcases h.get R e with q | ⟨a, _, q⟩
  · simpa only [Rp] using q
  · exact q.elim
theorem RV.bl (R : Rel F U ρ σ H) {r : Rs} {v : V} {i : Bool} (h : RV F U σ H r v) (e : r.dat ρ = some (.bl i)) : v = .bl i := by
  rcases h.get R e with q | ⟨a, _, q⟩
  · simpa only [Rp] using q
  · exact q.elim
theorem RV.non (R : Rel F U ρ σ H) {r : Rs} {v : V} (h : RV F U σ H r v) (e : r.dat ρ = some .non) : v = .non := by
  rcases h.get R e with q | ⟨a, _, q⟩
  · simpa only [Rp] using q
  · exact q.elim
theorem RV.tup (R : Rel F U ρ σ H) {r : Rs} {v : V} {ds : List D} (h : RV F U σ H r v) (e : r.dat ρ = some (.tup ds)) : ∃ a vs, v = .ref a ∧ SqT F.K H a vs ∧ RpAll F.K H U ds vs ∧ Rp F.K H U (.tup ds) v := by
  rcases h.get R e with q | ⟨a, _, q⟩
  · have q' := q
    simp only [Rp] at q
    obtain ⟨a, vs, e, h1, h2⟩ := q
    exact ⟨a, vs, e, h1.sq, h2, q'⟩
  · exact q.elim
theorem RV.lst (R : Rel F U ρ σ H) {r : Rs} {v : V} {ds : List D} (h : RV F U σ H r v) (e : r.dat ρ = some (.lst ds)) : ∃ a vs, v = .ref a ∧ SqL F.K H a vs ∧ RpAll F.K H U ds vs := by
  rcases h.get R e with q | ⟨a, e, vs, q1, q2⟩
  · simp only [Rp] at q
    obtain ⟨a, vs, e, h1, h2⟩ := q
    exact ⟨a, vs, e, .inl (.inl h1.1), h2⟩
  · exact ⟨a, vs, e, .inl q1, q2⟩
theorem RV.lstN (R : Rel F U ρ σ H) {r : Rs} {v : V} {ds : List D} (h : RV F U σ H r v) (e : r.datN ρ = some (.lst ds)) : ∃ a vs, v = .ref a ∧ H a = some (.lst vs) ∧ RpAll F.K H U ds vs := by
  rcases h.getN R e with q | ⟨a, e, vs, q1, q2⟩
  · simp only [Rp] at q
    obtain ⟨a, vs, e, h1, h2⟩ := q
    exact ⟨a, vs, e, h1.1, h2⟩
  · exact ⟨a, vs, e, q1, q2⟩
theorem RV.obj (R : Rel F U ρ σ H) {r : Rs} {v : V} {C : Addr} {fs : List (Str × D)} (h : RV F U σ H r v) (e : r.dat ρ = some (.obj C fs)) : ∃ a dx gs, v = .ref a ∧ H a = some (.ins C dx gs) ∧ RvF F.K H U fs gs := by
  rcases h.get R e with q | ⟨a, e, dx, gs, q1, q2⟩
  · simp only [Rp] at q
    obtain ⟨a, dx, gs, e, h1, _, h2⟩ := q
    exact ⟨a, dx, gs, e, h1, rpF_rvF h2⟩
  · exact ⟨a, dx, gs, e, q1, q2⟩
theorem Rs.dat_of_datN {r : Rs} {d : D} (e : r.datN ρ = some d) : r.dat ρ = some d := by
  cases r with
  | val d' => exact e
  | sl i =>
    have e : (match ρ[i]? with | some s => s.datN | none => none) = some d := e
    show (match ρ[i]? with | some s => s.dat | none => none) = some d
    cases hs : ρ[i]? with
    | none => rw [hs] at e; cases e
    | some s =>
      rw [hs] at e
      cases s <;> first | exact e | cases e
  | bx i f b =>
    have e : (if isBrw ρ i then none else match boxOf ρ i f with | some (b', d) => if b' = b then some d else none | none => none) = some d := e
    show (match boxOf ρ i f with | some (b', d) => if b' = b then some d else none | none => none) = some d
    cases w : isBrw ρ i with
    | true => rw [w] at e; cases e
    | false => rw [w, if_neg (by simp)] at e; exact e

/-! ### rows of values -/
theorem RpAll.len : ∀ {ds : List D} {vs : List V}, RpAll K H U ds vs → vs.length = ds.length
  | [], _, h => by simp only [RpAll] at h; rw [h]; rfl
  | d :: ds, _, h => by
    simp only [RpAll] at h
    obtain ⟨v, r, rfl, _, h2⟩ := h
    rw [List.length_cons, List.length_cons, h2.len]
theorem RpAll.get : ∀ {ds : List D} {vs : List V} {i : Nat} {d : D}, RpAll K H U ds vs → ds[i]? = some d → ∃ v, vs[i]? = some v ∧ Rp K H U d v
  | [], _, _, _, _, e => by simp at e
  | d :: ds, _, 0, _, h, e => by
    simp only [RpAll] at h
    obtain ⟨v, r, rfl, h1, h2⟩ := h
    simp at e; subst e
    exact ⟨v, rfl, h1⟩
  | d :: ds, _, i + 1, _, h, e => by
    simp only [RpAll] at h
    obtain ⟨v, r, rfl, h1, h2⟩ := h
    obtain ⟨v', e', h'⟩ := RpAll.get (i := i) h2 (by simpa using e)
    exact ⟨v', by simpa using e', h'⟩
theorem RpAll.atI {ds : List D} {vs : List V} {i : Int} {d : D} (h : RpAll K H U ds vs) (e : L2.atI ds i = some d) : ∃ v, L2.atI vs i = some v ∧ Rp K H U d v := by
  unfold L2.atI at e ⊢
  rw [h.len]
  cases hx : ixN ds.length i with
  | none => rw [hx] at e; cases e
  | some j => rw [hx] at e; exact h.get e
theorem RpAll.app : ∀ {ds es : List D} {vs ws : List V}, RpAll K H U ds vs → RpAll K H U es ws → RpAll K H U (ds ++ es) (vs ++ ws)
  | [], _, _, _, h, h' => by simp only [RpAll] at h; subst h; exact h'
  | d :: ds, es, _, ws, h, h' => by
    simp only [RpAll] at h
    obtain ⟨v, r, rfl, h1, h2⟩ := h
    simp only [List.cons_append, RpAll]
    exact ⟨v, r ++ ws, rfl, h1, RpAll.app h2 h'⟩
theorem RpAll.one {d : D} {v : V} (h : Rp K H U d v) : RpAll K H U [d] [v] := by
  simp only [RpAll]; exact ⟨v, [], rfl, h, rfl⟩
theorem RpAll.drop : ∀ (n : Nat) {ds : List D} {vs : List V}, RpAll K H U ds vs → RpAll K H U (ds.drop n) (vs.drop n)
  | 0, _, _, h => h
  | n + 1, [], _, h => by simp only [RpAll] at h; subst h; simp [RpAll]
  | n + 1, d :: ds, _, h => by
    simp only [RpAll] at h
    obtain ⟨v, r, rfl, h1, h2⟩ := h
    exact RpAll.drop n h2
theorem RpAll.take : ∀ (n : Nat) {ds : List D} {vs : List V}, RpAll K H U ds vs → RpAll K H U (ds.take n) (vs.take n)
  | 0, _, _, h => by simp [RpAll]
  | n + 1, [], _, h => by simp only [RpAll] at h; subst h; simp [RpAll]
  | n + 1, d :: ds, _, h => by
    simp only [RpAll] at h
    obtain ⟨v, r, rfl, h1, h2⟩ := h
    simp only [List.take_succ_cons, RpAll]
    exact ⟨v, _, rfl, h1, RpAll.take n h2⟩
theorem RpAll.set : ∀ {ds : List D} {vs : List V} {d : D} {v : V} (i : Nat), RpAll K H U ds vs → Rp K H U d v → RpAll K H U (ds.set i d) (vs.set i v)
  | [], _, _, _, _, h, _ => by simp only [RpAll] at h; subst h; simp [RpAll]
  | d :: ds, _, d', v', 0, h, q => by
    simp only [RpAll] at h
    obtain ⟨v, r, rfl, h1, h2⟩ := h
    simp only [List.set_cons_zero, RpAll]
    exact ⟨v', r, rfl, q, h2⟩
  | d :: ds, _, d', v', i + 1, h, q => by
    simp only [RpAll] at h
    obtain ⟨v, r, rfl, h1, h2⟩ := h
    simp only [List.set_cons_succ, RpAll]
    exact ⟨v, _, rfl, h1, RpAll.set i h2 q⟩
theorem RpAll.erase : ∀ {ds : List D} {vs : List V} (i : Nat), RpAll K H U ds vs → RpAll K H U (ds.eraseIdx i) (vs.eraseIdx i)
  | [], _, _, h => by simp only [RpAll] at h; subst h; simp [RpAll]
  | d :: ds, _, 0, h => by
    simp only [RpAll] at h
    obtain ⟨v, r, rfl, h1, h2⟩ := h
    exact h2
  | d :: ds, _, i + 1, h => by
    simp only [RpAll] at h
    obtain ⟨v, r, rfl, h1, h2⟩ := h
    simp only [List.eraseIdx_cons_succ, RpAll]
    exact ⟨v, _, rfl, h1, RpAll.erase i h2⟩
theorem RpAll.rev : ∀ {ds : List D} {vs : List V}, RpAll K H U ds vs → RpAll K H U ds.reverse vs.reverse
  | [], _, h => by simp only [RpAll] at h; subst h; simp [RpAll]
  | d :: ds, _, h => by
    simp only [RpAll] at h
    obtain ⟨v, r, rfl, h1, h2⟩ := h
    rw [List.reverse_cons, List.reverse_cons]
    exact RpAll.app (RpAll.rev h2) (RpAll.one h1)
theorem RpAll.dropLast {ds : List D} {vs : List V} (h : RpAll K H U ds vs) : RpAll K H U ds.dropLast vs.dropLast := by
  rw [List.dropLast_eq_take, List.dropLast_eq_take, h.len]
  exact h.take _
theorem RpAll.ints : ∀ {ns : List Int} {vs : List V}, RpAll K H U (ns.map D.int) vs → vs = ns.map V.int
  | [], _, h => by simpa only [List.map_nil, RpAll] using h
  | n :: ns, _, h => by
    simp only [List.map_cons, RpAll, Rp] at h
    obtain ⟨v, r, rfl, rfl, h2⟩ := h
    rw [RpAll.ints h2]; rfl
theorem RpAll.ofInts : ∀ (ns : List Int), RpAll K H U (ns.map D.int) (ns.map V.int)
  | [] => by simp [RpAll]
  | n :: ns => by simp only [List.map_cons, RpAll, Rp]; exact ⟨_, _, rfl, rfl, RpAll.ofInts ns⟩
theorem RpAll.strs : ∀ {ns : List Str} {vs : List V}, RpAll K H U (ns.map D.str) vs → vs = ns.map V.str
  | [], _, h => by simpa only [List.map_nil, RpAll] using h
  | n :: ns, _, h => by
    simp only [List.map_cons, RpAll, Rp] at h
    obtain ⟨v, r, rfl, rfl, h2⟩ := h
    rw [RpAll.strs h2]; rfl
theorem RpAll.bls : ∀ {ns : List Bool} {vs : List V}, RpAll K H U (ns.map D.bl) vs → vs = ns.map V.bl
  | [], _, h => by simpa only [List.map_nil, RpAll] using h
  | n :: ns, _, h => by
    simp only [List.map_cons, RpAll, Rp] at h
    obtain ⟨v, r, rfl, rfl, h2⟩ := h
    rw [RpAll.bls h2]; rfl

/-! ### names, constants, operators -/
def eVar (i : Nat) : T3E := fun ρ Q => match ρ[i]? with
  | some (.shr d) => Q (.val d) ρ
  | some .emp => False
  | some _ => Q (.sl i) ρ
  | none => False
theorem simVar (i : Nat) : SimE K (tVar i) (eVar i) := by
  intro F U ρ σ H Q3 Q2 e R h k
  show ∃ v, σ[i]? = some (some v) ∧ Q2 v H
  have h : (match ρ[i]? with | some (.shr d) => Q3 (.val d) ρ | some .emp => False | some _ => Q3 (.sl i) ρ | none => False) := h
  cases hs : ρ[i]? with
  | none => rw [hs] at h; exact h.elim
  | some s =>
    rw [hs] at h
    have hi : i < σ.length := by rw [← R.len]; exact (List.getElem?_eq_some_iff.mp hs).1
    have hσ : σ[i]? = some σ[i] := List.getElem?_eq_getElem hi
    have q := R.slot i s _ hs hσ
    cases s with
    | emp => exact h.elim
    | shr d => obtain ⟨v, e', q⟩ := q; exact ⟨v, by rw [hσ, e'], k (.val d) v _ _ R (.refl R) q h⟩
    | own d => obtain ⟨a, e', _, q⟩ := q; exact ⟨.ref a, by rw [hσ, e'], k (.sl i) _ _ _ R (.refl R) (show σ[i]? = _ by rw [hσ, e']) h⟩
    | par d => obtain ⟨a, e', _, q⟩ := q; exact ⟨.ref a, by rw [hσ, e'], k (.sl i) _ _ _ R (.refl R) (show σ[i]? = _ by rw [hσ, e']) h⟩
    | owb d => obtain ⟨a, e', _, q⟩ := q; exact ⟨.ref a, by rw [hσ, e'], k (.sl i) _ _ _ R (.refl R) (show σ[i]? = _ by rw [hσ, e']) h⟩
    | pab d => obtain ⟨a, e', _, q⟩ := q; exact ⟨.ref a, by rw [hσ, e'], k (.sl i) _ _ _ R (.refl R) (show σ[i]? = _ by rw [hσ, e']) h⟩
    | brw d =>
      rcases R.bor i d _ hs hσ with ⟨v, e', q⟩ | ⟨a, e', q, _⟩
      · exact ⟨v, by rw [hσ, e'], k (.sl i) _ _ _ R (.refl R) (show σ[i]? = _ by rw [hσ, e']) h⟩
      · exact ⟨.ref a, by rw [hσ, e'], k (.sl i) _ _ _ R (.refl R) (show σ[i]? = _ by rw [hσ, e']) h⟩
def eC (d : D) : T3E := fun ρ Q => Q (.val d) ρ
theorem simC {v : V} {d : D} (h : ∀ H U, Rp K H U d v) : SimE K (tC v) (eC d) := by
  intro F U ρ σ H Q3 Q2 e R q k
  exact k (.val d) v _ _ R (.refl R) (show Rp F.K H U d v by rw [e]; exact h H U) q
def eOp (r3 : Rs → Rs → En → (Rs → En → Prop) → Prop) (fa fb : T3E) : T3E := fun ρ Q => fa ρ fun x ρ1 => fb ρ1 fun y ρ2 => r3 x y ρ2 Q
theorem simOp {r2 : R2} {r3 : Rs → Rs → En → (Rs → En → Prop) → Prop} {ta tb : TE} {fa fb : T3E} (hr : SimR2 K r2 r3) (ha : SimE K ta fa) (hb : SimE K tb fb) : SimE K (tOp r2 ta tb) (eOp r3 fa fb) := by
  intro F U ρ σ H Q3 Q2 e R q k
  refine ha F U ρ σ H _ _ e R q fun x v ρ1 H1 R1 s1 q1 h1 => ?_
  refine hb F U ρ1 σ H1 _ _ e R1 h1 fun y u ρ2 H2 R2 s2 q2 h2 => ?_
  exact hr F U ρ2 σ H2 v u x y _ _ e R2 (q1.pres (s2.pres R1)) q2 h2 fun r w ρ3 H3 R3 s3 q3 h3 => k r w ρ3 H3 R3 ((s1.trans s2).trans s3) q3 h3
def eUn (r3 : Rs → En → (Rs → En → Prop) → Prop) (fa : T3E) : T3E := fun ρ Q => fa ρ fun x ρ1 => r3 x ρ1 Q
/-- the data of a result, what follows -/
def wd (x : Rs) (ρ : En) (k : D → Prop) : Prop := match x.dat ρ with
  | some d => k d
  | none => False
def wn (x : Rs) (ρ : En) (k : D → Prop) : Prop := match x.datN ρ with
  | some d => k d
  | none => False
theorem wd_out {x : Rs} {k : D → Prop} (h : wd x ρ k) : ∃ d, x.dat ρ = some d ∧ k d := by
  unfold wd at h
  cases e : x.dat ρ with
  | none => rw [e] at h; exact h.elim
  | some d => rw [e] at h; exact ⟨d, rfl, h⟩
theorem wn_out {x : Rs} {k : D → Prop} (h : wn x ρ k) : ∃ d, x.datN ρ = some d ∧ k d := by
  unfold wn at h
  cases e : x.datN ρ with
  | none => rw [e] at h; exact h.elim
  | some d => rw [e] at h; exact ⟨d, rfl, h⟩
/-- two ints -/
def w2I (x y : Rs) (ρ : En) (k : Int → Int → Prop) : Prop := wd x ρ fun dx => wd y ρ fun dy => match dx, dy with
  | .int i, .int j => k i j
  | _, _ => False
theorem w2I_out {x y : Rs} {k : Int → Int → Prop} (h : w2I x y ρ k) : ∃ i j, x.dat ρ = some (.int i) ∧ y.dat ρ = some (.int j) ∧ k i j := by
  obtain ⟨dx, e1, h⟩ := wd_out h
  obtain ⟨dy, e2, h⟩ := wd_out h
  cases dx <;> cases dy <;> first | exact ⟨_, _, e1, e2, h⟩ | exact h.elim
/-- two ints to a value that needs no heap -/
def oI (C : Int → Int → Prop) (g : Int → Int → D) (x y : Rs) (ρ : En) (Q : Rs → En → Prop) : Prop := w2I x y ρ fun i j => C i j ∧ Q (.val (g i j)) ρ
theorem simI {C : Int → Int → Prop} {g : Int → Int → V} {g' : Int → Int → D} (hg : ∀ i j H U, Rp K H U (g' i j) (g i j)) : SimR2 K (rI C g) (oI C g') := by
  intro F U ρ σ H x y rx ry Q3 Q2 e R h1 h2 h k
  obtain ⟨i, j, e1, e2, c, q⟩ := w2I_out h
  exact ⟨i, j, h1.int R e1, h2.int R e2, c, k (.val (g' i j)) _ _ _ R (.refl R) (show Rp F.K H U _ _ by rw [e]; exact hg i j H U) q⟩
def oI0 (g : Int → Int → D) (x y : Rs) (ρ : En) (Q : Rs → En → Prop) : Prop := w2I x y ρ fun i j => Q (.val (g i j)) ρ
theorem simI0 {g : Int → Int → V} {g' : Int → Int → D} (hg : ∀ i j H U, Rp K H U (g' i j) (g i j)) : SimR2 K (rI0 g) (oI0 g') := by
  intro F U ρ σ H x y rx ry Q3 Q2 e R h1 h2 h k
  obtain ⟨i, j, e1, e2, q⟩ := w2I_out h
  exact ⟨i, j, h1.int R e1, h2.int R e2, k (.val (g' i j)) _ _ _ R (.refl R) (show Rp F.K H U _ _ by rw [e]; exact hg i j H U) q⟩
/-- a new object that is shared at once -/
theorem rp_newL {F : Fr} {U : US} {ρ : En} {σ : St} {H : Hp} (R : Rel F U ρ σ H) {p : Addr} (hp : H p = none) {ds : List D} {vs : List V} (h : RpAll F.K H U ds vs) : Rp F.K (upd H p (.lst vs)) U (.lst ds) (.ref p) := by
  simp only [Rp]
  exact ⟨p, vs, rfl, ⟨upd_same, R.fresh hp⟩, RpAll.pres (fun a o e n => ⟨ext_new hp a o e, n⟩) ds vs h⟩
theorem rp_newT {F : Fr} {U : US} {ρ : En} {σ : St} {H : Hp} (R : Rel F U ρ σ H) {p : Addr} {ob : Obj} (hob : ob.dict = none) (hp : H p = none) {ds : List D} {vs : List V} (h : RpAll F.K H U ds vs) : Rp F.K (upd H p (.frz ob (.tup vs))) U (.tup ds) (.ref p) := by
  simp only [Rp]
  exact ⟨p, vs, rfl, .inl ⟨⟨ob, hob, upd_same⟩, R.fresh hp⟩, RpAll.pres (fun a o e n => ⟨ext_new hp a o e, n⟩) ds vs h⟩
end
end L3

set_option Elab.async false
set_option linter.all false
set_option maxRecDepth 100000
namespace L3
open PySem PySem.Spec L2 PyProof.Rows

abbrev tupObj (its : List Value) : Obj := { cls := .type "tuple", data := .seq its.toArray }
section
variable {X : Cx} {es : List Expr} {t : TA} {pos : Pos}
/-- a new tuple, known to the object -/
theorem tnewI {pins : List (Addr × Obj)} {σ : L2.St} {H : Hp} {s : Shared} (I : Inv X pins σ H s) {xs : List V} {its : List Value} {t' : Nat} (r : Vals xs its) (z : xs.length ≤ sizeLine) :
    Inv X pins σ (upd H s.heap.objs.size (.frz (tupObj its) (.tup xs))) { s with heap := s.heap.push (tupObj its), toks := t' } :=
  I.laid (t' := t') (fun b u e => Heap.get?_push_of_some _ e) (Nat.le_refl _) ⟨Heap.get?_push_size _ rfl, z, its, r, IsTup.new _ _⟩
def tTupF (t : TA) : TE := fun σ H Q => t σ H fun xs H1 => xs.length ≤ sizeLine ∧ ∀ (p : Addr) (o : Obj), H1 p = none → o.dict = none → Q (.ref p) (upd H1 p (.frz o (.tup xs)))
theorem pe_tupF {x1} (h : PA X es t) : PE X (.Tuple es x1 pos) (tTupF t) := by
  refine ⟨fun pins s σ H Q I hq => ?_⟩
  refine wpAny_Tuple_spliced (thn (h.run pos pins s σ H _ I hq) fun us s1 ⟨xs, H1, I1, r, z, q⟩ => ⟨by rw [← r.length]; exact z, ?_⟩)
  have hf : H1 s1.heap.objs.size = none := I1.hok.fresh (Nat.le_refl _)
  exact ⟨.ref s1.heap.objs.size, upd H1 s1.heap.objs.size (.frz (tupObj us) (.tup xs)), tnewI I1 r z, rfl, q _ (tupObj us) hf rfl⟩
def rTupF (K : PySem.W.Frag) : List V → Hp → VK → Prop := fun xs H Q => ∃ p ys, xs = [.ref p] ∧ ((SqL K H p ys ∧ ∀ (l : Addr) (o : Obj), H l = none → o.dict = none → Q (.ref l) (upd H l (.frz o (.tup ys)))) ∨ (SqT K H p ys ∧ Q (.ref p) H))
theorem call_tupleF : CallR X (.type "tuple") (rTupF X.K) := by
  intro pins s σ H xs us Q I r h
  obtain ⟨p, ys, rfl, h⟩ := h
  rcases h with ⟨hq, q⟩ | ⟨hq, q⟩
  · cases r with
    | cons rx rr =>
      cases rr
      cases rx
      obtain ⟨its, r', pl, hz⟩ := I.list hq
      have hlen := r'.length
      refine call_tuple_list pl.isList (fun h' kp => ?_) (by simp only [List.size_toArray] <;> omega)
      have I1 : Inv X pins σ H { s with heap := h' } := I.kept (t' := s.toks) kp
      exact ⟨.ref h'.objs.size, _, tnewI I1 (t' := s.toks) r' hz, rfl, q _ (tupObj its) (I1.hok.fresh (Nat.le_refl _)) rfl⟩
  · exact call_tuple_of pins s σ H _ us Q I r ⟨p, ys, rfl, .inr ⟨hq, q⟩⟩
def rSlF (K : PySem.W.Frag) : V → Option Int → Option Int → Hp → VK → Prop := fun x lo hi H Q => ∃ a xs, x = .ref a ∧ SqT K H a xs ∧
  (HT.sIx xs.length 0 lo = 0 ∧ HT.sIx xs.length xs.length hi = xs.length → Q (.ref a) H) ∧
  (¬ (HT.sIx xs.length 0 lo = 0 ∧ HT.sIx xs.length xs.length hi = xs.length) → ∀ (p : Addr) (o : Obj), H p = none → o.dict = none → Q (.ref p) (upd H p (.frz o (.tup (cutV xs lo hi)))))
theorem sl_tupF : SlR X (rSlF X.K) := by
  intro pins s σ H x v vl vu lo hi sl Q I rx hs pl pu h
  obtain ⟨a, xs, rfl, hx, q1, q2⟩ := h
  cases rx
  obtain ⟨its, r, ht, hz⟩ := I.tuple hx
  have hlen : its.toArray.size = xs.length := by rw [List.size_toArray]; exact r.length.symm
  refine ⟨"tuple", _, PyProof.Rows.slot_tuple_getitem.lookup, ht.typeIs, ?_⟩
  by_cases hw : HT.sIx xs.length 0 lo = 0 ∧ HT.sIx xs.length xs.length hi = xs.length
  · exact L2.getItem_tuple_whole ht hs pl pu (by rw [hlen]; exact hw) ⟨.ref a, H, I, rfl, q1 hw⟩
  · refine HT.getItem_tuple_cut ht hs pl pu (by rw [hlen]; exact hw) ?_ (by rw [hlen]; exact hz)
    rw [hlen]
    exact ⟨.ref s.heap.objs.size, _, tnewI I (t' := s.toks) ((r.drop (HT.sIx xs.length 0 lo)).take (HT.sIx xs.length xs.length hi - HT.sIx xs.length 0 lo)) (Nat.le_trans (cutV_length xs lo hi) hz), rfl, q2 hw _ (tupObj _) (I.hok.fresh (Nat.le_refl _)) rfl⟩
def rCatF (K : PySem.W.Frag) : R2 := fun x y H Q => ∃ a b xs ys, x = .ref a ∧ y = .ref b ∧ SqT K H a xs ∧ SqT K H b ys ∧ xs.length + ys.length ≤ sizeLine ∧
  (xs = [] → Q (.ref b) H) ∧ (xs ≠ [] → ys = [] → Q (.ref a) H) ∧ (xs ≠ [] → ys ≠ [] → ∀ (p : Addr) (o : Obj), H p = none → o.dict = none → Q (.ref p) (upd H p (.frz o (.tup (xs ++ ys)))))
theorem op_catF : OpR X (binaryOp .Add) (rCatF X.K) := by
  intro pins s σ H x y v u Q I rx ry h
  obtain ⟨a, b, xs, ys, rfl, rfl, ha, hb, hz, q0, q1, q2⟩ := h
  cases rx
  cases ry
  obtain ⟨its, r1, p1, _⟩ := I.tuple ha
  obtain ⟨its2, r2, p2, _⟩ := I.tuple hb
  by_cases hx : xs = []
  · subst hx
    cases r1
    exact L2.cat_tup0 p1 p2 ⟨.ref b, H, I, rfl, q0 rfl⟩
  · refine HT.cat_tup p1 p2 (fun z => hx (r1.nil_iff.mp z)) (fun z => ⟨.ref a, H, I, rfl, q1 hx (r2.nil_iff.mp z)⟩) (fun z => ?_) (by rw [← r1.length, ← r2.length]; exact hz)
    exact ⟨.ref s.heap.objs.size, _, tnewI I (t' := s.toks) (r1.append r2) (by rw [List.length_append]; exact hz), rfl, q2 hx (fun w => z (r2.nil_iff.mpr w)) _ (tupObj _) (I.hok.fresh (Nat.le_refl _)) rfl⟩
end
end L3

set_option Elab.async false
set_option linter.all false
set_option maxRecDepth 100000
namespace L3
open PySem L2
open PyProof.Rows (b2i)

/-! ### equality of data -/
mutual
def D.toP : D → PyData
  | .non => .none
  | .bl b => .bool b
  | .int i => .int i
  | .str s => .str s
  | .tup xs => .tuple (D.toPs xs)
  | .lst xs => .list (D.toPs xs)
  | _ => .none
def D.toPs : List D → List PyData
  | [] => []
  | x :: xs => x.toP :: D.toPs xs
end
mutual
def D.ok : D → Bool
  | .non => true
  | .bl _ => true
  | .int _ => true
  | .str s => PyData.strOk s
  | .tup xs => D.oks xs
  | .lst xs => D.oks xs
  | _ => false
def D.oks : List D → Bool
  | [] => true
  | x :: xs => x.ok && D.oks xs
end
mutual
def D.dep : D → Nat
  | .tup xs => D.deps xs + 1
  | .lst xs => D.deps xs + 1
  | _ => 0
def D.deps : List D → Nat
  | [] => 0
  | x :: xs => max x.dep (D.deps xs)
end
mutual
def D.eqv : D → D → Bool
  | .non, .non => true
  | .bl a, .bl b => a == b
  | .bl a, .int j => (if a then 1 else 0) == j
  | .int i, .bl b => i == (if b then 1 else 0)
  | .int i, .int j => i == j
  | .str x, .str y => x == y
  | .tup xs, .tup ys => D.eqvs xs ys
  | .lst xs, .lst ys => D.eqvs xs ys
  | _, _ => false
def D.eqvs : List D → List D → Bool
  | [], [] => true
  | x :: xs, y :: ys => D.eqv x y && D.eqvs xs ys
  | _, _ => false
end
def D.shp (d : D) : Bool := d.ok && decide (d.dep ≤ 50)
mutual
theorem toP_dep : ∀ d : D, d.toP.depth = d.dep
  | .non => by simp [D.toP, D.dep, PyData.depth]
  | .bl _ => by simp [D.toP, D.dep, PyData.depth]
  | .int _ => by simp [D.toP, D.dep, PyData.depth]
  | .str _ => by simp [D.toP, D.dep, PyData.depth]
  | .tup xs => by simp [D.toP, D.dep, PyData.depth, toPs_dep xs]
  | .lst xs => by simp [D.toP, D.dep, PyData.depth, toPs_dep xs]
  | .dic _ => by simp [D.toP, D.dep, PyData.depth]
  | .dit _ => by simp [D.toP, D.dep, PyData.depth]
  | .obj _ _ => by simp [D.toP, D.dep, PyData.depth]
  | .ty _ => by simp [D.toP, D.dep, PyData.depth]
  | .cls _ => by simp [D.toP, D.dep, PyData.depth]
  | .scr _ => by simp [D.toP, D.dep, PyData.depth]
  | .bx _ _ => by simp [D.toP, D.dep, PyData.depth]
  | .din _ _ => by simp [D.toP, D.dep, PyData.depth]
  | .exc _ _ _ _ => by simp [D.toP, D.dep, PyData.depth]
  | .dik _ => by simp [D.toP, D.dep, PyData.depth]
theorem toPs_dep : ∀ ds : List D, PyData.depthAll (D.toPs ds) = D.deps ds
  | [] => by simp [D.toPs, D.deps, PyData.depthAll]
  | x :: xs => by simp [D.toPs, D.deps, PyData.depthAll, toP_dep x, toPs_dep xs]
end
mutual
theorem toP_ok : ∀ d : D, d.ok = true → d.toP.canLay0 = true
  | .non, _ => by simp [D.toP, PyData.canLay0]
  | .bl _, _ => by simp [D.toP, PyData.canLay0]
  | .int _, _ => by simp [D.toP, PyData.canLay0]
  | .str _, h => by simpa [D.toP, PyData.canLay0, D.ok] using h
  | .tup xs, h => by simpa [D.toP, PyData.canLay0] using toPs_ok xs (by simpa [D.ok] using h)
  | .lst xs, h => by simpa [D.toP, PyData.canLay0] using toPs_ok xs (by simpa [D.ok] using h)
  | .dic _, h => by simp [D.ok] at h
  | .dit _, h => by simp [D.ok] at h
  | .obj _ _, h => by simp [D.ok] at h
  | .ty _, h => by simp [D.ok] at h
  | .cls _, h => by simp [D.ok] at h
  | .scr _, h => by simp [D.ok] at h
  | .bx _ _, h => by simp [D.ok] at h
  | .din _ _, h => by simp [D.ok] at h
  | .exc _ _ _ _, h => by simp [D.ok] at h
  | .dik _, h => by simp [D.ok] at h
theorem toPs_ok : ∀ ds : List D, D.oks ds = true → PyData.canLayAll0 (D.toPs ds) = true
  | [], _ => by simp [D.toPs, PyData.canLayAll0]
  | x :: xs, h => by
    simp only [D.oks, Bool.and_eq_true] at h
    simp [D.toPs, PyData.canLayAll0, toP_ok x h.1, toPs_ok xs h.2]
end
theorem shp_shaped {d : D} (h : d.shp = true) : SeqAt.shaped d.toP = true := by
  unfold D.shp at h
  simp only [Bool.and_eq_true, decide_eq_true_eq] at h
  unfold SeqAt.shaped
  rw [toP_ok d h.1, toP_dep]
  simp; omega
mutual
theorem eqv_toP : ∀ d e : D, d.ok = true → e.ok = true → PyData.eqv d.toP e.toP = D.eqv d e
  | .tup xs, .tup ys, h, h' => by simpa [D.toP, PyData.eqv, D.eqv] using eqvs_toP xs ys (by simpa [D.ok] using h) (by simpa [D.ok] using h')
  | .lst xs, .lst ys, h, h' => by simpa [D.toP, PyData.eqv, D.eqv] using eqvs_toP xs ys (by simpa [D.ok] using h) (by simpa [D.ok] using h')
  | .non, e, _, h' => by cases e <;> first | (exfalso; simp [D.ok] at h'; done) | simp [D.toP, PyData.eqv, D.eqv]
  | .bl _, e, _, h' => by cases e <;> first | (exfalso; simp [D.ok] at h'; done) | simp [D.toP, PyData.eqv, D.eqv]
  | .int _, e, _, h' => by cases e <;> first | (exfalso; simp [D.ok] at h'; done) | simp [D.toP, PyData.eqv, D.eqv]
  | .str _, e, _, h' => by cases e <;> first | (exfalso; simp [D.ok] at h'; done) | simp [D.toP, PyData.eqv, D.eqv]
  | .tup _, .non, _, _ => by simp [D.toP, PyData.eqv, D.eqv]
  | .tup _, .bl _, _, _ => by simp [D.toP, PyData.eqv, D.eqv]
  | .tup _, .int _, _, _ => by simp [D.toP, PyData.eqv, D.eqv]
  | .tup _, .str _, _, _ => by simp [D.toP, PyData.eqv, D.eqv]
  | .tup _, .lst _, _, _ => by simp [D.toP, PyData.eqv, D.eqv]
  | .tup _, .dic _, _, h => by simp [D.ok] at h
  | .tup _, .dit _, _, h => by simp [D.ok] at h
  | .tup _, .obj _ _, _, h => by simp [D.ok] at h
  | .tup _, .ty _, _, h => by simp [D.ok] at h
  | .tup _, .cls _, _, h => by simp [D.ok] at h
  | .tup _, .scr _, _, h => by simp [D.ok] at h
  | .tup _, .bx _ _, _, h => by simp [D.ok] at h
  | .tup _, .din _ _, _, h => by simp [D.ok] at h
  | .tup _, .exc _ _ _ _, _, h => by simp [D.ok] at h
  | .tup _, .dik _, _, h => by simp [D.ok] at h
  | .lst _, .non, _, _ => by simp [D.toP, PyData.eqv, D.eqv]
  | .lst _, .bl _, _, _ => by simp [D.toP, PyData.eqv, D.eqv]
  | .lst _, .int _, _, _ => by simp [D.toP, PyData.eqv, D.eqv]
  | .lst _, .str _, _, _ => by simp [D.toP, PyData.eqv, D.eqv]
  | .lst _, .tup _, _, _ => by simp [D.toP, PyData.eqv, D.eqv]
  | .lst _, .dic _, _, h => by simp [D.ok] at h
  | .lst _, .dit _, _, h => by simp [D.ok] at h
  | .lst _, .obj _ _, _, h => by simp [D.ok] at h
  | .lst _, .ty _, _, h => by simp [D.ok] at h
  | .lst _, .cls _, _, h => by simp [D.ok] at h
  | .lst _, .scr _, _, h => by simp [D.ok] at h
  | .lst _, .bx _ _, _, h => by simp [D.ok] at h
  | .lst _, .din _ _, _, h => by simp [D.ok] at h
  | .lst _, .exc _ _ _ _, _, h => by simp [D.ok] at h
  | .lst _, .dik _, _, h => by simp [D.ok] at h
  | .dic _, _, h, _ => by simp [D.ok] at h
  | .dit _, _, h, _ => by simp [D.ok] at h
  | .obj _ _, _, h, _ => by simp [D.ok] at h
  | .ty _, _, h, _ => by simp [D.ok] at h
  | .cls _, _, h, _ => by simp [D.ok] at h
  | .scr _, _, h, _ => by simp [D.ok] at h
  | .bx _ _, _, h, _ => by simp [D.ok] at h
  | .din _ _, _, h, _ => by simp [D.ok] at h
  | .exc _ _ _ _, _, h, _ => by simp [D.ok] at h
  | .dik _, _, h, _ => by simp [D.ok] at h
theorem eqvs_toP : ∀ ds es : List D, D.oks ds = true → D.oks es = true → PyData.eqvAll (D.toPs ds) (D.toPs es) = D.eqvs ds es
  | [], [], _, _ => by simp [D.toPs, PyData.eqvAll, D.eqvs]
  | [], _ :: _, _, _ => by simp [D.toPs, PyData.eqvAll, D.eqvs]
  | _ :: _, [], _, _ => by simp [D.toPs, PyData.eqvAll, D.eqvs]
  | x :: xs, y :: ys, h, h' => by
    simp only [D.oks, Bool.and_eq_true] at h h'
    simp [D.toPs, PyData.eqvAll, D.eqvs, eqv_toP x y h.1 h'.1, eqvs_toP xs ys h.2 h'.2]
end
theorem toPs_any (e : D) (he : e.ok = true) : ∀ ds : List D, D.oks ds = true → ((D.toPs ds).any fun z => PyData.eqv z e.toP) = ds.any fun z => D.eqv z e
  | [], _ => by simp [D.toPs]
  | x :: xs, h => by
    simp only [D.oks, Bool.and_eq_true] at h
    simp [D.toPs, eqv_toP x e h.1 he, toPs_any e he xs h.2]
section
variable {F : Fr} {U : US} {ρ ρ' ρ2 : En} {σ : St} {H H' H2 : Hp} {K : PySem.W.Frag}
mutual
theorem Rp.dp : ∀ (d : D) (v : V), d.ok = true → Rp K H U d v → Dp K H v d.toP
  | .non, _, _, h => by simp only [Rp] at h; subst h; exact .non
  | .bl _, _, _, h => by simp only [Rp] at h; subst h; exact .bl _
  | .int _, _, _, h => by simp only [Rp] at h; subst h; exact .int _
  | .str _, _, _, h => by simp only [Rp] at h; subst h; exact .str _
  | .tup ds, _, o, h => by
    simp only [Rp] at h
    obtain ⟨a, vs, rfl, h1, h2⟩ := h
    simp only [D.toP]
    exact .tup h1.sq (RpAll.dp ds vs (by simpa [D.ok] using o) h2)
  | .lst ds, _, o, h => by
    simp only [Rp] at h
    obtain ⟨a, vs, rfl, h1, h2⟩ := h
    simp only [D.toP]
    exact .lst (.inl (.inl h1.1)) (RpAll.dp ds vs (by simpa [D.ok] using o) h2)
  | .dic _, _, o, _ => by simp [D.ok] at o
  | .dit _, _, o, _ => by simp [D.ok] at o
  | .obj _ _, _, o, _ => by simp [D.ok] at o
  | .ty _, _, o, _ => by simp [D.ok] at o
  | .cls _, _, o, _ => by simp [D.ok] at o
  | .scr _, _, o, _ => by simp [D.ok] at o
  | .bx _ _, _, o, _ => by simp [D.ok] at o
  | .din _ _, _, o, _ => by simp [D.ok] at o
  | .exc _ _ _ _, _, o, _ => by simp [D.ok] at o
  | .dik _, _, o, _ => by simp [D.ok] at o
theorem RpAll.dp : ∀ (ds : List D) (vs : List V), D.oks ds = true → RpAll K H U ds vs → DpAll K H vs (D.toPs ds)
  | [], _, _, h => by simp only [RpAll] at h; subst h; simp only [D.toPs]; exact .nil
  | d :: ds, _, o, h => by
    simp only [RpAll] at h
    obtain ⟨v, r, rfl, h1, h2⟩ := h
    simp only [D.oks, Bool.and_eq_true] at o
    simp only [D.toPs]
    exact .cons (Rp.dp d v o.1 h1) (RpAll.dp ds r o.2 h2)
end
theorem RV.dp (R : Rel F U ρ σ H) {r : Rs} {v : V} {d : D} (h : RV F U σ H r v) (e : r.dat ρ = some d) (o : d.ok = true) : Dp F.K H v d.toP := by
  rcases h.get R e with q | ⟨a, rfl, q⟩
  · exact Rp.dp d v o q
  · cases d with
    | lst ds =>
      obtain ⟨vs, h1, h2⟩ := q
      simp only [D.toP]
      exact .lst (.inl h1) (RpAll.dp ds vs (by simpa [D.ok] using o) h2)
    | dic _ => simp [D.ok] at o
    | dit _ => simp [D.ok] at o
    | obj _ _ => simp [D.ok] at o
    | din _ _ => simp [D.ok] at o
    | _ => exact q.elim
theorem rp_bl {b : Bool} : Rp K H U (.bl b) (.bl b) := by simp only [Rp]
theorem rp_int {b : Int} : Rp K H U (.int b) (.int b) := by simp only [Rp]
theorem rp_str {b : Str} : Rp K H U (.str b) (.str b) := by simp only [Rp]
theorem rp_non : Rp K H U .non .non := by simp only [Rp]
def oEq (neg : Bool) (x y : Rs) (ρ : En) (Q : Rs → En → Prop) : Prop := wd x ρ fun dx => wd y ρ fun dy => dx.shp = true ∧ dy.shp = true ∧ Q (.val (.bl (if neg then !D.eqv dx dy else D.eqv dx dy))) ρ
theorem simEq : SimR2 K (rEqD K) (oEq false) := by
  intro F U ρ σ H x y rx ry Q3 Q2 e R h1 h2 h k
  obtain ⟨dx, e1, h⟩ := wd_out h
  obtain ⟨dy, e2, h⟩ := wd_out h
  obtain ⟨s1, s2, q⟩ := h
  have o1 : dx.ok = true := (Bool.and_eq_true_iff.mp s1).1
  have o2 : dy.ok = true := (Bool.and_eq_true_iff.mp s2).1
  subst e
  refine ⟨dx.toP, dy.toP, h1.dp R e1 o1, h2.dp R e2 o2, shp_shaped s1, shp_shaped s2, ?_⟩
  rw [eqv_toP dx dy o1 o2]
  exact k (.val (.bl _)) _ _ _ R (.refl R) (show Rp F.K H U _ _ from rp_bl) q
theorem simNe : SimR2 K (rNeD K) (oEq true) := by
  intro F U ρ σ H x y rx ry Q3 Q2 e R h1 h2 h k
  obtain ⟨dx, e1, h⟩ := wd_out h
  obtain ⟨dy, e2, h⟩ := wd_out h
  obtain ⟨s1, s2, q⟩ := h
  have o1 : dx.ok = true := (Bool.and_eq_true_iff.mp s1).1
  have o2 : dy.ok = true := (Bool.and_eq_true_iff.mp s2).1
  subst e
  refine ⟨dx.toP, dy.toP, h1.dp R e1 o1, h2.dp R e2 o2, shp_shaped s1, shp_shaped s2, ?_⟩
  rw [eqv_toP dx dy o1 o2]
  exact k (.val (.bl _)) _ _ _ R (.refl R) (show Rp F.K H U _ _ from rp_bl) q
/-- x in a list or a tuple of data -/
def rInS (K : PySem.W.Frag) (neg : Bool) : R2 := fun x y H Q => ∃ d ds, Dp K H x d ∧ (Dp K H y (.list ds) ∨ Dp K H y (.tuple ds)) ∧ SeqAt.shaped d = true ∧ SeqAt.shaped (.list ds) = true ∧ Q (.bl (if neg then !(ds.any fun z => PyData.eqv z d) else ds.any fun z => PyData.eqv z d)) H
theorem op_inS {X : Cx} (hu : X.A.units + 65 < cLine) : OpR X (compareOp .In) (rInS X.K false) := by
  intro pins s σ H x y v u Q I rx ry h
  obtain ⟨d, ds, hd, he, sd, se, q⟩ := h
  obtain ⟨as, r1⟩ := Dp.reads I d x v hd rx
  have hxs : PyData.canLayAll0 ds = true := by simpa [PyData.canLay0] using SeqAt.canLay_of_shaped se
  rcases he with he | he
  · obtain ⟨bs, r2⟩ := Dp.reads I (.list ds) y u he ry
    exact SeqAt.in_list_reads r2 r1 hxs (SeqAt.canLay_of_shaped sd) (PyProof.Rows.room_in_shaped sd hu) ⟨.bl _, H, I, rfl, q⟩
  · obtain ⟨bs, r2⟩ := Dp.reads I (.tuple ds) y u he ry
    exact SeqAt.in_tuple_reads r2 r1 hxs (SeqAt.canLay_of_shaped sd) (PyProof.Rows.room_in_shaped sd hu) ⟨.bl _, H, I, rfl, q⟩
theorem op_notInS {X : Cx} (hu : X.A.units + 65 < cLine) : OpR X (compareOp .NotIn) (rInS X.K true) := by
  intro pins s σ H x y v u Q I rx ry h
  obtain ⟨d, ds, hd, he, sd, se, q⟩ := h
  obtain ⟨as, r1⟩ := Dp.reads I d x v hd rx
  have hxs : PyData.canLayAll0 ds = true := by simpa [PyData.canLay0] using SeqAt.canLay_of_shaped se
  rcases he with he | he
  · obtain ⟨bs, r2⟩ := Dp.reads I (.list ds) y u he ry
    exact SeqAt.notIn_list_reads r2 r1 hxs (SeqAt.canLay_of_shaped sd) (PyProof.Rows.room_in_shaped sd hu) ⟨.bl _, H, I, rfl, q⟩
  · obtain ⟨bs, r2⟩ := Dp.reads I (.tuple ds) y u he ry
    exact SeqAt.notIn_tuple_reads r2 r1 hxs (SeqAt.canLay_of_shaped sd) (PyProof.Rows.room_in_shaped sd hu) ⟨.bl _, H, I, rfl, q⟩
def oIn (neg : Bool) (x y : Rs) (ρ : En) (Q : Rs → En → Prop) : Prop := wd x ρ fun dx => wd y ρ fun dy => match dy with
  | .lst ds => dx.shp = true ∧ (D.lst ds).shp = true ∧ Q (.val (.bl (if neg then !(ds.any fun z => D.eqv z dx) else ds.any fun z => D.eqv z dx))) ρ
  | .tup ds => dx.shp = true ∧ (D.tup ds).shp = true ∧ Q (.val (.bl (if neg then !(ds.any fun z => D.eqv z dx) else ds.any fun z => D.eqv z dx))) ρ
  | _ => False
theorem simIn (neg : Bool) : SimR2 K (rInS K neg) (oIn neg) := by
  intro F U ρ σ H x y rx ry Q3 Q2 e R h1 h2 h k
  obtain ⟨dx, e1, h⟩ := wd_out h
  obtain ⟨dy, e2, h⟩ := wd_out h
  subst e
  cases dy with
  | lst ds =>
    obtain ⟨s1, s2, q⟩ := h
    have o1 : dx.ok = true := (Bool.and_eq_true_iff.mp s1).1
    have o2 : (D.lst ds).ok = true := (Bool.and_eq_true_iff.mp s2).1
    have z := h2.dp R e2 o2
    have y2 := shp_shaped s2
    simp only [D.toP] at z y2
    refine ⟨dx.toP, D.toPs ds, h1.dp R e1 o1, .inl z, shp_shaped s1, y2, ?_⟩
    rw [toPs_any dx o1 ds (by simpa [D.ok] using o2)]
    exact k (.val (.bl _)) _ _ _ R (.refl R) (show Rp F.K H U _ _ from rp_bl) q
  | tup ds =>
    obtain ⟨s1, s2, q⟩ := h
    have o1 : dx.ok = true := (Bool.and_eq_true_iff.mp s1).1
    have o2 : (D.tup ds).ok = true := (Bool.and_eq_true_iff.mp s2).1
    have z := h2.dp R e2 o2
    have y2 := shp_shaped s2
    simp only [D.toP] at z
    have y3 : SeqAt.shaped (.list (D.toPs ds)) = true := by
      simpa [SeqAt.shaped, D.toP, PyData.canLay0, PyData.depth] using y2
    refine ⟨dx.toP, D.toPs ds, h1.dp R e1 o1, .inr z, shp_shaped s1, y3, ?_⟩
    rw [toPs_any dx o1 ds (by simpa [D.ok] using o2)]
    exact k (.val (.bl _)) _ _ _ R (.refl R) (show Rp F.K H U _ _ from rp_bl) q
  | _ => exact h.elim
/-- a text in a text -/
def rInT (neg : Bool) : R2 := fun x y H Q => ∃ i j, x = .str i ∧ y = .str j ∧ Q (.bl (if neg then !(!(Builtin.Str.occurrences j i 0 j.length 1).isEmpty) else !(Builtin.Str.occurrences j i 0 j.length 1).isEmpty)) H
theorem op_inT {X : Cx} : OpR X (compareOp .In) (rInT false) := fun pins s σ H x y v u Q I rx ry h => op_in_str pins s σ H x y v u Q I rx ry h
theorem op_notInT {X : Cx} : OpR X (compareOp .NotIn) (rInT true) := fun pins s σ H x y v u Q I rx ry h => op_notin_str pins s σ H x y v u Q I rx ry h
def oInT (neg : Bool) (x y : Rs) (ρ : En) (Q : Rs → En → Prop) : Prop := wd x ρ fun dx => wd y ρ fun dy => match dx, dy with
  | .str i, .str j => Q (.val (.bl (if neg then !(!(Builtin.Str.occurrences j i 0 j.length 1).isEmpty) else !(Builtin.Str.occurrences j i 0 j.length 1).isEmpty))) ρ
  | _, _ => False
theorem simInT (neg : Bool) : SimR2 K (rInT neg) (oInT neg) := by
  intro F U ρ σ H x y rx ry Q3 Q2 e R h1 h2 h k
  obtain ⟨dx, e1, h⟩ := wd_out h
  obtain ⟨dy, e2, h⟩ := wd_out h
  cases dx <;> cases dy <;> first | exact ⟨_, _, h1.str R e1, h2.str R e2, k (.val (.bl _)) _ _ _ R (.refl R) (show Rp F.K H U _ _ from rp_bl) h⟩ | exact h.elim
def D.isNon : D → Bool
  | .non => true
  | _ => false
/-- is None -/
def oIsN (neg : Bool) (x y : Rs) (ρ : En) (Q : Rs → En → Prop) : Prop := wd x ρ fun dx => wd y ρ fun dy => match dy with
  | .non => Q (.val (.bl (if neg then !dx.isNon else dx.isNon))) ρ
  | _ => False
theorem non_dec (R : Rel F U ρ σ H) {r : Rs} {v : V} {d : D} (h : RV F U σ H r v) (e : r.dat ρ = some d) : decide (v = V.non) = d.isNon := by
  rcases h.get R e with q | ⟨a, rfl, q⟩
  · cases d <;> simp only [Rp] at q
    all_goals first
      | (subst q; rfl)
      | (obtain ⟨e', q⟩ := q; subst e'; rfl)
      | (obtain ⟨a, e', q⟩ := q; subst e'; rfl)
      | (obtain ⟨a, vs, e', q⟩ := q; subst e'; rfl)
      | (obtain ⟨a, dx, gs, e', q⟩ := q; subst e'; rfl)
  · cases d <;> first | rfl | exact q.elim
theorem simIsN : SimR2 K (fun x y H Q => y = .non ∧ Q (.bl (decide (x = .non))) H) (oIsN false) := by
  intro F U ρ σ H x y rx ry Q3 Q2 e R h1 h2 h k
  obtain ⟨dx, e1, h⟩ := wd_out h
  obtain ⟨dy, e2, h⟩ := wd_out h
  cases dy <;> first | exact h.elim | skip
  refine ⟨h2.non R e2, ?_⟩
  rw [non_dec R h1 e1]
  exact k (.val (.bl _)) _ _ _ R (.refl R) (show Rp F.K H U _ _ from rp_bl) h
theorem simNotN : SimR2 K (fun x y H Q => y = .non ∧ Q (.bl (!decide (x = .non))) H) (oIsN true) := by
  intro F U ρ σ H x y rx ry Q3 Q2 e R h1 h2 h k
  obtain ⟨dx, e1, h⟩ := wd_out h
  obtain ⟨dy, e2, h⟩ := wd_out h
  cases dy <;> first | exact h.elim | skip
  refine ⟨h2.non R e2, ?_⟩
  rw [non_dec R h1 e1]
  exact k (.val (.bl _)) _ _ _ R (.refl R) (show Rp F.K H U _ _ from rp_bl) h
/-- + of ints, texts, tuples, lists -/
def r2Add (K : PySem.W.Frag) : R2 := fun x y H Q => (rI0 (fun i j => .int (i + j))) x y H Q ∨ (∃ i j, x = .str i ∧ y = .str j ∧ i.length + j.length ≤ sizeLine ∧ Q (.str (i ++ j)) H) ∨ rCatF K x y H Q ∨ rCat x y H Q ∨ (∃ i k, x = .int i ∧ y = .bl k ∧ Q (.int (i + b2i k)) H)
theorem op_addP {X : Cx} : OpR X (binaryOp .Add) (r2Add X.K) := op_add.or (op_add_str.or (op_catF.or (op_cat.or op_add_ib)))
def oAdd (x y : Rs) (ρ : En) (Q : Rs → En → Prop) : Prop := wn x ρ fun dx => wn y ρ fun dy => match dx, dy with
  | .int i, .int j => Q (.val (.int (i + j))) ρ
  | .int i, .bl b => Q (.val (.int (i + b2i b))) ρ
  | .str i, .str j => i.length + j.length ≤ sizeLine ∧ Q (.val (.str (i ++ j))) ρ
  | .tup xs, .tup ys => xs.length + ys.length ≤ sizeLine ∧ Q (.val (.tup (xs ++ ys))) ρ
  | .lst xs, .lst ys => xs.length + ys.length ≤ sizeLine ∧ Q (.val (.lst (xs ++ ys))) ρ
  | _, _ => False
theorem simAdd : SimR2 K (r2Add K) oAdd := by
  intro F U ρ σ H x y rx ry Q3 Q2 e R h1 h2 h k
  obtain ⟨dx, e1, h⟩ := wn_out h
  obtain ⟨dy, e2, h⟩ := wn_out h
  have f1 := Rs.dat_of_datN e1
  have f2 := Rs.dat_of_datN e2
  subst e
  cases dx <;> cases dy
  all_goals first | exact h.elim | skip
  · exact .inr (.inr (.inr (.inr ⟨_, _, h1.int R f1, h2.bl R f2, k (.val (.int _)) _ _ _ R (.refl R) (show Rp F.K H U _ _ from rp_int) h⟩)))
  · exact .inl ⟨_, _, h1.int R f1, h2.int R f2, k (.val (.int _)) _ _ _ R (.refl R) (show Rp F.K H U _ _ from rp_int) h⟩
  · exact .inr (.inl ⟨_, _, h1.str R f1, h2.str R f2, h.1, k (.val (.str _)) _ _ _ R (.refl R) (show Rp F.K H U _ _ from rp_str) h.2⟩)
  · rename_i xs _ ys
    obtain ⟨a, vs, rfl, q1, q2, q3⟩ := h1.tup R f1
    obtain ⟨b, ws, rfl, p1, p2, p3⟩ := h2.tup R f2
    refine .inr (.inr (.inl ⟨a, b, vs, ws, rfl, rfl, q1, p1, by rw [q2.len, p2.len]; exact h.1, fun z => ?_, fun z1 z2 => ?_, fun z1 z2 p ob hp hob => ?_⟩))
    · have : xs = [] := by have := q2.len; rw [z] at this; exact List.eq_nil_of_length_eq_zero this.symm
      subst this
      exact k (.val (.tup _)) _ _ _ R (.refl R) (show Rp F.K H U _ _ from p3) h.2
    · have : ys = [] := by have := p2.len; rw [z2] at this; exact List.eq_nil_of_length_eq_zero this.symm
      subst this
      have h2 := h.2
      rw [List.append_nil] at h2
      exact k (.val (.tup _)) _ _ _ R (.refl R) (show Rp F.K H U _ _ from q3) h2
    · exact k (.val (.tup _)) _ _ _ (R.ext (ext_new hp)) (.ext (ext_new hp)) (rp_newT R hob hp (q2.app p2)) h.2
  · obtain ⟨a, vs, rfl, q1, q2⟩ := h1.lstN R e1
    obtain ⟨b, ws, rfl, p1, p2⟩ := h2.lstN R e2
    exact .inr (.inr (.inr (.inl ⟨a, b, vs, ws, rfl, rfl, q1, p1, by rw [q2.len, p2.len]; exact h.1, fun p hp =>
      k (.val (.lst _)) _ _ _ (R.ext (ext_new hp)) (.ext (ext_new hp)) (rp_newL R hp (q2.app p2)) h.2⟩)))
/-- * of ints, of an int and a truth value, of a list and an int -/
def r2Mul : R2 := fun x y H Q => (rI CMul fun i j => .int (i * j)) x y H Q ∨ (∃ i k, x = .int i ∧ y = .bl k ∧ Q (.int (i * if k = true then (1 : Int) else 0)) H) ∨ rRep x y H Q
theorem op_mul_ib {X : Cx} : OpR X (binaryOp .Mult) (fun x y H Q => ∃ i k, x = .int i ∧ y = .bl k ∧ Q (.int (i * if k = true then (1 : Int) else 0)) H) := by
  intro pins s σ H x y v u Q I rx ry h
  obtain ⟨i, k, rfl, rfl, q⟩ := h
  obtain ⟨t, rfl⟩ := rx
  cases ry
  exact PySem.IntBool.mul_int_bool ⟨.int _, H, I.tok _, ⟨_, rfl⟩, q⟩
theorem op_mulP {X : Cx} : OpR X (binaryOp .Mult) r2Mul := op_mul.or (op_mul_ib.or op_rep)
def oMul (x y : Rs) (ρ : En) (Q : Rs → En → Prop) : Prop := wn x ρ fun dx => wn y ρ fun dy => match dx, dy with
  | .int i, .int j => CMul i j ∧ Q (.val (.int (i * j))) ρ
  | .int i, .bl b => Q (.val (.int (i * if b = true then (1 : Int) else 0))) ρ
  | .lst xs, .int k => (-(2 ^ 63) ≤ k ∧ k < 2 ^ 63 ∧ xs.length * k.toNat ≤ sizeLine) ∧ Q (.val (.lst (List.replicate k.toNat xs).flatten)) ρ
  | _, _ => False
theorem RpAll.rep {ds : List D} {vs : List V} (h : RpAll K H U ds vs) : ∀ n, RpAll K H U (List.replicate n ds).flatten (List.replicate n vs).flatten
  | 0 => by simp [RpAll]
  | n + 1 => by rw [List.replicate_succ, List.replicate_succ, List.flatten_cons, List.flatten_cons]; exact h.app (h.rep n)
theorem simMul : SimR2 K r2Mul oMul := by
  intro F U ρ σ H x y rx ry Q3 Q2 e R h1 h2 h k
  obtain ⟨dx, e1, h⟩ := wn_out h
  obtain ⟨dy, e2, h⟩ := wn_out h
  have f1 := Rs.dat_of_datN e1
  have f2 := Rs.dat_of_datN e2
  subst e
  cases dx <;> cases dy
  all_goals first | exact h.elim | skip
  · exact .inr (.inl ⟨_, _, h1.int R f1, h2.bl R f2, k (.val (.int _)) _ _ _ R (.refl R) (show Rp F.K H U _ _ from rp_int) h⟩)
  · exact .inl ⟨_, _, h1.int R f1, h2.int R f2, h.1, k (.val (.int _)) _ _ _ R (.refl R) (show Rp F.K H U _ _ from rp_int) h.2⟩
  · obtain ⟨a, vs, rfl, q1, q2⟩ := h1.lstN R e1
    exact .inr (.inr ⟨a, _, vs, rfl, h2.int R f2, q1, h.1.1, h.1.2.1, by rw [q2.len]; exact h.1.2.2, fun p hp =>
      k (.val (.lst _)) _ _ _ (R.ext (ext_new hp)) (.ext (ext_new hp)) (rp_newL R hp (q2.rep _)) h.2⟩)
end
end L3

set_option Elab.async false
set_option linter.all false
set_option maxRecDepth 100000
namespace L3
open PySem L2
open PyProof.Rows (b2i)

section
variable {F : Fr} {U : US} {ρ ρ' ρ2 : En} {σ : St} {H H' H2 : Hp} {K : PySem.W.Frag}
/-! ### tests -/
def wb (r : Rs) (ρ : En) (k : Bool → Prop) : Prop := wd r ρ fun d => match d with
  | .bl b => k b
  | _ => False
theorem wb_out {r : Rs} {k : Bool → Prop} (h : wb r ρ k) : ∃ b, r.dat ρ = some (.bl b) ∧ k b := by
  obtain ⟨d, e, h⟩ := wd_out h
  cases d <;> first | exact ⟨_, e, h⟩ | exact h.elim
def fTst (f : T3E) : T3T := fun ρ Q => f ρ fun r ρ1 => wb r ρ1 fun b => Q b ρ1
theorem simTst {t : TE} {f : T3E} (h : SimE K t f) : SimT K (tTest t) (fTst f) := by
  intro F U ρ σ H Q3 Q2 e R q k
  refine h F U ρ σ H _ _ e R q fun r v ρ1 H1 R1 s1 q1 h1 => ?_
  obtain ⟨b, e1, h1⟩ := wb_out h1
  exact ⟨b, q1.bl R1 e1, k b ρ1 H1 R1 s1 h1⟩
theorem simTB {t : TE} {f : T3E} (h : SimE K t f) : SimT K (tB t) (fTst f) := simTst h
/-- truth -/
def wtru (d : D) (k : Bool → Prop) : Prop := match d with
  | .non => k false
  | .bl b => k b
  | .int i => k (i != 0)
  | .str z => z.length ≤ sizeLine ∧ k ((z.length : Int) != 0)
  | .lst xs => k (!xs.isEmpty)
  | .tup xs => k (!xs.isEmpty)
  | _ => False
theorem isE_of {ds : List D} {vs : List V} (h : RpAll K H U ds vs) : vs.isEmpty = ds.isEmpty := by
  have := h.len
  cases ds <;> cases vs <;> first | rfl | simp at this
theorem wtru_out (R : Rel F U ρ σ H) {r : Rs} {v : V} {d : D} {k : Bool → Prop} (h : RV F U σ H r v) (e : r.dat ρ = some d) (q : wtru d k) : ∃ b, TruV F.K v H b ∧ k b := by
  cases d with
  | non => rw [h.non R e]; exact ⟨false, rfl, q⟩
  | bl b => rw [h.bl R e]; exact ⟨b, rfl, q⟩
  | int i => rw [h.int R e]; exact ⟨_, rfl, q⟩
  | str z => rw [h.str R e]; exact ⟨_, ⟨q.1, rfl⟩, q.2⟩
  | lst ds =>
    obtain ⟨a, vs, rfl, h1, h2⟩ := h.lst R e
    exact ⟨_, .inl ⟨vs, h1, by rw [isE_of h2]⟩, q⟩
  | tup ds =>
    obtain ⟨a, vs, rfl, h1, h2, _⟩ := h.tup R e
    exact ⟨_, .inr (.inl ⟨vs, h1, by rw [isE_of h2]⟩), q⟩
  | _ => exact q.elim
def fTru (f : T3E) : T3T := fun ρ Q => f ρ fun r ρ1 => wd r ρ1 fun d => wtru d fun b => Q b ρ1
theorem simTru {t : TE} {f : T3E} (h : SimE K t f) : SimT K (fun σ H Q => t σ H fun x H' => ∃ k, TruV K x H' k ∧ Q k H') (fTru f) := by
  intro F U ρ σ H Q3 Q2 e R q k
  subst e
  refine h F U ρ σ H _ _ rfl R q fun r v ρ1 H1 R1 s1 q1 h1 => ?_
  obtain ⟨d, e1, h1⟩ := wd_out h1
  obtain ⟨b, t1, h1⟩ := wtru_out R1 q1 e1 h1
  exact ⟨b, t1, k b ρ1 H1 R1 s1 h1⟩
def fAnd (f g : T3T) : T3T := fun ρ Q => f ρ fun b ρ1 => if b = true then g ρ1 Q else Q false ρ1
def fOr (f g : T3T) : T3T := fun ρ Q => f ρ fun b ρ1 => if b = true then Q true ρ1 else g ρ1 Q
def fNot (f : T3T) : T3T := fun ρ Q => f ρ fun b ρ1 => Q (!b) ρ1
theorem simAnd {t u : TT} {f g : T3T} (h : SimT K t f) (h' : SimT K u g) : SimT K (tAnd t u) (fAnd f g) := by
  intro F U ρ σ H Q3 Q2 e R q k
  refine h F U ρ σ H _ _ e R q fun b ρ1 H1 R1 s1 h1 => ?_
  cases b with
  | true => exact h' F U ρ1 σ H1 _ _ e R1 h1 fun c ρ2 H2 R2 s2 h2 => k c ρ2 H2 R2 (s1.trans s2) h2
  | false => exact k false ρ1 H1 R1 s1 h1
theorem simOr {t u : TT} {f g : T3T} (h : SimT K t f) (h' : SimT K u g) : SimT K (tOr t u) (fOr f g) := by
  intro F U ρ σ H Q3 Q2 e R q k
  refine h F U ρ σ H _ _ e R q fun b ρ1 H1 R1 s1 h1 => ?_
  cases b with
  | false => exact h' F U ρ1 σ H1 _ _ e R1 h1 fun c ρ2 H2 R2 s2 h2 => k c ρ2 H2 R2 (s1.trans s2) h2
  | true => exact k true ρ1 H1 R1 s1 h1
theorem simNot {t : TT} {f : T3T} (h : SimT K t f) : SimT K (tNot t) (fNot f) := by
  intro F U ρ σ H Q3 Q2 e R q k
  exact h F U ρ σ H _ _ e R q fun b ρ1 H1 R1 s1 h1 => k (!b) ρ1 H1 R1 s1 h1
/-- .. as values -/
def eAnd (f g : T3E) : T3E := fun ρ Q => f ρ fun r ρ1 => wd r ρ1 fun d => wtru d fun b => if b = true then g ρ1 Q else Q r ρ1
def eOr (f g : T3E) : T3E := fun ρ Q => f ρ fun r ρ1 => wd r ρ1 fun d => wtru d fun b => if b = true then Q r ρ1 else g ρ1 Q
def eNot (f : T3E) : T3E := fun ρ Q => f ρ fun r ρ1 => wd r ρ1 fun d => wtru d fun b => Q (.val (.bl (!b))) ρ1
theorem simAndV {t u : TE} {f g : T3E} (h : SimE K t f) (h' : SimE K u g) : SimE K (tAndT K t u) (eAnd f g) := by
  intro F U ρ σ H Q3 Q2 e R q k
  subst e
  refine h F U ρ σ H _ _ rfl R q fun r v ρ1 H1 R1 s1 q1 h1 => ?_
  obtain ⟨d, e1, h1⟩ := wd_out h1
  obtain ⟨b, t1, h1⟩ := wtru_out R1 q1 e1 h1
  refine ⟨b, t1, ?_⟩
  cases b with
  | true => exact h' F U ρ1 σ H1 _ _ rfl R1 h1 fun c w ρ2 H2 R2 s2 q2 h2 => k c w ρ2 H2 R2 (s1.trans s2) q2 h2
  | false => exact k r v ρ1 H1 R1 s1 q1 h1
theorem simOrV {t u : TE} {f g : T3E} (h : SimE K t f) (h' : SimE K u g) : SimE K (tOrT K t u) (eOr f g) := by
  intro F U ρ σ H Q3 Q2 e R q k
  subst e
  refine h F U ρ σ H _ _ rfl R q fun r v ρ1 H1 R1 s1 q1 h1 => ?_
  obtain ⟨d, e1, h1⟩ := wd_out h1
  obtain ⟨b, t1, h1⟩ := wtru_out R1 q1 e1 h1
  refine ⟨b, t1, ?_⟩
  cases b with
  | false => exact h' F U ρ1 σ H1 _ _ rfl R1 h1 fun c w ρ2 H2 R2 s2 q2 h2 => k c w ρ2 H2 R2 (s1.trans s2) q2 h2
  | true => exact k r v ρ1 H1 R1 s1 q1 h1
theorem simNotV {t : TE} {f : T3E} (h : SimE K t f) : SimE K (tNotT K t) (eNot f) := by
  intro F U ρ σ H Q3 Q2 e R q k
  subst e
  refine h F U ρ σ H _ _ rfl R q fun r v ρ1 H1 R1 s1 q1 h1 => ?_
  obtain ⟨d, e1, h1⟩ := wd_out h1
  obtain ⟨b, t1, h1⟩ := wtru_out R1 q1 e1 h1
  exact ⟨b, t1, k (.val (.bl (!b))) _ ρ1 H1 R1 s1 (show Rp _ _ _ _ _ from rp_bl) h1⟩
def eIf (f : T3T) (g h : T3E) : T3E := fun ρ Q => f ρ fun b ρ1 => if b = true then g ρ1 Q else h ρ1 Q
theorem simIf {t : TT} {u w : TE} {f : T3T} {g g' : T3E} (h : SimT K t f) (h1 : SimE K u g) (h2 : SimE K w g') : SimE K (tIf t u w) (eIf f g g') := by
  intro F U ρ σ H Q3 Q2 e R q k
  refine h F U ρ σ H _ _ e R q fun b ρ1 H1 R1 s1 q1 => ?_
  cases b with
  | true => exact h1 F U ρ1 σ H1 _ _ e R1 q1 fun c w ρ2 H2 R2 s2 q2 h2 => k c w ρ2 H2 R2 (s1.trans s2) q2 h2
  | false => exact h2 F U ρ1 σ H1 _ _ e R1 q1 fun c w ρ2 H2 R2 s2 q2 h2 => k c w ρ2 H2 R2 (s1.trans s2) q2 h2
/-- a < b < c -/
def eChain (r3 r3' : Rs → Rs → En → (Rs → En → Prop) → Prop) (fa fb fc : T3E) : T3E := fun ρ Q => fa ρ fun x ρ1 => fb ρ1 fun y ρ2 => r3 x y ρ2 fun z ρ3 => wb z ρ3 fun b => if b = true then fc ρ3 fun w ρ4 => r3' y w ρ4 Q else Q (.val (.bl false)) ρ3
theorem simChain {r r' : R2} {r3 r3' : Rs → Rs → En → (Rs → En → Prop) → Prop} {ta tb tc : TE} {fa fb fc : T3E} (h : SimR2 K r r3) (h' : SimR2 K r' r3') (ha : SimE K ta fa) (hb : SimE K tb fb) (hc : SimE K tc fc) :
    SimE K (tChain r r' ta tb tc) (eChain r3 r3' fa fb fc) := by
  intro F U ρ σ H Q3 Q2 e R q k
  refine ha F U ρ σ H _ _ e R q fun x v ρ1 H1 R1 s1 q1 h1 => ?_
  refine hb F U ρ1 σ H1 _ _ e R1 h1 fun y u ρ2 H2 R2 s2 q2 h2 => ?_
  refine h F U ρ2 σ H2 v u x y _ _ e R2 (q1.pres (s2.pres R1)) q2 h2 fun z w ρ3 H3 R3 s3 q3 h3 => ?_
  obtain ⟨b, e3, h3⟩ := wb_out h3
  refine ⟨b, q3.bl R3 e3, ?_⟩
  cases b with
  | false => exact k (.val (.bl false)) _ ρ3 H3 R3 ((s1.trans s2).trans s3) (show Rp _ _ _ _ _ from rp_bl) h3
  | true =>
    refine hc F U ρ3 σ H3 _ _ e R3 h3 fun w t ρ4 H4 R4 s4 q4 h4 => ?_
    exact h' F U ρ4 σ H4 u t y w _ _ e R4 ((q2.pres (s3.pres R2)).pres (s4.pres R3)) q4 h4 fun z t ρ5 H5 R5 s5 q5 h5 => k z t ρ5 H5 R5 ((((s1.trans s2).trans s3).trans s4).trans s5) q5 h5

/-! ### subscripts, slices -/
def wo {α : Type} (o : Option α) (k : α → Prop) : Prop := match o with
  | some x => k x
  | none => False
theorem wo_out {α : Type} {o : Option α} {k : α → Prop} (h : wo o k) : ∃ x, o = some x ∧ k x := by
  cases o with
  | none => exact h.elim
  | some x => exact ⟨x, rfl, h⟩
def oIdx (x y : Rs) (ρ : En) (Q : Rs → En → Prop) : Prop := wd x ρ fun dx => wd y ρ fun dy => match dx, dy with
  | .lst ds, .int i => wo (atI ds i) fun d => Q (.val d) ρ
  | .tup ds, .int i => wo (atI ds i) fun d => Q (.val d) ρ
  | .str z, .int i => z.length ≤ sizeLine ∧ wo (atI z.cps.toList i) fun c => Q (.val (.str ⟨#[c]⟩)) ρ
  | _, _ => False
theorem simIdx : SimR2 K (rIx K) oIdx := by
  intro F U ρ σ H x y rx ry Q3 Q2 e R h1 h2 h k
  obtain ⟨dx, e1, h⟩ := wd_out h
  obtain ⟨dy, e2, h⟩ := wd_out h
  subst e
  cases dx <;> cases dy
  all_goals first | exact h.elim | skip
  · obtain ⟨hz, h⟩ := h
    obtain ⟨c, ec, h⟩ := wo_out h
    exact .inr (.inr ⟨_, _, c, h1.str R e1, h2.int R e2, hz, ec, k (.val (.str _)) _ _ _ R (.refl R) (show Rp _ _ _ _ _ from rp_str) h⟩)
  · obtain ⟨d, ed, h⟩ := wo_out h
    obtain ⟨a, vs, rfl, q1, q2, _⟩ := h1.tup R e1
    obtain ⟨v, ev, q3⟩ := q2.atI ed
    exact .inr (.inl ⟨a, vs, _, v, rfl, h2.int R e2, q1, ev, k (.val d) _ _ _ R (.refl R) (show Rp _ _ _ _ _ from q3) h⟩)
  · obtain ⟨d, ed, h⟩ := wo_out h
    obtain ⟨a, vs, rfl, q1, q2⟩ := h1.lst R e1
    obtain ⟨v, ev, q3⟩ := q2.atI ed
    exact .inl ⟨a, vs, _, v, rfl, h2.int R e2, q1, ev, k (.val d) _ _ _ R (.refl R) (show Rp _ _ _ _ _ from q3) h⟩
abbrev T3O := En → (Option Int → En → Prop) → Prop
def SimO (K : PySem.W.Frag) (t2 : TO) (t3 : T3O) : Prop :=
  ∀ (F : Fr) (U : US) (ρ : En) (σ : St) (H : Hp) (Q3 : Option Int → En → Prop) (Q2 : Option Int → Hp → Prop), F.K = K → Rel F U ρ σ H → t3 ρ Q3 →
    (∀ o ρ' H', Rel F U ρ' σ H' → Stp ρ σ H ρ' H' → Q3 o ρ' → Q2 o H') → t2 σ H Q2
def pNo : T3O := fun ρ Q => Q none ρ
def pSo (f : T3E) : T3O := fun ρ Q => f ρ fun r ρ1 => wd r ρ1 fun d => match d with
  | .int i => Q (some i) ρ1
  | _ => False
theorem simNo : SimO K tNoPart pNo := fun F U ρ σ H Q3 Q2 e R q k => k none ρ H R (.refl R) q
theorem simSo {t : TE} {f : T3E} (h : SimE K t f) : SimO K (tPart t) (pSo f) := by
  intro F U ρ σ H Q3 Q2 e R q k
  refine h F U ρ σ H _ _ e R q fun r v ρ1 H1 R1 s1 q1 h1 => ?_
  obtain ⟨d, e1, h1⟩ := wd_out h1
  cases d <;> first | exact h1.elim | exact ⟨_, q1.int R1 e1, k (some _) ρ1 H1 R1 s1 h1⟩
def cutL {α : Type} (xs : List α) (lo hi : Option Int) : List α := (xs.drop (HT.sIx xs.length 0 lo)).take (HT.sIx xs.length xs.length hi - HT.sIx xs.length 0 lo)
theorem RpAll.cut {ds : List D} {vs : List V} (h : RpAll K H U ds vs) (lo hi : Option Int) : RpAll K H U (cutL ds lo hi) (cutV vs lo hi) := by
  unfold cutL cutV
  rw [h.len]
  exact (h.drop _).take _
def r2Sl (K : PySem.W.Frag) : V → Option Int → Option Int → Hp → VK → Prop := fun x lo hi H Q => rSlL K x lo hi H Q ∨ (rSlF K x lo hi H Q ∨ rSlS x lo hi H Q)
theorem sl_P {X : Cx} : SlR X (r2Sl X.K) := sl_list.or (sl_tupF.or sl_str)
def eSl (f : T3E) (l h : T3O) : T3E := fun ρ Q => f ρ fun r ρ1 => l ρ1 fun lo ρ2 => h ρ2 fun hi ρ3 => wd r ρ3 fun d => match d with
  | .lst ds => Q (.val (.lst (cutL ds lo hi))) ρ3
  | .tup ds => Q (.val (.tup (cutL ds lo hi))) ρ3
  | .str z => z.length ≤ sizeLine ∧ Q (.val (.str (cutS z lo hi))) ρ3
  | _ => False
theorem simSl {t : TE} {l h : TO} {f : T3E} {l3 h3 : T3O} (ht : SimE K t f) (hl : SimO K l l3) (hh : SimO K h h3) : SimE K (tSl (r2Sl K) t l h) (eSl f l3 h3) := by
  intro F U ρ σ H Q3 Q2 e R q k
  refine ht F U ρ σ H _ _ e R q fun r v ρ1 H1 R1 s1 q1 h1 => ?_
  refine hl F U ρ1 σ H1 _ _ e R1 h1 fun lo ρ2 H2 R2 s2 h2 => ?_
  refine hh F U ρ2 σ H2 _ _ e R2 h2 fun hi ρ3 H3 R3 s3 h3 => ?_
  have q3 := (q1.pres (s2.pres R1)).pres (s3.pres R2)
  have s := (s1.trans s2).trans s3
  obtain ⟨d, e1, h3⟩ := wd_out h3
  subst e
  cases d <;> first | exact h3.elim | skip
  · exact .inr (.inr ⟨_, q3.str R3 e1, h3.1, k (.val (.str _)) _ ρ3 H3 R3 s (show Rp _ _ _ _ _ from rp_str) h3.2⟩)
  · rename_i ds
    obtain ⟨a, vs, rfl, z1, z2, z3⟩ := q3.tup R3 e1
    refine .inr (.inl ⟨a, vs, rfl, z1, fun w => ?_, fun w p ob hp hob => ?_⟩)
    · have e : cutL ds lo hi = ds := by
        unfold cutL
        rw [z2.len] at w
        rw [w.1, w.2]
        simp
      have h3 : Q3 (.val (.tup (cutL ds lo hi))) ρ3 := h3
      rw [e] at h3
      exact k (.val (.tup ds)) _ ρ3 H3 R3 s (show Rp _ _ _ _ _ from z3) h3
    · exact k (.val (.tup _)) _ ρ3 _ (R3.ext (ext_new hp)) (s.trans (.ext (ext_new hp))) (rp_newT R3 hob hp (z2.cut lo hi)) h3
  · obtain ⟨a, vs, rfl, z1, z2⟩ := q3.lst R3 e1
    exact .inl ⟨a, vs, rfl, z1, fun p hp => k (.val (.lst _)) _ ρ3 _ (R3.ext (ext_new hp)) (s.trans (.ext (ext_new hp))) (rp_newL R3 hp (z2.cut lo hi)) h3⟩

/-! ### arguments, displays -/
def aNil : T3A := fun ρ Q => Q [] ρ
def aCons (f : T3E) (g : T3A) : T3A := fun ρ Q => f ρ fun r ρ1 => g ρ1 fun rs ρ2 => Q (r :: rs) ρ2
theorem simNil : SimA K tNil aNil := fun F U ρ σ H Q3 Q2 e R q k => k [] [] ρ H R (.refl R) .nil q
theorem simCons {t : TE} {u : TA} {f : T3E} {g : T3A} (h : SimE K t f) (h' : SimA K u g) : SimA K (tCons t u) (aCons f g) := by
  intro F U ρ σ H Q3 Q2 e R q k
  refine h F U ρ σ H _ _ e R q fun r v ρ1 H1 R1 s1 q1 h1 => ?_
  exact h' F U ρ1 σ H1 _ _ e R1 h1 fun rs vs ρ2 H2 R2 s2 q2 h2 => k (r :: rs) (v :: vs) ρ2 H2 R2 (s1.trans s2) (.cons (q1.pres (s2.pres R1)) q2) h2
/-- all are shared values -/
def allV : List Rs → (List D → Prop) → Prop
  | [], k => k []
  | .val d :: rs, k => allV rs fun ds => k (d :: ds)
  | .sl _ :: _, _ => False
  | .bx _ _ _ :: _, _ => False
theorem allV_out : ∀ {rs : List Rs} {vs : List V} {k : List D → Prop}, RVs F U σ H rs vs → allV rs k → ∃ ds, RpAll F.K H U ds vs ∧ ds.length = rs.length ∧ k ds
  | [], _, _, .nil, h => ⟨[], by simp [RpAll], rfl, h⟩
  | .val d :: rs, _, _, .cons q qs, h => by
    obtain ⟨ds, h1, h2, h3⟩ := allV_out qs h
    exact ⟨d :: ds, by simp only [RpAll]; exact ⟨_, _, rfl, q, h1⟩, by rw [List.length_cons, List.length_cons, h2], h3⟩
  | .sl _ :: _, _, _, _, h => h.elim
  | .bx _ _ _ :: _, _, _, _, h => h.elim
def eTup (g : T3A) : T3E := fun ρ Q => g ρ fun rs ρ1 => allV rs fun ds => ds.length ≤ sizeLine ∧ Q (.val (.tup ds)) ρ1
def eLst (g : T3A) : T3E := fun ρ Q => g ρ fun rs ρ1 => allV rs fun ds => ds.length ≤ sizeLine ∧ Q (.val (.lst ds)) ρ1
theorem simTup {u : TA} {g : T3A} (h : SimA K u g) : SimE K (tTupF u) (eTup g) := by
  intro F U ρ σ H Q3 Q2 e R q k
  refine h F U ρ σ H _ _ e R q fun rs vs ρ1 H1 R1 s1 q1 h1 => ?_
  obtain ⟨ds, z1, z2, z3, z4⟩ := allV_out q1 h1
  exact ⟨by rw [z1.len]; exact z3, fun p ob hp hob => k (.val (.tup ds)) _ ρ1 _ (R1.ext (ext_new hp)) (s1.trans (.ext (ext_new hp))) (rp_newT R1 hob hp z1) z4⟩
theorem simLst {u : TA} {g : T3A} (h : SimA K u g) : SimE K (tLst u) (eLst g) := by
  intro F U ρ σ H Q3 Q2 e R q k
  refine h F U ρ σ H _ _ e R q fun rs vs ρ1 H1 R1 s1 q1 h1 => ?_
  obtain ⟨ds, z1, z2, z3, z4⟩ := allV_out q1 h1
  exact ⟨by rw [z1.len]; exact z3, fun p hp => k (.val (.lst ds)) _ ρ1 _ (R1.ext (ext_new hp)) (s1.trans (.ext (ext_new hp))) (rp_newL R1 hp z1) z4⟩

/-! ### calls of built-ins -/
def eCB (r3 : List Rs → En → (Rs → En → Prop) → Prop) (g : T3A) : T3E := fun ρ Q => g ρ fun rs ρ1 => r3 rs ρ1 Q
theorem simCB {r2 : List V → Hp → VK → Prop} {r3 : List Rs → En → (Rs → En → Prop) → Prop} {u : TA} {g : T3A} (hr : SimCR K r2 r3) (h : SimA K u g) : SimE K (tCB r2 u) (eCB r3 g) := by
  intro F U ρ σ H Q3 Q2 e R q k
  refine h F U ρ σ H _ _ e R q fun rs vs ρ1 H1 R1 s1 q1 h1 => ?_
  exact hr F U ρ1 σ H1 vs rs _ _ e R1 q1 h1 fun r v ρ2 H2 R2 s2 q2 h2 => k r v ρ2 H2 R2 (s1.trans s2) q2 h2
def w1 (rs : List Rs) (ρ : En) (k : D → Prop) : Prop := match rs with
  | [x] => wd x ρ k
  | _ => False
theorem w1_out {rs : List Rs} {vs : List V} {k : D → Prop} (q : RVs F U σ H rs vs) (h : w1 rs ρ k) : ∃ x v d, rs = [x] ∧ vs = [v] ∧ RV F U σ H x v ∧ x.dat ρ = some d ∧ k d := by
  cases q with
  | nil => exact h.elim
  | cons q qs =>
    cases qs with
    | nil =>
      obtain ⟨d, e, h⟩ := wd_out h
      exact ⟨_, _, d, rfl, rfl, q, e, h⟩
    | cons _ _ => exact h.elim
def cLen (rs : List Rs) (ρ : En) (Q : Rs → En → Prop) : Prop := w1 rs ρ fun d => match d with
  | .lst ds => Q (.val (.int ds.length)) ρ
  | .tup ds => Q (.val (.int ds.length)) ρ
  | .str z => z.length ≤ sizeLine ∧ Q (.val (.int z.length)) ρ
  | _ => False
theorem simLen : SimCR K (fun xs H Q => ∃ x n, xs = [x] ∧ LenV K x H n ∧ Q (.int n) H) cLen := by
  intro F U ρ σ H vs rs Q3 Q2 e R q h k
  obtain ⟨x, v, d, rfl, rfl, q1, e1, h⟩ := w1_out q h
  subst e
  cases d <;> first | exact h.elim | skip
  · rw [q1.str R e1]
    exact ⟨_, _, rfl, ⟨h.1, rfl⟩, k (.val (.int _)) _ _ _ R (.refl R) (show Rp _ _ _ _ _ from rp_int) h.2⟩
  · obtain ⟨a, vs, rfl, z1, z2, _⟩ := q1.tup R e1
    exact ⟨_, vs.length, rfl, .inr ⟨vs, z1, rfl⟩, by rw [z2.len]; exact k (.val (.int _)) _ _ _ R (.refl R) (show Rp _ _ _ _ _ from rp_int) h⟩
  · obtain ⟨a, vs, rfl, z1, z2⟩ := q1.lst R e1
    exact ⟨_, vs.length, rfl, .inl ⟨vs, z1, rfl⟩, by rw [z2.len]; exact k (.val (.int _)) _ _ _ R (.refl R) (show Rp _ _ _ _ _ from rp_int) h⟩
def cInt (rs : List Rs) (ρ : En) (Q : Rs → En → Prop) : Prop := w1 rs ρ fun d => match d with
  | .int i => Q (.val (.int i)) ρ
  | .bl b => Q (.val (.int (if b then 1 else 0))) ρ
  | _ => False
theorem simInt : SimCR K (fun xs H Q => (∃ i, xs = [.int i] ∧ Q (.int i) H) ∨ ∃ k, xs = [.bl k] ∧ Q (.int (if k then 1 else 0)) H) cInt := by
  intro F U ρ σ H vs rs Q3 Q2 e R q h k
  obtain ⟨x, v, d, rfl, rfl, q1, e1, h⟩ := w1_out q h
  cases d <;> first | exact h.elim | skip
  · exact .inr ⟨_, by rw [q1.bl R e1], k (.val (.int _)) _ _ _ R (.refl R) (show Rp _ _ _ _ _ from rp_int) h⟩
  · exact .inl ⟨_, by rw [q1.int R e1], k (.val (.int _)) _ _ _ R (.refl R) (show Rp _ _ _ _ _ from rp_int) h⟩
def cAbs (rs : List Rs) (ρ : En) (Q : Rs → En → Prop) : Prop := w1 rs ρ fun d => match d with
  | .int i => Q (.val (.int (if i < 0 then -i else i))) ρ
  | _ => False
theorem simAbs : SimCR K (fun xs H Q => ∃ i, xs = [.int i] ∧ Q (.int (if i < 0 then -i else i)) H) cAbs := by
  intro F U ρ σ H vs rs Q3 Q2 e R q h k
  obtain ⟨x, v, d, rfl, rfl, q1, e1, h⟩ := w1_out q h
  cases d <;> first | exact h.elim | skip
  exact ⟨_, by rw [q1.int R e1], k (.val (.int _)) _ _ _ R (.refl R) (show Rp _ _ _ _ _ from rp_int) h⟩
/-- list(x), tuple(x) -/
def cList (rs : List Rs) (ρ : En) (Q : Rs → En → Prop) : Prop := w1 rs ρ fun d => match d with
  | .lst ds => Q (.val (.lst ds)) ρ
  | .tup ds => Q (.val (.lst ds)) ρ
  | _ => False
theorem simList : SimCR K (fun xs H Q => ∃ p ys, xs = [.ref p] ∧ (SqL K H p ys ∨ SqT K H p ys) ∧ ∀ l, H l = none → Q (.ref l) (upd H l (.lst ys))) cList := by
  intro F U ρ σ H vs rs Q3 Q2 e R q h k
  obtain ⟨x, v, d, rfl, rfl, q1, e1, h⟩ := w1_out q h
  subst e
  cases d <;> first | exact h.elim | skip
  · obtain ⟨a, vs, rfl, z1, z2, _⟩ := q1.tup R e1
    exact ⟨a, vs, rfl, .inr z1, fun p hp => k (.val (.lst _)) _ _ _ (R.ext (ext_new hp)) (.ext (ext_new hp)) (rp_newL R hp z2) h⟩
  · obtain ⟨a, vs, rfl, z1, z2⟩ := q1.lst R e1
    exact ⟨a, vs, rfl, .inl z1, fun p hp => k (.val (.lst _)) _ _ _ (R.ext (ext_new hp)) (.ext (ext_new hp)) (rp_newL R hp z2) h⟩
def cTuple (rs : List Rs) (ρ : En) (Q : Rs → En → Prop) : Prop := w1 rs ρ fun d => match d with
  | .lst ds => Q (.val (.tup ds)) ρ
  | .tup ds => Q (.val (.tup ds)) ρ
  | _ => False
theorem simTuple : SimCR K (rTupF K) cTuple := by
  intro F U ρ σ H vs rs Q3 Q2 e R q h k
  obtain ⟨x, v, d, rfl, rfl, q1, e1, h⟩ := w1_out q h
  subst e
  cases d <;> first | exact h.elim | skip
  · obtain ⟨a, vs, rfl, z1, z2, z3⟩ := q1.tup R e1
    exact ⟨a, vs, rfl, .inr ⟨z1, k (.val (.tup _)) _ _ _ R (.refl R) (show Rp _ _ _ _ _ from z3) h⟩⟩
  · obtain ⟨a, vs, rfl, z1, z2⟩ := q1.lst R e1
    exact ⟨a, vs, rfl, .inl ⟨z1, fun p ob hp hob => k (.val (.tup _)) _ _ _ (R.ext (ext_new hp)) (.ext (ext_new hp)) (rp_newT R hob hp z2) h⟩⟩
def D.blsOf : List D → Option (List Bool)
  | [] => some []
  | .bl b :: ds => (D.blsOf ds).map (b :: ·)
  | _ => none
theorem blsOf_out : ∀ {ds : List D} {bs : List Bool}, D.blsOf ds = some bs → ds = bs.map D.bl
  | [], _, h => by simp [D.blsOf] at h; subst h; rfl
  | .bl b :: ds, _, h => by
    cases e : D.blsOf ds with
    | none => simp [D.blsOf, e] at h
    | some bs =>
      simp [D.blsOf, e] at h
      subst h
      rw [blsOf_out e]; rfl
  | .non :: _, _, h => by simp [D.blsOf] at h
  | .int _ :: _, _, h => by simp [D.blsOf] at h
  | .str _ :: _, _, h => by simp [D.blsOf] at h
  | .tup _ :: _, _, h => by simp [D.blsOf] at h
  | .lst _ :: _, _, h => by simp [D.blsOf] at h
  | .dic _ :: _, _, h => by simp [D.blsOf] at h
  | .dit _ :: _, _, h => by simp [D.blsOf] at h
  | .obj _ _ :: _, _, h => by simp [D.blsOf] at h
  | .ty _ :: _, _, h => by simp [D.blsOf] at h
  | .cls _ :: _, _, h => by simp [D.blsOf] at h
  | .scr _ :: _, _, h => by simp [D.blsOf] at h
  | .bx _ _ :: _, _, h => by simp [D.blsOf] at h
  | .din _ _ :: _, _, h => by simp [D.blsOf] at h
  | .exc _ _ _ _ :: _, _, h => by simp [D.blsOf] at h
  | .dik _ :: _, _, h => by simp [D.blsOf] at h
theorem blsOf_map (bs : List Bool) : D.blsOf (bs.map D.bl) = some bs := by
  induction bs with
  | nil => rfl
  | cons b bs ih => simp [D.blsOf, ih]
def cAll (rs : List Rs) (ρ : En) (Q : Rs → En → Prop) : Prop := w1 rs ρ fun d => match d with
  | .lst ds => wo (D.blsOf ds) fun bs => Q (.val (.bl (bs.all id))) ρ
  | _ => False
theorem simAll : SimCR K (rAll K) cAll := by
  intro F U ρ σ H vs rs Q3 Q2 e R q h k
  obtain ⟨x, v, d, rfl, rfl, q1, e1, h⟩ := w1_out q h
  subst e
  cases d <;> first | exact h.elim | skip
  obtain ⟨bs, eb, h⟩ := wo_out h
  obtain ⟨a, vs, rfl, z1, z2⟩ := q1.lst R e1
  rw [blsOf_out eb] at z2
  rw [z2.bls] at z1
  exact ⟨a, bs, rfl, z1, k (.val (.bl _)) _ _ _ R (.refl R) (show Rp _ _ _ _ _ from rp_bl) h⟩
/-- isinstance with a built-in class -/
def D.tyn : D → Option String
  | .non => some "NoneType"
  | .bl _ => some "bool"
  | .int _ => some "int"
  | .str _ => some "str"
  | .tup _ => some "tuple"
  | .lst _ => some "list"
  | .dic _ => some "dict"
  | _ => none
def isiT (t T : String) : Bool := t == T || (t == "bool" && T == "int")
def isiKnown (t T : String) : Bool := (["NoneType", "bool", "int", "str", "tuple", "list", "dict"].contains t) && (["bool", "int", "str", "tuple", "list", "dict"].contains T)
theorem isi_kit {t T : String} (h : isiKnown t T = true) : PySem.W.kitOne K (.type t) (.type T) = some (isiT t T) := by
  simp only [isiKnown, Bool.and_eq_true, List.contains_eq_mem, List.mem_cons, List.not_mem_nil, or_false, decide_eq_true_eq] at h
  obtain ⟨h1, h2⟩ := h
  rcases h1 with rfl | rfl | rfl | rfl | rfl | rfl | rfl <;> rcases h2 with rfl | rfl | rfl | rfl | rfl | rfl <;> exact kit_ty (by decide +kernel)
theorem TyX_of (R : Rel F U ρ σ H) {r : Rs} {v : V} {d : D} {t : String} (h : RV F U σ H r v) (e : r.dat ρ = some d) (ht : d.tyn = some t) : TyX F.K H v (.type t) := by
  have rdl : ∀ {a vs}, SqL F.K H a vs → TyX F.K H (.ref a) (.type "list") := fun {a vs} z => by
    rcases z with (z | ⟨o, z⟩) | ⟨o, its, n, z, c, _⟩
    · exact .base (.lst z)
    · exact .base (.frz z)
    · exact .kList z c
  cases d <;> simp only [D.tyn, Option.some.injEq, reduceCtorEq] at ht
  all_goals subst ht
  · rw [h.non R e]; exact .base .non
  · rw [h.bl R e]; exact .base (.bl _)
  · rw [h.int R e]; exact .base (.int _)
  · rw [h.str R e]; exact .base (.str _)
  · obtain ⟨a, vs, rfl, z, _⟩ := h.tup R e
    rcases z with (z | ⟨o, z⟩) | ⟨o, its, n, z, c, _⟩
    · exact .base (.tup z)
    · exact .fTuple z
    · exact .kTuple z c
  · obtain ⟨a, vs, rfl, z, _⟩ := h.lst R e
    exact rdl z
  · rcases h.get R e with q | ⟨a, rfl, vs, z, _⟩
    · simp only [Rp] at q
      obtain ⟨a, vs, rfl, z, _⟩ := q
      rcases z with z | ⟨o, z⟩
      · exact .base (.dK z)
      · exact .fDict z
    · rcases z with z | ⟨o, z⟩
      · exact .base (.dK z)
      · exact .fDict z
def cIsi (rs : List Rs) (ρ : En) (Q : Rs → En → Prop) : Prop := match rs with
  | [x, .val (.ty T)] => wd x ρ fun d => wo d.tyn fun t => isiKnown t T = true ∧ Q (.val (.bl (isiT t T))) ρ
  | _ => False
theorem simIsi : SimCR K (rIsi K) cIsi := by
  intro F U ρ σ H vs rs Q3 Q2 e R q h k
  subst e
  unfold cIsi at h
  split at h
  · rename_i x T
    cases q with
    | cons q1 qs =>
      cases qs with
      | cons q2 qs =>
        cases qs
        obtain ⟨d, e1, h⟩ := wd_out h
        obtain ⟨t, e2, h⟩ := wo_out h
        have q2 : Rp F.K H U (.ty T) _ := q2
        simp only [Rp] at q2
        subst q2
        exact ⟨_, _, .type t, .type T, isiT t T, rfl, .ty T, TyX_of R q1 e1 e2, isi_kit h.1, k (.val (.bl _)) _ _ _ R (.refl R) (show Rp _ _ _ _ _ from rp_bl) h.2⟩
  · exact h.elim
end
end L3

set_option Elab.async false
set_option linter.all false
set_option maxRecDepth 100000
namespace L3
open PySem L2
open PyProof.Rows (b2i)

def Fr.at (F : Fr) (U : US) (ρ : En) (σ : St) (H : Hp) : Fr := ⟨F.K, H, U, Own ρ σ, σ, fun i l => ∃ s : Sl, ρ[i]? = some s ∧ s.lk = some l⟩
section
variable {F : Fr} {U U2 : US} {ρ ρ' ρ2 : En} {σ σ2 : St} {H H' H2 : Hp} {K : PySem.W.Frag}
theorem Rel.b0' (R : Rel F U ρ σ H) {j : Nat} {d : D} (h : ∃ s : Sl, ρ[j]? = some s ∧ s.lk = some (some d)) : (∃ v, σ[j]? = some (some v) ∧ Rp F.K H U d v) ∨ (∃ (a : Addr), σ[j]? = some (some (.ref a)) ∧ ∀ x, d.reg a x → ∃ o, H x = some o) := by
  obtain ⟨s, h1, h2⟩ := h
  have hj : j < σ.length := by rw [← R.len]; exact (List.getElem?_eq_some_iff.mp h1).1
  have hσ : σ[j]? = some σ[j] := List.getElem?_eq_getElem hj
  cases s <;> first | cases h2 | skip
  rcases R.bor j d _ h1 hσ with ⟨v, e, r⟩ | ⟨a, e, t, _⟩
  · exact .inl ⟨v, by rw [hσ, e], r⟩
  · exact .inr ⟨a, by rw [hσ, e], t.some⟩
theorem Rel.start (R : Rel F U ρ σ H) : Rel (F.at U ρ σ H) U ρ σ H :=
  ⟨R.len, R.slot, R.bor, R.inj, R.tr, fun _ _ h _ => h, fun _ o h => ⟨o, h⟩, fun _ _ _ n => n, fun _ h _ => h, fun _ h => .inl h, fun i s l h q => ⟨⟨s, h, q⟩, rfl⟩, fun _ h => R.ownU h, fun j d h => R.b0' h, R.tr⟩
theorem Rel.unbase (R : Rel F U ρ σ H) (R2 : Rel (F.at U ρ σ H) U2 ρ2 σ2 H2) : Rel F U2 ρ2 σ2 H2 := by
  refine ⟨R2.len, R2.slot, R2.bor, R2.inj, R2.tr, fun a o h n => ?_, fun a o h => ?_, fun a o h n => ?_, fun a h n => R2.up a (R.up a h n) fun w => n (R.own0 w h), fun a h => ?_, fun i s l h q => ?_, R.wu, R.b0, R.u0⟩
  · refine R2.keep a o (R.keep a o h n) fun w => ?_
    rcases R.new a w with z | z
    · exact n z
    · rw [z] at h; cases h
  · obtain ⟨o', h'⟩ := R.ktr a o h
    exact R2.ktr a o' h'
  · obtain ⟨o', h'⟩ := R.ktr a o h
    exact R2.shar a o' h' (R.shar a o h n)
  · rcases R2.new a h with z | z
    · exact R.new a z
    · refine .inr ?_
      cases e : F.H0 a with
      | none => rfl
      | some o =>
        obtain ⟨o', h'⟩ := R.ktr a o e
        have z : H a = none := z
        rw [z] at h'; cases h'
  · obtain ⟨⟨s', h', l'⟩, e⟩ := R2.lock i s l h q
    obtain ⟨z1, z2⟩ := R.lock i s' l h' l'
    exact ⟨z1, e.trans z2⟩

/-! ### what a loop holds while it walks: a lent slot -/
def lockI (ρ : En) (i : Nat) : En := match ρ[i]? with
  | some (.own d) => ρ.set i (.brw d)
  | some (.par d) => ρ.set i (.brw d)
  | some (.owb d) => ρ.set i (.brw d)
  | some (.pab d) => ρ.set i (.brw d)
  | _ => ρ
def lockE (ρ : En) : Rs → En
  | .val _ => ρ
  | .sl i => lockI ρ i
  | .bx i _ _ => lockI ρ i
def unlockI (ρ0 : En) (i : Nat) (ρ : En) : En := match ρ0[i]? with
  | some (.own d) => ρ.set i (.own d)
  | some (.par d) => ρ.set i (.par d)
  | some (.owb d) => ρ.set i (.owb d)
  | some (.pab d) => ρ.set i (.pab d)
  | _ => ρ
def unlockE (ρ0 : En) (r : Rs) (ρ : En) : En := match r with
  | .val _ => ρ
  | .sl i => unlockI ρ0 i ρ
  | .bx i _ _ => unlockI ρ0 i ρ
def isB (ρ : En) (i : Nat) : Prop := match ρ[i]? with
  | some (.brw _) => True
  | _ => False
def okI (ρ0 : En) (i : Nat) (ρ : En) : Prop := match ρ0[i]? with
  | some s => match s.isW with
    | true => isB ρ i
    | false => True
  | none => True
def okL (ρ0 : En) (r : Rs) (ρ : En) : Prop := match r with
  | .val _ => True
  | .sl i => okI ρ0 i ρ
  | .bx i _ _ => okI ρ0 i ρ
theorem reg_dat {s : Sl} {d : D} {a x : Addr} (w : s.isW = true) (hd : s.dat = some d) (h : s.reg (some (.ref a)) x) : d.reg a x := by
  rcases h.2 with h | h
  · cases h; exact .inl rfl
  · cases s <;> first | (cases h; done) | (cases hd; exact .inr h)
theorem topR_of {K : PySem.W.Frag} {s : Sl} {d : D} {a : Addr} (w : s.isW = true) (hd : s.dat = some d) (q : SlotOk K H U s (some (.ref a))) : TopR K H U d a := by
  cases s with
  | own d' => cases hd; obtain ⟨b, e, _, t⟩ := q; cases e; exact t.r
  | par d' => cases hd; obtain ⟨b, e, _, t⟩ := q; cases e; exact t.r
  | owb d' => cases hd; obtain ⟨b, e, _, t⟩ := q; cases e; exact t.r
  | pab d' => cases hd; obtain ⟨b, e, _, t⟩ := q; cases e; exact t.r
  | _ => cases w
theorem dat_reg {K : PySem.W.Frag} {s : Sl} {d : D} {a x : Addr} (w : s.isW = true) (hd : s.dat = some d) (q : SlotOk K H U s (some (.ref a))) (h : d.reg a x) : s.reg (some (.ref a)) x := by
  refine ⟨w, ?_⟩
  rcases h with e | h
  · exact .inl (by rw [e])
  · cases s with
    | own d' => cases hd; obtain ⟨b, e, _, t⟩ := q; rw [t.nob] at h; cases h
    | par d' => cases hd; obtain ⟨b, e, _, t⟩ := q; rw [t.nob] at h; cases h
    | owb d' => cases hd; exact .inr h
    | pab d' => cases hd; exact .inr h
    | _ => cases w
theorem startB (R : Rel F U ρ σ H) {i : Nat} {s : Sl} {d : D} {a : Addr} (h1 : ρ[i]? = some s) (h2 : s.isW = true) (hd : s.dat = some d) (h3 : σ[i]? = some (some (.ref a))) :
    Rel (F.at U (ρ.set i (.brw d)) σ H) U (ρ.set i (.brw d)) σ H := by
  have q := R.slot i s _ h1 h3
  have t := topR_of h2 hd q
  have own' : ∀ x, Own (ρ.set i (.brw d)) σ x → Own ρ σ x ∧ ¬ s.reg (some (.ref a)) x := fun x ⟨j, t, o, q1, q2, q3⟩ => by
    rcases set_get q1 with ⟨e, rfl, _⟩ | ⟨ne, q1⟩
    · exact absurd q3 (reg_noW rfl)
    · exact ⟨⟨j, t, o, q1, q2, q3⟩, fun e => ne (R.inj i j s _ _ _ x h1 q1 h3 q2 e q3)⟩
  refine ⟨by rw [List.length_set]; exact R.len, fun j t o q1 q2 => ?_, fun j e o q1 q2 => ?_, fun j k t u o o2 b q1 q2 q3 q4 q5 q6 => ?_, R.tr, fun _ _ h _ => h, fun _ o h => ⟨o, h⟩, fun _ _ _ n => n, fun _ h _ => h, fun _ h => .inl h, fun i s l h q => ⟨⟨s, h, q⟩, rfl⟩, fun x h => R.ownU (own' x h).1, fun j e h => ?_, R.tr⟩
  · rcases set_get q1 with ⟨e, rfl, _⟩ | ⟨ne, q1⟩
    · trivial
    · exact R.slot j t o q1 q2
  · rcases set_get q1 with ⟨e1, e2, _⟩ | ⟨ne, q1⟩
    · cases e2
      subst e1
      rw [h3] at q2; cases q2
      exact .inr ⟨a, rfl, t, fun x hx z => (own' x z).2 (dat_reg h2 hd q hx)⟩
    · rcases R.bor j e o q1 q2 with z | ⟨b, e1, q, n⟩
      · exact .inl z
      · exact .inr ⟨b, e1, q, fun x hx z => n x hx (own' x z).1⟩
  · rcases set_get q1 with ⟨e, rfl, _⟩ | ⟨ne, q1⟩
    · exact absurd q5 (reg_noW rfl)
    · rcases set_get q2 with ⟨e, rfl, _⟩ | ⟨ne2, q2⟩
      · exact absurd q6 (reg_noW rfl)
      · exact R.inj j k t u o o2 b q1 q2 q3 q4 q5 q6
  · obtain ⟨sj, q1, q2⟩ := h
    rcases set_get q1 with ⟨e1, e2, _⟩ | ⟨ne, q1⟩
    · subst e1; subst e2; cases q2
      exact .inr ⟨a, h3, t.some⟩
    · exact R.b0' ⟨sj, q1, q2⟩
theorem unB (R : Rel F U ρ σ H) {i : Nat} {s : Sl} {d : D} {a : Addr} (h1 : ρ[i]? = some s) (h2 : s.isW = true) (hd : s.dat = some d) (h3 : σ[i]? = some (some (.ref a)))
    (R2 : Rel (F.at U (ρ.set i (.brw d)) σ H) U2 ρ2 σ2 H2) {d' : D} (h4 : ρ2[i]? = some (.brw d')) : Rel F U2 (ρ2.set i s) σ2 H2 := by
  have hi : i < ρ2.length := (List.getElem?_eq_some_iff.mp h4).1
  have q := R.slot i s _ h1 h3
  have nW : ∀ x, s.reg (some (.ref a)) x → ¬ Own (ρ.set i (.brw d)) σ x := fun x hx ⟨j, t, o, q1, q2, q3⟩ => by
    rcases set_get q1 with ⟨e, rfl, _⟩ | ⟨ne, q1⟩
    · exact absurd q3 (reg_noW rfl)
    · exact ne (R.inj i j s _ _ _ x h1 q1 h3 q2 hx q3)
  have hu : ∀ x, s.reg (some (.ref a)) x → U x := fun x hx => q.regU hx
  obtain ⟨⟨s', hs', ls'⟩, el⟩ := R2.lock i _ _ h4 rfl
  have e3 : σ2[i]? = some (some (.ref a)) := el.trans h3
  have kp : ∀ x, s.reg (some (.ref a)) x → ∀ o, H x = some o → H2 x = some o := fun x hx o h => R2.keep x o h (nW x hx)
  have nO : ∀ x, s.reg (some (.ref a)) x → ¬ Own ρ2 σ2 x := fun x hx z => by
    rcases R2.new x z with w | w
    · exact nW x hx w
    · obtain ⟨o, h⟩ := R.tr x (hu x hx)
      have w : H x = none := w
      rw [w] at h; cases h
  have own' : ∀ x, Own (ρ2.set i s) σ2 x → Own ρ2 σ2 x ∨ s.reg (some (.ref a)) x := fun x ⟨j, t, o, q1, q2, q3⟩ => by
    rcases set_get q1 with ⟨e, rfl, _⟩ | ⟨ne, q1⟩
    · subst e; rw [e3] at q2; cases q2; exact .inr q3
    · exact .inl ⟨j, t, o, q1, q2, q3⟩
  have oldOwn : ∀ {x j t o}, i ≠ j → ρ[j]? = some t → σ[j]? = some o → t.reg o x → Own ρ σ x := fun {x j t o} _ q1 q2 q3 => ⟨j, t, o, q1, q2, q3⟩
  have wOwn : ∀ x, Own (ρ.set i (.brw d)) σ x → Own ρ σ x := fun x ⟨j, t, o, q1, q2, q3⟩ => by
    rcases set_get q1 with ⟨e, rfl, _⟩ | ⟨ne, q1⟩
    · exact absurd q3 (reg_noW rfl)
    · exact ⟨j, t, o, q1, q2, q3⟩
  have oN : ∀ x, Own ρ2 σ2 x → F.W0 x ∨ F.H0 x = none := fun x z => by
    rcases R2.new x z with w | w
    · exact R.new x (wOwn x w)
    · refine .inr ?_
      cases e : F.H0 x with
      | none => rfl
      | some o =>
        obtain ⟨o', h'⟩ := R.ktr x o e
        have w : H x = none := w
        rw [w] at h'; cases h'
  refine ⟨by rw [List.length_set]; exact R2.len, fun j t o q1 q2 => ?_, fun j e o q1 q2 => ?_, fun j k t u o o2 b q1 q2 q3 q4 q5 q6 => ?_, R2.tr, fun b o h n => ?_, fun b o h => ?_, fun b o h n => ?_, fun b h n => R2.up b (R.up b h n) fun w => n (R.own0 (wOwn b w) h), fun x q => ?_, fun j t l q1 q2 => ?_, R.wu, R.b0, R.u0⟩
  · rcases set_get q1 with ⟨e, e2, _⟩ | ⟨ne, q1⟩
    · subst e; subst e2
      rw [e3] at q2; cases q2
      exact q.pres R2.pres0 fun x hx u => ⟨R2.up x u (nW x hx), kp x hx⟩
    · exact R2.slot j t o q1 q2
  · rcases set_get q1 with ⟨e1, e2, _⟩ | ⟨ne, q1⟩
    · rw [← e2] at h2; cases h2
    · rcases R2.bor j e o q1 q2 with z | ⟨b, e1, q', n⟩
      · exact .inl z
      · by_cases eb : ∃ x, e.reg b x ∧ s.reg (some (.ref a)) x
        · subst e1
          obtain ⟨⟨sj, hsj, lsj⟩, ej⟩ := R2.lock j _ _ q1 rfl
          have ej : σ2[j]? = σ[j]? := ej
          rw [List.getElem?_set_ne ne] at hsj
          have q2' : σ[j]? = some (some (.ref b)) := ej.symm.trans q2
          cases sj with
          | brw dj =>
            cases lsj
            rcases R.bor j e _ hsj q2' with ⟨v, ev, rv⟩ | ⟨c, ec, _, nc⟩
            · cases ev
              exact .inl ⟨_, rfl, Rp.pres R2.pres0 e _ rv⟩
            · cases ec
              obtain ⟨x, hx1, hx2⟩ := eb
              exact absurd ⟨i, s, _, h1, h3, hx2⟩ (nc x hx1)
          | _ => cases lsj
        · exact .inr ⟨b, e1, q', fun x hx z => (own' x z).elim (n x hx) fun w => eb ⟨x, hx, w⟩⟩
  · rcases set_get q1 with ⟨e, e2, _⟩ | ⟨ne, q1'⟩
    · rcases set_get q2 with ⟨e', e2', _⟩ | ⟨ne2, q2'⟩
      · omega
      · subst e
        rw [e3] at q3; cases q3
        subst e2
        exact absurd ⟨k, u, o2, q2', q4, q6⟩ (nO b q5)
    · rcases set_get q2 with ⟨e', e2', _⟩ | ⟨ne2, q2'⟩
      · subst e'
        rw [e3] at q4; cases q4
        subst e2'
        exact absurd ⟨j, t, o, q1', q3, q5⟩ (nO b q6)
      · exact R2.inj j k t u o o2 b q1' q2' q3 q4 q5 q6
  · exact R2.keep b o (R.keep b o h n) fun w => by
      rcases R.new b (wOwn b w) with z | z
      · exact n z
      · rw [z] at h; cases h
  · obtain ⟨o', h'⟩ := R.ktr b o h
    exact R2.ktr b o' h'
  · obtain ⟨o', h'⟩ := R.ktr b o h
    exact R2.shar b o' h' (R.shar b o h n)
  · rcases own' x q with z | z
    · exact oN x z
    · exact R.new x ⟨i, s, _, h1, h3, z⟩
  · rcases set_get q1 with ⟨e, e2, _⟩ | ⟨ne, q1⟩
    · subst e; subst e2
      obtain ⟨z1, z2⟩ := R.lock i t l h1 q2
      exact ⟨z1, e3.trans (h3.symm.trans z2)⟩
    · obtain ⟨⟨s', h', l'⟩, e⟩ := R2.lock j t l q1 q2
      rw [List.getElem?_set_ne ne] at h'
      obtain ⟨z1, z2⟩ := R.lock j s' l h' l'
      exact ⟨z1, e.trans z2⟩
theorem lockI_w {ρ : En} {i : Nat} {s : Sl} {d : D} (h : ρ[i]? = some s) (w : s.isW = true) (hd : s.dat = some d) : lockI ρ i = ρ.set i (.brw d) := by
  cases s <;> first | (cases w; done) | (cases hd; simp [lockI, h])
theorem lockI_no {ρ : En} {i : Nat} (h : ∀ s, ρ[i]? = some s → s.isW = false) : lockI ρ i = ρ := by
  unfold lockI
  cases e : ρ[i]? with
  | none => simp
  | some s => have := h s e; cases s <;> first | (cases this; done) | simp
theorem unlockI_w {ρ ρ2 : En} {i : Nat} {s : Sl} (h : ρ[i]? = some s) (w : s.isW = true) : unlockI ρ i ρ2 = ρ2.set i s := by
  cases s <;> first | (cases w; done) | simp [unlockI, h]
theorem unlockI_no {ρ ρ2 : En} {i : Nat} (h : ∀ s, ρ[i]? = some s → s.isW = false) : unlockI ρ i ρ2 = ρ2 := by
  unfold unlockI
  cases e : ρ[i]? with
  | none => simp
  | some s => have := h s e; cases s <;> first | (cases this; done) | simp
/-- a slot is written or not -/
theorem Rel.wOr (R : Rel F U ρ σ H) (i : Nat) : (∀ s, ρ[i]? = some s → s.isW = false) ∨ ∃ s d a, ρ[i]? = some s ∧ s.isW = true ∧ s.dat = some d ∧ σ[i]? = some (some (.ref a)) := by
  cases h : ρ[i]? with
  | none => exact .inl fun s e => nomatch e
  | some s =>
    cases w : s.isW with
    | false => exact .inl fun s' e => by cases e; exact w
    | true =>
      have hi : i < σ.length := by rw [← R.len]; exact (List.getElem?_eq_some_iff.mp h).1
      have hσ : σ[i]? = some σ[i] := List.getElem?_eq_getElem hi
      obtain ⟨a, e, _⟩ := (R.slot i s _ h hσ).ref w
      obtain ⟨d, hd⟩ : ∃ d, s.dat = some d := by cases s <;> first | (cases w; done) | exact ⟨_, rfl⟩
      exact .inr ⟨s, d, a, rfl, w, hd, hσ.trans (by rw [e])⟩
theorem loopInI (R : Rel F U ρ σ H) (i : Nat) : Rel (F.at U (lockI ρ i) σ H) U (lockI ρ i) σ H := by
  rcases R.wOr i with h | ⟨s, d, a, h1, w, hd, h3⟩
  · rw [lockI_no h]; exact R.start
  · rw [lockI_w h1 w hd]; exact startB R h1 w hd h3
theorem loopOutI (R : Rel F U ρ σ H) (i : Nat) (R2 : Rel (F.at U (lockI ρ i) σ H) U2 ρ2 σ2 H2) (ok : okI ρ i ρ2) : Rel F U2 (unlockI ρ i ρ2) σ2 H2 := by
  rcases R.wOr i with h | ⟨s, d, a, h1, w, hd, h3⟩
  · rw [lockI_no h] at R2; rw [unlockI_no h]; exact R.unbase R2
  · rw [lockI_w h1 w hd] at R2
    rw [unlockI_w h1 w]
    have ok : isB ρ2 i := by
      unfold okI at ok
      rw [h1] at ok
      have ok : (match s.isW with | true => isB ρ2 i | false => True) := ok
      rwa [w] at ok
    unfold isB at ok
    cases h4 : ρ2[i]? with
    | none => rw [h4] at ok; exact ok.elim
    | some t =>
      rw [h4] at ok
      cases t <;> first | exact ok.elim | exact unB R h1 w hd h3 R2 h4
/-- a loop begins: the frame that it sees -/
theorem loopIn (R : Rel F U ρ σ H) (r : Rs) : Rel (F.at U (lockE ρ r) σ H) U (lockE ρ r) σ H := by
  cases r with
  | val d => exact R.start
  | sl i => exact loopInI R i
  | bx i f b => exact loopInI R i
theorem loopOut (R : Rel F U ρ σ H) (r : Rs) (R2 : Rel (F.at U (lockE ρ r) σ H) U2 ρ2 σ2 H2) (ok : okL ρ r ρ2) : Rel F U2 (unlockE ρ r ρ2) σ2 H2 := by
  cases r with
  | val d => exact R.unbase R2
  | sl i => exact loopOutI R i R2 ok
  | bx i f b => exact loopOutI R i R2 ok
end
end L3

set_option Elab.async false
set_option linter.all false
set_option maxRecDepth 100000
namespace L3
open PySem L2
open PyProof.Rows (b2i)

/-! ### statements -/
structure E3 where
  nx : En → Prop
  rt : D → En → Prop
  ro : D → En → Prop
  bk : En → Prop := fun _ => False
  ct : En → Prop := fun _ => False
abbrev T3S := E3 → En → Prop
structure KS (F : Fr) (D3 : E3) (D2 : Ends) : Prop where
  nx : ∀ U ρ σ H, Rel F U ρ σ H → D3.nx ρ → D2.nx σ H
  bk : ∀ U ρ σ H, Rel F U ρ σ H → D3.bk ρ → D2.bk σ H
  ct : ∀ U ρ σ H, Rel F U ρ σ H → D3.ct ρ → D2.ct σ H
  rt : ∀ U ρ σ H d v, Rel F U ρ σ H → Rp F.K H U d v → D3.rt d ρ → D2.rt v H
  ro : ∀ U ρ σ H d a (i : Nat), Rel F U ρ σ H → ρ[i]? = some (.own d) → σ[i]? = some (some (.ref a)) → D3.ro d ρ → D2.rt (.ref a) H
  rf : ∀ U ρ σ H d a, Rel F U ρ σ H → Fresh F U H d a → D3.ro d ρ → D2.rt (.ref a) H
def SimS (K : PySem.W.Frag) (t2 : TS) (t3 : T3S) : Prop :=
  ∀ (F : Fr) (U : US) (ρ : En) (σ : St) (H : Hp) (D3 : E3) (D2 : Ends), F.K = K → Rel F U ρ σ H → t3 D3 ρ → KS F D3 D2 → t2 D2 σ H
/-- a fresh result -/
def SimEO (K : PySem.W.Frag) (t2 : TE) (t3 : En → (D → En → Prop) → Prop) : Prop :=
  ∀ (F : Fr) (U : US) (ρ : En) (σ : St) (H : Hp) (Q3 : D → En → Prop) (Q2 : VK), F.K = K → Rel F U ρ σ H → t3 ρ Q3 →
    (∀ d a ρ' H', Rel F (fun b => U b ∨ b = a) ρ' σ H' → Stp ρ σ H ρ' H' → H a = none → TopW F.K H' (fun b => U b ∨ b = a) d a → Q3 d ρ' → Q2 (.ref a) H') → t2 σ H Q2

section
variable {F : Fr} {U U2 : US} {ρ ρ' ρ2 : En} {σ σ2 : St} {H H' H2 : Hp} {K : PySem.W.Frag}
def sNext : T3S := fun D ρ => D.nx ρ
def sSeq (f g : T3S) : T3S := fun D ρ => f { D with nx := g D } ρ
theorem simNext : SimS K tNext sNext := fun F U ρ σ H D3 D2 e R q k => k.nx U ρ σ H R q
theorem simSeq {t u : TS} {f g : T3S} (h : SimS K t f) (h' : SimS K u g) : SimS K (tSeq t u) (sSeq f g) := fun F U ρ σ H D3 D2 e R q k =>
  h F U ρ σ H { D3 with nx := g D3 } { D2 with nx := u D2 } e R q ⟨fun U ρ σ H R q => h' F U ρ σ H D3 D2 e R q k, k.bk, k.ct, k.rt, k.ro, k.rf⟩
def sBreak : T3S := fun D ρ => D.bk ρ
def sCont : T3S := fun D ρ => D.ct ρ
theorem simBreak : SimS K tBreak sBreak := fun F U ρ σ H D3 D2 e R q k => k.bk U ρ σ H R q
theorem simCont : SimS K tCont sCont := fun F U ρ σ H D3 D2 e R q k => k.ct U ρ σ H R q
def sNever : T3S := fun _ _ => False
theorem simNever : SimS K tNever sNever := fun F U ρ σ H D3 D2 e R q k => q.elim
def sDrop (f : T3E) : T3S := fun D ρ => f ρ fun _ ρ1 => D.nx ρ1
theorem simDrop {t : TE} {f : T3E} (h : SimE K t f) : SimS K (tDrop t) (sDrop f) := fun F U ρ σ H D3 D2 e R q k =>
  h F U ρ σ H _ _ e R q fun r v ρ1 H1 R1 s1 q1 h1 => k.nx U ρ1 σ H1 R1 h1
def sRet (f : T3E) : T3S := fun D ρ => f ρ fun r ρ1 => match r with
  | .val d => D.rt d ρ1
  | .bx _ _ _ => False
  | .sl i => match ρ1[i]? with
    | some (.own d) => D.ro d ρ1
    | _ => False
theorem simRet {t : TE} {f : T3E} (h : SimE K t f) : SimS K (tRet t) (sRet f) := fun F U ρ σ H D3 D2 e R q k =>
  h F U ρ σ H _ _ e R q fun r v ρ1 H1 R1 s1 q1 h1 => by
    cases r with
    | val d => exact k.rt U ρ1 σ H1 d v R1 q1 h1
    | bx i f b => exact h1.elim
    | sl i =>
      have h1 : (match ρ1[i]? with | some (.own d) => D3.ro d ρ1 | _ => False) := h1
      cases hs : ρ1[i]? with
      | none => rw [hs] at h1; exact h1.elim
      | some s =>
        rw [hs] at h1
        cases s with
        | own d =>
          have q1 : σ[i]? = some (some v) := q1
          obtain ⟨a, ea, _⟩ := R1.slot i _ _ hs q1
          cases ea
          exact k.ro U ρ1 σ H1 d a i R1 hs q1 h1
        | _ => exact h1.elim
def sRetO (f : En → (D → En → Prop) → Prop) : T3S := fun D ρ => f ρ fun d ρ1 => D.ro d ρ1
theorem up_new (R : Rel F U ρ σ H) {a : Addr} (h : H a = none) : F.H0 a = none := by
  cases e : F.H0 a with
  | none => rfl
  | some o =>
    obtain ⟨o', h'⟩ := R.ktr a o e
    rw [h] at h'; cases h'
theorem simRetO {t : TE} {f : En → (D → En → Prop) → Prop} (h : SimEO K t f) : SimS K (tRet t) (sRetO f) := fun F U ρ σ H D3 D2 e R q k =>
  h F U ρ σ H _ _ e R q fun d a ρ1 H1 R1 s1 hn t1 h1 => k.rf _ ρ1 σ H1 d a R1 ⟨t1, .inr rfl, up_new R hn⟩ h1
def sRetN : T3S := fun D ρ => D.rt .non ρ
theorem simRetN : SimS K tRetN sRetN := fun F U ρ σ H D3 D2 e R q k => k.rt U ρ σ H .non .non R rp_non q
def sIf (c : T3T) (f g : T3S) : T3S := fun D ρ => c ρ fun b ρ1 => if b = true then f D ρ1 else g D ρ1
theorem simIfS {c : TT} {t u : TS} {c3 : T3T} {f g : T3S} (hc : SimT K c c3) (h : SimS K t f) (h' : SimS K u g) : SimS K (tIfS c t u) (sIf c3 f g) := fun F U ρ σ H D3 D2 e R q k =>
  hc F U ρ σ H _ _ e R q fun b ρ1 H1 R1 s1 h1 => by
    cases b with
    | true => exact h F U ρ1 σ H1 D3 D2 e R1 h1 k
    | false => exact h' F U ρ1 σ H1 D3 D2 e R1 h1 k

/-! ### targets -/
def RpW (K : PySem.W.Frag) (H : Hp) (U : US) (wk : Bool) (d : D) (x : V) : Prop :=
  Rp K H U d x ∨ (wk = true ∧ ∃ T vs ds, x = .ref T ∧ d = .tup ds ∧ SqT K H T vs ∧ RpAll K H U ds vs)
abbrev T3G := D → En → (En → Prop) → Prop
def SimG (K : PySem.W.Frag) (wk : Bool) (g2 : TG) (g3 : T3G) (ix : List Nat) : Prop :=
  ∀ (F : Fr) (U : US) (ρ : En) (σ : St) (H : Hp) (x : D) (v : V) (Q3 : En → Prop) (Q2 : St → Hp → Prop), F.K = K → Rel F U ρ σ H → RpW F.K H U wk x v → g3 x ρ Q3 →
    (∀ ρ' σ', Rel F U ρ' σ' H → (∀ a, Own ρ' σ' a → Own ρ σ a) → (∀ vs : List Nat, (∀ i ∈ ix, i ∈ vs) → wipe σ' vs = wipe σ vs) → Q3 ρ' → Q2 σ' H) → g2 v σ H Q2
def SimGs (K : PySem.W.Frag) (g2 : TGs) (g3 : List D → En → (En → Prop) → Prop) (ix : List Nat) : Prop :=
  ∀ (F : Fr) (U : US) (ρ : En) (σ : St) (H : Hp) (xs : List D) (vs : List V) (Q3 : En → Prop) (Q2 : St → Hp → Prop), F.K = K → Rel F U ρ σ H → RpAll F.K H U xs vs → g3 xs ρ Q3 →
    (∀ ρ' σ', Rel F U ρ' σ' H → (∀ a, Own ρ' σ' a → Own ρ σ a) → (∀ vs : List Nat, (∀ i ∈ ix, i ∈ vs) → wipe σ' vs = wipe σ vs) → Q3 ρ' → Q2 σ' H) → g2 vs σ H Q2
theorem wipe_get (σ : St) : ∀ (vs : List Nat) (j : Nat), (wipe σ vs)[j]? = if j ∈ vs then (σ[j]?).map (fun _ => none) else σ[j]?
  | [], j => by simp [wipe]
  | v :: vs, j => by
    unfold wipe
    by_cases e : v = j
    · subst e
      by_cases hl : v < σ.length
      · rw [List.getElem?_set_self (by rw [wipe_length]; exact hl)]
        simp [List.getElem?_eq_getElem hl]
      · rw [List.getElem?_eq_none (by rw [List.length_set, wipe_length]; omega)]
        simp [List.getElem?_eq_none (Nat.le_of_not_lt hl)]
    · rw [List.getElem?_set_ne e, wipe_get σ vs j]
      have : (j ∈ v :: vs) = (j ∈ vs) := by simp [Ne.symm e]
      simp only [this]
theorem wipe_set {σ : St} {i : Nat} {x : Option V} {vs : List Nat} (h : i ∈ vs) : wipe (σ.set i x) vs = wipe σ vs := by
  apply List.ext_getElem?
  intro j
  rw [wipe_get, wipe_get]
  by_cases e : i = j
  · subst e
    rw [if_pos h, if_pos h]
    by_cases hl : i < σ.length
    · rw [List.getElem?_set_self hl, List.getElem?_eq_getElem hl]; rfl
    · rw [List.getElem?_eq_none (by rw [List.length_set]; omega), List.getElem?_eq_none (by omega)]
  · rw [List.getElem?_set_ne e]
def unl (ρ : En) (i : Nat) : Bool := match ρ[i]? with
  | some s => !s.locked
  | none => false
theorem unl_out {i : Nat} (h : unl ρ i = true) : ∃ s, ρ[i]? = some s ∧ s.locked = false := by
  unfold unl at h
  cases e : ρ[i]? with
  | none => rw [e] at h; cases h
  | some s => rw [e] at h; exact ⟨s, rfl, by simpa using h⟩
def gN (i : Nat) : T3G := fun d ρ Q => unl ρ i = true ∧ Q (ρ.set i (.shr d))
theorem Own_setNo {i : Nat} {s' : Sl} {v : Option V} {a : Addr} (w : s'.isW = false) (h : Own (ρ.set i s') (σ.set i v) a) : Own ρ σ a := by
  obtain ⟨j, t, o, q1, q2, q3⟩ := h
  rcases set_get q1 with ⟨e, rfl, _⟩ | ⟨ne, q1⟩
  · exact absurd q3 (reg_noW w)
  · rw [List.getElem?_set_ne ne] at q2
    exact ⟨j, t, o, q1, q2, q3⟩
theorem Own_setShr {i : Nat} {d : D} {v : Option V} {a : Addr} (h : Own (ρ.set i (.shr d)) (σ.set i v) a) : Own ρ σ a := Own_setNo rfl h
theorem simGN (i : Nat) : SimG K false (gName i) (gN i) [i] := by
  intro F U ρ σ H x v Q3 Q2 e R r q k
  have r : Rp F.K H U x v := r.elim id fun z => nomatch z.1
  obtain ⟨s, h1, h2⟩ := unl_out q.1
  exact k _ _ (R.setShr h1 h2 r) (fun a h => Own_setShr h) (fun vs h => wipe_set (h i (by simp))) q.2
theorem simGNil : SimGs K gNil (fun xs ρ Q => xs = [] ∧ Q ρ) [] := by
  intro F U ρ σ H xs vs Q3 Q2 e R r q k
  obtain ⟨rfl, q⟩ := q
  simp only [RpAll] at r
  exact ⟨r, k ρ σ R (fun _ h => h) (fun _ _ => rfl) q⟩
theorem simGCons {t : TG} {u : TGs} {f : T3G} {g : List D → En → (En → Prop) → Prop} {is js : List Nat} (h : SimG K false t f is) (h' : SimGs K u g js) :
    SimGs K (gCons t u) (fun xs ρ Q => match xs with | x :: r => f x ρ fun ρ1 => g r ρ1 Q | [] => False) (is ++ js) := by
  intro F U ρ σ H xs vs Q3 Q2 e R r q k
  cases xs with
  | nil => exact q.elim
  | cons x xs =>
    simp only [RpAll] at r
    obtain ⟨v, w, rfl, r1, r2⟩ := r
    refine ⟨v, w, rfl, h F U ρ σ H x v _ _ e R (.inl r1) q fun ρ1 σ1 R1 o1 w1 q1 => ?_⟩
    exact h' F U ρ1 σ1 H xs w _ _ e R1 r2 q1 fun ρ2 σ2 R2 o2 w2 q2 => k ρ2 σ2 R2 (fun a z => o1 a (o2 a z))
      (fun vs hv => (w2 vs fun i hi => hv i (List.mem_append_right _ hi)).trans (w1 vs fun i hi => hv i (List.mem_append_left _ hi))) q2
def gT (n : Nat) (g : List D → En → (En → Prop) → Prop) : T3G := fun d ρ Q => match d with
  | .tup ds => ds.length = n ∧ g ds ρ Q
  | _ => False
theorem simGT {wk : Bool} {n : Nat} {t : TGs} {g : List D → En → (En → Prop) → Prop} {is : List Nat} (h : SimGs K t g is) : SimG K wk (gTup K n t) (gT n g) is := by
  intro F U ρ σ H x v Q3 Q2 e R r q k
  subst e
  cases x <;> first | exact q.elim | skip
  rename_i ds
  obtain ⟨q1, q2⟩ := q
  have : ∃ a vs, v = .ref a ∧ SqT F.K H a vs ∧ RpAll F.K H U ds vs := by
    rcases r with r | ⟨_, T, vs, es, rfl, he, h1, h2⟩
    · simp only [Rp] at r
      obtain ⟨a, vs, rfl, h1, h2⟩ := r
      exact ⟨a, vs, rfl, h1.sq, h2⟩
    · cases he
      exact ⟨T, vs, rfl, h1, h2⟩
  obtain ⟨a, vs, rfl, h1, h2⟩ := this
  exact ⟨a, vs, rfl, h1, by rw [h2.len]; exact q1, h F U ρ σ H ds vs _ _ rfl R h2 q2 k⟩

/-! ### assignments -/
/-- to a target: a shared value; y = x of an owned x moves it -/
def sAsg (f : T3E) (g : T3G) : T3S := fun D ρ => f ρ fun r ρ1 => match r with
  | .val d => g d ρ1 D.nx
  | _ => False
theorem simAsg {t : TE} {f : T3E} {g : TG} {g3 : T3G} {is : List Nat} (h : SimE K t f) (hg : SimG K false g g3 is) : SimS K (tAsg t g) (sAsg f g3) := fun F U ρ σ H D3 D2 e R q k =>
  h F U ρ σ H _ _ e R q fun r v ρ1 H1 R1 s1 q1 h1 => by
    cases r with
    | sl i => exact h1.elim
    | bx _ _ _ => exact h1.elim
    | val d => exact hg F U ρ1 σ H1 d v _ _ e R1 (.inl q1) h1 fun ρ2 σ2 R2 _ _ q2 => k.nx U ρ2 σ2 H1 R2 q2
/-- a lent slot that shields an address which is new has shared data -/
theorem Rel.brwNew {U1 : US} {ρ1 : En} {H1 : Hp} (R1 : Rel F U1 ρ1 σ2 H1) (R : Rel F U ρ σ H) {a : Addr} (hn : H a = none) {j : Nat} {e : D} (q1 : ρ1[j]? = some (.brw e)) {b : Addr} (q2 : σ2[j]? = some (some (.ref b))) (hb : e.reg b a) : Rp F.K H1 U1 e (.ref b) := by
  rcases R1.bor j e _ q1 q2 with ⟨v, ev, r⟩ | ⟨b', eb, tb, nb⟩
  · cases ev; exact r
  · cases eb
    obtain ⟨l1, l2⟩ := R1.lock j _ _ q1 rfl
    rcases R.b0 j e l1 with ⟨v, ev, r⟩ | ⟨b', eb, ho⟩
    · rw [← l2, q2] at ev; cases ev
      exact Rp.pres R1.pres0 e _ r
    · rw [← l2, q2] at eb; cases eb
      exfalso
      obtain ⟨o, ho⟩ := ho a hb
      obtain ⟨o', h'⟩ := R.ktr a o ho
      rw [hn] at h'; cases h'
/-- x = a new object, x owned -/
def sAsgO (f : En → (D → En → Prop) → Prop) (i : Nat) : T3S := fun D ρ => f ρ fun d ρ1 => unl ρ1 i = true ∧ D.nx (ρ1.set i (.own d))
theorem simAsgO {t : TE} {f : En → (D → En → Prop) → Prop} (h : SimEO K t f) (i : Nat) : SimS K (tAsg t (gName i)) (sAsgO f i) := fun F U ρ σ H D3 D2 e R q k =>
  h F U ρ σ H _ _ e R q fun d a ρ1 H1 R1 s1 hn t1 h1 => by
    obtain ⟨s, z1, z2⟩ := unl_out h1.1
    have no : ¬ Own ρ1 σ a := fun z => by
      have := R.ownU (s1.own a z)
      obtain ⟨o, ho⟩ := R.tr a this
      rw [hn] at ho; cases ho
    refine k.nx _ _ _ H1 (R1.setOwn z1 z2 ⟨t1, .inr rfl, up_new R hn⟩ no fun j e' q1 b q2 hb => R1.brwNew R hn q1 q2 hb) h1.2
end
end L3

set_option Elab.async false
set_option linter.all false
set_option maxRecDepth 100000
namespace L3
open PySem PySem.Spec L2
open PyProof.Rows (b2i)

/-! ### what is walked -/
section
variable {X : Cx} {tg : Expr}
def iSeq (K : PySem.W.Frag) (tl : TE) : TI := fun σ H R => tl σ H fun x H1 => ∃ a, x = .ref a ∧ (((∃ xs, SqL K H1 a xs) ∧ R (Itl K a) H1) ∨ ((∃ xs, SqT K H1 a xs) ∧ R (Itt K a) H1))
theorem pi_seq {l : Expr} {tl : TE} (hl : PE X l tl) : PI X tg l (iSeq X.K tl) := by
  refine ⟨fun pins s σ H R I h => ?_⟩
  refine thn (hl.run pins s σ H _ I h) fun v s1 ⟨x, H1, I1, r1, q1⟩ => ?_
  obtain ⟨a, e, q1⟩ := q1
  subst e
  cases r1
  rcases q1 with ⟨⟨xs, hq⟩, q⟩ | ⟨⟨xs, hq⟩, q⟩
  · obtain ⟨its, rv, p, hz⟩ := I1.list hq
    refine wpAny_pyIter_list p.isList ?_
    refine ⟨s1.heap.objs.size, [s1.heap.objs.size], _, _, H1, rfl, I1.kept (t' := s1.toks) fun b o e => Heap.get?_push_of_some _ e, turn_list a _, ⟨_, Heap.get?_push_size _ rfl, rfl, rfl⟩, fun b hb => ?_, q⟩
    have e : b = s1.heap.objs.size := by simpa using hb
    subst e
    exact I1.fpOk (Nat.le_refl _) (I1.hok.fresh (Nat.le_refl _))
  · obtain ⟨its, rv, p, hz⟩ := I1.tuple hq
    refine wpAny_pyIter_tuple (show s1.heap.IsTuple a its.toArray from p) ?_
    refine ⟨s1.heap.objs.size, [s1.heap.objs.size], _, _, H1, rfl, I1.kept (t' := s1.toks) fun b o e => Heap.get?_push_of_some _ e, turn_tuple a _, ⟨_, Heap.get?_push_size _ rfl, rfl, rfl⟩, fun b hb => ?_, q⟩
    have e : b = s1.heap.objs.size := by simpa using hb
    subst e
    exact I1.fpOk (Nat.le_refl _) (I1.hok.fresh (Nat.le_refl _))
end

structure It3 where
  items : List D
  r : Rs
abbrev T3I := En → (It3 → En → Prop) → Prop
def JOk (K : PySem.W.Frag) (U : US) (H : Hp) (W : US) (wk : Bool) (J : It) (items : List D) : Prop :=
  ∀ (F2 : Fr) (U2 : US) (ρ2 : En) (σ2 : St) (H2 : Hp), F2.K = K → Rel F2 U2 ρ2 σ2 H2 → Pres H U H2 U2 → (∀ a o, H a = some o → ¬ W a → H2 a = some o) → ∀ i : Nat,
    (∀ d, items[i]? = some d → J.go i H2 ∧ ∀ x H3, J.yld i H2 x H3 → (∀ a o, H2 a = some o → H3 a = some o) ∧ RpW K H3 U2 wk d x) ∧ (items.length ≤ i → J.stop i H2)
def SimI (K : PySem.W.Frag) (wk : Bool) (w2 : TI) (w3 : T3I) : Prop :=
  ∀ (F : Fr) (U : US) (ρ : En) (σ : St) (H : Hp) (Q3 : It3 → En → Prop) (R2 : It → Hp → Prop), F.K = K → Rel F U ρ σ H → w3 ρ Q3 →
    (∀ J it ρ' H', Rel F U ρ' σ H' → Stp ρ σ H ρ' H' → JOk K U H' (Own (lockE ρ' it.r) σ) wk J it.items → Q3 it ρ' → R2 J H') → w2 σ H R2
section
variable {F : Fr} {U U2 : US} {ρ ρ' ρ2 : En} {σ σ2 : St} {H H' H2 : Hp} {K : PySem.W.Frag}
theorem Own_lockI {i : Nat} {a : Addr} (h : Own (lockI ρ i) σ a) : Own ρ σ a := by
  by_cases w : ∃ s, ρ[i]? = some s ∧ s.isW = true
  · obtain ⟨s, h1, w⟩ := w
    obtain ⟨d, hd⟩ : ∃ d, s.dat = some d := by cases s <;> first | (cases w; done) | exact ⟨_, rfl⟩
    rw [lockI_w h1 w hd] at h
    obtain ⟨j, t, o, q1, q2, q3⟩ := h
    rcases set_get q1 with ⟨_, rfl, _⟩ | ⟨_, q1⟩
    · exact absurd q3 (reg_noW rfl)
    · exact ⟨j, t, o, q1, q2, q3⟩
  · rw [lockI_no fun s e => Bool.eq_false_iff.mpr fun z => w ⟨s, e, z⟩] at h
    exact h
theorem Own_lockE (R : Rel F U ρ σ H) {r : Rs} {a : Addr} (h : Own (lockE ρ r) σ a) : Own ρ σ a := by
  cases r with
  | val d => exact h
  | sl i => exact Own_lockI h
  | bx i f b => exact Own_lockI h
theorem lock_off (R : Rel F U ρ σ H) {i : Nat} {s : Sl} {o : Option V} {x : Addr} (h1 : ρ[i]? = some s) (h2 : σ[i]? = some o) (hx : s.reg o x) : ¬ Own (lockI ρ i) σ x := fun z => by
  have w := hx.1
  obtain ⟨d, hd⟩ : ∃ d, s.dat = some d := by cases s <;> first | (cases w; done) | exact ⟨_, rfl⟩
  rw [lockI_w h1 w hd] at z
  obtain ⟨j, t, o', q1, q2, q3⟩ := z
  rcases set_get q1 with ⟨_, rfl, _⟩ | ⟨ne, q1⟩
  · exact absurd q3 (reg_noW rfl)
  · exact ne (R.inj i j s t _ _ _ h1 q1 h2 q2 hx q3)
theorem lookup_bxs : ∀ {fs : List (Str × D)} {f : Str} {b : Addr} {d : D}, fs.lookup f = some (.bx b d) → b ∈ bxsF fs
  | [], _, _, _, e => by cases e
  | (k, d') :: fs, f, b, d, e => by
    rw [List.lookup_cons] at e
    cases hk : (f == k) with
    | true => rw [hk] at e; cases e; exact List.mem_cons_self ..
    | false =>
      rw [hk] at e
      have := lookup_bxs e
      cases d' <;> first | exact this | exact List.mem_cons_of_mem _ this
/-- what a loop holds stands -/
theorem RV.held (R : Rel F U ρ σ H) {r : Rs} {v : V} {d : D} (h : RV F U σ H r v) (e : r.dat ρ = some d) : Rp F.K H U d v ∨ ∃ a, v = .ref a ∧ TopR F.K H U d a ∧ ¬ Own (lockE ρ r) σ a := by
  cases r with
  | val d' => cases e; exact .inl h
  | bx i f b =>
    rcases h.get R e with z | ⟨a, ea, t⟩
    · exact .inl z
    · refine .inr ⟨a, ea, t, ?_⟩
      have hv : v = .ref b := h
      rw [hv] at ea; cases ea
      have e : (match boxOf ρ i f with | some (b', d) => if b' = b then some d else none | none => none) = some d := e
      cases hb : boxOf ρ i f with
      | none => rw [hb] at e; cases e
      | some p =>
        obtain ⟨b', d'⟩ := p
        rw [hb] at e
        have e : (if b' = b then some d' else none) = some d := e
        by_cases z : b' = b
        · subst z
          obtain ⟨s, C, fs, h1, h2, h3⟩ := boxOf_out hb
          have hi : i < σ.length := by rw [← R.len]; exact (List.getElem?_eq_some_iff.mp h1).1
          have hσ : σ[i]? = some σ[i] := List.getElem?_eq_getElem hi
          cases w : isBrw ρ i with
          | false =>
            obtain ⟨s', C', fs', a, g1, g2, g3, g4, g5, g6, _⟩ := (R.box hb).2 w
            exact lock_off R g1 g6 ⟨g2, .inr (by cases s' <;> first | (cases g3; done) | (cases g2; done) | (cases g4; exact lookup_bxs g5))⟩
          | true =>
            intro z
            have z := Own_lockE R z
            cases s <;> first | (simp [isBrw, h1] at w; done) | skip
            cases h2
            rcases R.bor i _ _ h1 hσ with ⟨v, _, g⟩ | ⟨a, _, _, n⟩
            · simp only [Rp] at g
              obtain ⟨a, dx, gs, _, _, _, g⟩ := g
              exact (g.noBx h3).elim
            · exact n b' (.inr (lookup_bxs h3)) z
        · rw [if_neg z] at e; cases e
  | sl i =>
    have h : σ[i]? = some (some v) := h
    have e : (match ρ[i]? with | some s => s.dat | none => none) = some d := e
    cases hs : ρ[i]? with
    | none => rw [hs] at e; cases e
    | some s =>
      rw [hs] at e
      have q := R.slot i s _ hs h
      have off : ∀ {a}, s.isW = true → v = .ref a → ¬ Own (lockE ρ (.sl i)) σ a := fun {a} hw ha => lock_off R hs h ⟨hw, .inl (by rw [ha])⟩
      cases s with
      | emp => cases e
      | shr d' => cases e; obtain ⟨v', e', q⟩ := q; cases e'; exact .inl q
      | own d' => cases e; obtain ⟨a, e', _, q⟩ := q; cases e'; exact .inr ⟨a, rfl, q.r, off rfl rfl⟩
      | par d' => cases e; obtain ⟨a, e', _, q⟩ := q; cases e'; exact .inr ⟨a, rfl, q.r, off rfl rfl⟩
      | owb d' => cases e; obtain ⟨a, e', _, q⟩ := q; cases e'; exact .inr ⟨a, rfl, q.r, off rfl rfl⟩
      | pab d' => cases e; obtain ⟨a, e', _, q⟩ := q; cases e'; exact .inr ⟨a, rfl, q.r, off rfl rfl⟩
      | brw d' =>
        cases e
        rcases R.bor i d _ hs h with ⟨v', e', q2⟩ | ⟨a, e', q2, n⟩
        · cases e'; exact .inl q2
        · cases e'; exact .inr ⟨a, rfl, q2, fun z => n a (.inl rfl) (Own_lockE R z)⟩
/-- the list of such a value, later on -/
theorem heldL (R : Rel F U ρ σ H) {r : Rs} {v : V} {ds : List D} (h : RV F U σ H r v) (e : r.dat ρ = some (.lst ds)) : ∃ a vs, v = .ref a ∧ Rd H a (.lst vs) ∧ RpAll F.K H U ds vs ∧ ∀ (H2 : Hp) (U2 : US), Pres H U H2 U2 → (∀ a o, H a = some o → ¬ Own (lockE ρ r) σ a → H2 a = some o) → Rd H2 a (.lst vs) := by
  rcases h.held R e with q | ⟨a, rfl, ⟨vs, q1, q2⟩, n⟩
  · simp only [Rp] at q
    obtain ⟨a, vs, rfl, h1, h2⟩ := q
    exact ⟨a, vs, rfl, .inl h1.1, h2, fun H2 U2 p _ => .inl (p a _ h1.1 h1.2).1⟩
  · refine ⟨a, vs, rfl, q1, q2, fun H2 U2 _ kp => ?_⟩
    rcases q1 with q1 | ⟨o, q1⟩
    · exact .inl (kp a _ q1 n)
    · exact .inr ⟨o, kp a _ q1 n⟩
def iS (f : T3E) : T3I := fun ρ Q => f ρ fun r ρ1 => wd r ρ1 fun d => match d with
  | .lst ds => Q ⟨ds, r⟩ ρ1
  | .tup ds => Q ⟨ds, r⟩ ρ1
  | .scr ns => Q ⟨ns.map D.int, .val .non⟩ ρ1
  | _ => False
theorem scr_sq {ns : List Int} {v : V} (h : Rp K H U (.scr ns) v) : ∃ a, v = .ref a ∧ SqL K H a (ns.map V.int) := by
  simp only [Rp] at h
  obtain ⟨a, e, h⟩ := h
  refine ⟨a, e, ?_⟩
  rcases h with ⟨o, its, n, h1, h2, h3, h4, h5, h6⟩ | ⟨o, h, _⟩
  · exact .inr ⟨o, its, n, h1, h2, h3, h4, h5, h6⟩
  · exact .inl (.inr ⟨o, h⟩)
theorem len_idx {α : Type} {l : List α} {i : Nat} (h : l.length ≤ i) : l[i]? = none := List.getElem?_eq_none h
theorem RdL_inj {H : Hp} {a : Addr} {vs ws : List V} (K : PySem.W.Frag) (h : Rd H a (.lst vs)) (q : Rd H a (.lst ws)) : ws = vs := by
  rcases h with h | ⟨o, h⟩ <;> rcases q with q | ⟨o', q⟩ <;> rw [h] at q <;> cases q <;> rfl
theorem simIS {t : TE} {f : T3E} (h : SimE K t f) : SimI K false (iSeq K t) (iS f) := by
  intro F U ρ σ H Q3 R2 e R q k
  refine h F U ρ σ H _ _ e R q fun r v ρ1 H1 R1 s1 q1 h1 => ?_
  subst e
  obtain ⟨d, e1, h1⟩ := wd_out h1
  cases d <;> first | exact h1.elim | skip
  · rename_i ds
    obtain ⟨a, vs, rfl, z1, z2, z3⟩ := q1.tup R1 e1
    refine ⟨a, rfl, .inr ⟨⟨vs, z1⟩, k _ ⟨ds, r⟩ ρ1 H1 R1 s1 ?_ h1⟩⟩
    intro F2 U2 ρ2 σ2 H2 eK R2' p kp i
    have z4 := Rp.pres p _ _ z3
    simp only [Rp] at z4
    obtain ⟨a', ws, ea, w1, w2⟩ := z4
    cases ea
    refine ⟨fun d hd => ?_, fun hi => ⟨ws, w1.sq, by rw [w2.len]; exact hi⟩⟩
    obtain ⟨x, hx, rx⟩ := w2.get hd
    exact ⟨⟨ws, x, w1.sq, hx⟩, fun y H3 hy => by
      obtain ⟨rfl, hy⟩ := hy
      have := hy ws w1.sq
      rw [hx] at this; cases this
      exact ⟨fun _ _ h => h, .inl rx⟩⟩
  · rename_i ds
    obtain ⟨a, vs, rfl, z1, z2, z3⟩ := heldL R1 q1 e1
    refine ⟨a, rfl, .inl ⟨⟨vs, .inl z1⟩, k _ ⟨ds, r⟩ ρ1 H1 R1 s1 ?_ h1⟩⟩
    intro F2 U2 ρ2 σ2 H2 eK R2' p kp i
    have w1 := z3 H2 U2 p kp
    have w2 := RpAll.pres p ds vs z2
    refine ⟨fun d hd => ?_, fun hi => ⟨vs, .inl w1, by rw [w2.len]; exact hi⟩⟩
    obtain ⟨x, hx, rx⟩ := w2.get hd
    exact ⟨⟨vs, x, .inl w1, hx⟩, fun y H3 hy => by
      obtain ⟨rfl, hy⟩ := hy
      have := hy vs (.inl w1)
      rw [hx] at this; cases this
      exact ⟨fun _ _ h => h, .inl rx⟩⟩
  · rename_i ns
    have z : Rp F.K H1 U (.scr ns) v := by
      rcases q1.get R1 e1 with z | ⟨a, _, z⟩
      · exact z
      · exact z.elim
    obtain ⟨a, rfl, z1⟩ := scr_sq z
    refine ⟨a, rfl, .inl ⟨⟨_, z1⟩, k _ ⟨ns.map D.int, .val .non⟩ ρ1 H1 R1 s1 ?_ h1⟩⟩
    intro F2 U2 ρ2 σ2 H2 eK R2' p kp i
    obtain ⟨a', ea, w1⟩ := scr_sq (Rp.pres p _ _ z)
    cases ea
    refine ⟨fun d hd => ?_, fun hi => ⟨_, w1, by rw [List.length_map]; simpa using hi⟩⟩
    rw [List.getElem?_map] at hd
    obtain ⟨c, hc, rfl⟩ := Option.map_eq_some_iff.mp hd
    have hx : (ns.map V.int)[i]? = some (.int c) := by rw [List.getElem?_map, hc]; rfl
    exact ⟨⟨_, _, w1, hx⟩, fun y H3 hy => by
      obtain ⟨rfl, hy⟩ := hy
      have := hy _ w1
      rw [hx] at this; cases this
      exact ⟨fun _ _ h => h, .inl rp_int⟩⟩
/-- rngD lo, lo + c, .. -/
def rngD (lo c : Int) (n : Nat) : List D := (List.range n).map fun i => D.int (lo + (i : Nat) * c)
theorem rngD_get {lo c : Int} {n i : Nat} {d : D} (h : (rngD lo c n)[i]? = some d) : i < n ∧ d = .int (lo + (i : Nat) * c) := by
  unfold rngD at h
  rw [List.getElem?_map] at h
  by_cases hi : i < n
  · rw [List.getElem?_range hi] at h
    exact ⟨hi, (Option.some.inj h).symm⟩
  · rw [List.getElem?_eq_none (by rw [List.length_range]; omega)] at h; cases h
theorem rngD_len {lo c : Int} {n : Nat} : (rngD lo c n).length = n := by simp [rngD]
theorem jok_r {lo : Int} {n : Nat} {W : US} : JOk K U H W false (Itr lo n) (rngD lo 1 n) := by
  intro F2 U2 ρ2 σ2 H2 eK R2 p kp i
  refine ⟨fun d hd => ?_, fun hi => by rw [rngD_len] at hi; exact hi⟩
  obtain ⟨hi, rfl⟩ := rngD_get hd
  exact ⟨hi, fun x H3 hy => by
    obtain ⟨rfl, rfl⟩ := hy
    refine ⟨fun _ _ h => h, .inl ?_⟩
    rw [Int.mul_one]
    exact rp_int⟩
theorem jok_c {lo c : Int} {n : Nat} {W : US} : JOk K U H W false (Itc lo c n) (rngD lo c n) := by
  intro F2 U2 ρ2 σ2 H2 eK R2 p kp i
  refine ⟨fun d hd => ?_, fun hi => by rw [rngD_len] at hi; exact hi⟩
  obtain ⟨hi, rfl⟩ := rngD_get hd
  exact ⟨hi, fun x H3 hy => by
    obtain ⟨rfl, rfl⟩ := hy
    exact ⟨fun _ _ h => h, .inl rp_int⟩⟩
def iR1 (g : T3A) : T3I := fun ρ Q => g ρ fun rs ρ1 => match rs with
  | [x] => wd x ρ1 fun d => match d with
    | .int j => (-(2 ^ 62) ≤ j ∧ j < 2 ^ 62) ∧ Q ⟨rngD 0 1 j.toNat, .val .non⟩ ρ1
    | _ => False
  | _ => False
theorem simIR1 {t : TA} {g : T3A} (h : SimA K t g) : SimI K false (iRng1 t) (iR1 g) := by
  intro F U ρ σ H Q3 R2 e R q k
  refine h F U ρ σ H _ _ e R q fun rs vs ρ1 H1 R1 s1 q1 h1 => ?_
  cases q1 with
  | nil => exact h1.elim
  | cons q1 qs =>
    cases qs with
    | cons _ _ => exact h1.elim
    | nil =>
      obtain ⟨d, e1, h1⟩ := wd_out h1
      cases d <;> first | exact h1.elim | skip
      exact ⟨_, by rw [q1.int R1 e1], h1.1.1, h1.1.2, k _ ⟨_, .val .non⟩ ρ1 H1 R1 s1 jok_r h1.2⟩
def w2A (rs : List Rs) (ρ : En) (k : Int → Int → Prop) : Prop := match rs with
  | [x, y] => w2I x y ρ k
  | _ => False
theorem w2A_out {rs : List Rs} {vs : List V} {k : Int → Int → Prop} (R : Rel F U ρ σ H) (q : RVs F U σ H rs vs) (h : w2A rs ρ k) : ∃ i j, vs = [.int i, .int j] ∧ k i j := by
  unfold w2A at h
  split at h
  · rename_i x y
    cases q with
    | cons q1 qs =>
      cases qs with
      | cons q2 qs =>
        cases qs
        obtain ⟨i, j, e1, e2, h⟩ := w2I_out h
        exact ⟨i, j, by rw [q1.int R e1, q2.int R e2], h⟩
  · exact h.elim
def iR2 (g : T3A) : T3I := fun ρ Q => g ρ fun rs ρ1 => w2A rs ρ1 fun i j => (-(2 ^ 62) ≤ i ∧ i < 2 ^ 62 ∧ -(2 ^ 62) ≤ j ∧ j < 2 ^ 62) ∧ Q ⟨rngD i 1 (j - i).toNat, .val .non⟩ ρ1
theorem simIR2 {t : TA} {g : T3A} (h : SimA K t g) : SimI K false (iRng2 t) (iR2 g) := by
  intro F U ρ σ H Q3 R2 e R q k
  refine h F U ρ σ H _ _ e R q fun rs vs ρ1 H1 R1 s1 q1 h1 => ?_
  obtain ⟨i, j, rfl, h1⟩ := w2A_out R1 q1 h1
  exact ⟨i, j, rfl, h1.1, k _ ⟨_, .val .non⟩ ρ1 H1 R1 s1 jok_r h1.2⟩
/-- range(i, j, -1) -/
def iRm (g : T3A) : T3I := fun ρ Q => g ρ fun rs ρ1 => match rs with
  | [x, y, z] => w2I x y ρ1 fun i j => wd z ρ1 fun dz => match dz with
    | .int c => c = -1 ∧ (-(2 ^ 62) ≤ i ∧ i < 2 ^ 62 ∧ -(2 ^ 62) ≤ j ∧ j < 2 ^ 62) ∧ Q ⟨rngD i (-1) (i - j).toNat, .val .non⟩ ρ1
    | _ => False
  | _ => False
theorem simIRm {t : TA} {g : T3A} (h : SimA K t g) : SimI K false (iRng3 t) (iRm g) := by
  intro F U ρ σ H Q3 R2 e R q k
  refine h F U ρ σ H _ _ e R q fun rs vs ρ1 H1 R1 s1 q1 h1 => ?_
  split at h1
  · rename_i x y z
    cases q1 with
    | cons q1 qs =>
      cases qs with
      | cons q2 qs =>
        cases qs with
        | cons q3 qs =>
          cases qs
          obtain ⟨i, j, e1, e2, h1⟩ := w2I_out h1
          obtain ⟨dz, e3, h1⟩ := wd_out h1
          cases dz <;> first | exact h1.elim | skip
          obtain ⟨rfl, ⟨b1, b2, b3, b4⟩, h1⟩ := h1
          exact ⟨i, j, -1, _, by rw [q1.int R1 e1, q2.int R1 e2, q3.int R1 e3], RgC.neg b1 b2 b3 b4, k _ ⟨_, .val .non⟩ ρ1 H1 R1 s1 jok_c h1⟩
  · exact h1.elim
/-- enumerate(a list) -/
def pairsD (ds : List D) : List D := ds.zipIdx.map fun p => D.tup [.int (p.2 : Nat), p.1]
theorem pairsD_get {ds : List D} {i : Nat} {d : D} (h : (pairsD ds)[i]? = some d) : ∃ x, ds[i]? = some x ∧ d = .tup [.int (i : Nat), x] := by
  unfold pairsD at h
  rw [List.getElem?_map, List.getElem?_zipIdx] at h
  cases e : ds[i]? with
  | none => rw [e] at h; cases h
  | some x => rw [e] at h; simp at h; exact ⟨x, rfl, h.symm⟩
theorem pairsD_len (ds : List D) : (pairsD ds).length = ds.length := by simp [pairsD]
def iE (g : T3A) : T3I := fun ρ Q => g ρ fun rs ρ1 => match rs with
  | [x] => wd x ρ1 fun d => match d with
    | .lst ds => Q ⟨pairsD ds, x⟩ ρ1
    | _ => False
  | _ => False
theorem simIE {t : TA} {g : T3A} (h : SimA K t g) : SimI K true (iEnum K t) (iE g) := by
  intro F U ρ σ H Q3 R2 e R q k
  refine h F U ρ σ H _ _ e R q fun rs vs ρ1 H1 R1 s1 q1 h1 => ?_
  subst e
  cases q1 with
  | nil => exact h1.elim
  | cons q1 qs =>
    cases qs with
    | cons _ _ => exact h1.elim
    | nil =>
      rename_i r v
      obtain ⟨d, e1, h1⟩ := wd_out h1
      cases d <;> first | exact h1.elim | skip
      rename_i ds
      obtain ⟨a, vs, rfl, z1, z2, z3⟩ := heldL R1 q1 e1
      refine ⟨a, vs, rfl, .inl z1, k _ ⟨_, r⟩ ρ1 H1 R1 s1 ?_ h1⟩
      intro F2 U2 ρ2 σ2 H2 eK R2' p kp i
      have w1 := z3 H2 U2 p kp
      have w2 := RpAll.pres p ds vs z2
      refine ⟨fun d hd => ?_, fun hi => ⟨vs, .inl w1, by rw [w2.len]; rw [pairsD_len] at hi; exact hi⟩⟩
      obtain ⟨x, hx, rfl⟩ := pairsD_get hd
      obtain ⟨y, hy, ry⟩ := w2.get hx
      refine ⟨⟨vs, y, .inl w1, hy⟩, fun z H3 hz => ?_⟩
      obtain ⟨T, y', rfl, hT, rfl, hz⟩ := hz
      have := hz vs (.inl w1)
      rw [hy] at this; cases this
      refine ⟨ext_new hT, .inr ⟨rfl, T, _, _, rfl, rfl, .inl (.inl upd_same), ?_⟩⟩
      simp only [RpAll, Rp]
      exact ⟨_, _, rfl, rfl, _, _, rfl, Rp.pres (fun a o h n => ⟨ext_new hT a o h, n⟩) x y ry, rfl⟩

/-! ### loops -/
def E3.under (E : E3) (ρ0 : En) (r : Rs) : E3 :=
  { nx := fun ρ => okL ρ0 r ρ ∧ E.nx (unlockE ρ0 r ρ), rt := fun d ρ => okL ρ0 r ρ ∧ E.rt d (unlockE ρ0 r ρ), ro := fun d ρ => okL ρ0 r ρ ∧ E.ro d (unlockE ρ0 r ρ) }
def forL (g : T3G) (tb : T3S) (E : E3) : List D → En → Prop
  | [], ρ => E.nx ρ
  | x :: xs, ρ => g x ρ fun ρ1 => tb { E with nx := forL g tb E xs, ct := forL g tb E xs, bk := E.nx } ρ1
def sFor (w : T3I) (g : T3G) (tb : T3S) : T3S := fun E ρ => w ρ fun it ρ1 => forL g tb (E.under ρ1 it.r) it.items (lockE ρ1 it.r)
theorem Pres.at (R : Rel (F.at U ρ σ H) U2 ρ2 σ2 H2) : Pres H U H2 U2 := R.pres0
theorem unlockI_own {i j : Nat} {d : D} (ok : okI ρ j ρ2) (h : ρ2[i]? = some (.own d)) : (unlockI ρ j ρ2)[i]? = some (.own d) := by
  by_cases w : ∃ s, ρ[j]? = some s ∧ s.isW = true
  · obtain ⟨s, h1, w⟩ := w
    rw [unlockI_w h1 w]
    have ok : isB ρ2 j := by
      unfold okI at ok
      rw [h1] at ok
      have ok : (match s.isW with | true => isB ρ2 j | false => True) := ok
      rwa [w] at ok
    have ne : j ≠ i := fun z => by subst z; unfold isB at ok; rw [h] at ok; exact ok
    rw [List.getElem?_set_ne ne]; exact h
  · rw [unlockI_no fun s e => Bool.eq_false_iff.mpr fun z => w ⟨s, e, z⟩]
    exact h
theorem unlock_own {r : Rs} {i : Nat} {d : D} (ok : okL ρ r ρ2) (h : ρ2[i]? = some (.own d)) : (unlockE ρ r ρ2)[i]? = some (.own d) := by
  cases r with
  | val _ => exact h
  | sl j => exact unlockI_own ok h
  | bx j f b => exact unlockI_own ok h
theorem KS.under {D3 : E3} {D2 : Ends} (k : KS F D3 D2) (R : Rel F U ρ σ H) (r : Rs) : KS (F.at U (lockE ρ r) σ H) (D3.under ρ r) { D2 with bk := fun _ _ => False, ct := fun _ _ => False } where
  nx := fun U' ρ' σ' H' R' q => k.nx _ _ _ _ (loopOut R r R' q.1) q.2
  bk := fun _ _ _ _ _ q => q
  ct := fun _ _ _ _ _ q => q
  rt := fun U' ρ' σ' H' d v R' rp q => k.rt _ _ _ _ d v (loopOut R r R' q.1) rp q.2
  ro := fun U' ρ' σ' H' d a i R' h1 h2 q => k.ro _ _ _ _ d a i (loopOut R r R' q.1) (unlock_own q.1 h1) h2 q.2
  rf := fun U' ρ' σ' H' d a R' f q => k.rf _ _ _ _ d a (loopOut R r R' q.1) ⟨f.top, f.u, up_new R f.new⟩ q.2
theorem simFor {wk : Bool} {w : TI} {g : TG} {tb : TS} {w3 : T3I} {g3 : T3G} {tb3 : T3S} {ix : List Nat} (hw : SimI K wk w w3) (hg : SimG K wk g g3 ix) (hb : SimS K tb tb3) : SimS K (tFor w g tb) (sFor w3 g3 tb3) := by
  intro F U ρ σ H D3 D2 e R q k
  refine hw F U ρ σ H _ _ e R q fun J it ρ1 H1 R1 s1 jok h1 => ?_
  have Rf := loopIn R1 it.r
  have ku := k.under R1 it.r
  refine ⟨fun i m σ' H' => m = it.items.length - i ∧ i ≤ it.items.length ∧ ∃ U' ρ', Rel (F.at U (lockE ρ1 it.r) σ H1) U' ρ' σ' H' ∧ forL g3 tb3 (D3.under ρ1 it.r) (it.items.drop i) ρ', ⟨_, rfl, Nat.zero_le _, U, _, Rf, h1⟩, ?_⟩
  rintro i m σ' H' ⟨rfl, hi, U', ρ', R', q'⟩
  have eK : (F.at U (lockE ρ1 it.r) σ H1).K = K := e
  obtain ⟨j1, j2⟩ := jok _ U' ρ' σ' H' eK R' R'.pres0 R'.keep i
  by_cases hl : i < it.items.length
  · right
    obtain ⟨d, hd⟩ : ∃ d, it.items[i]? = some d := ⟨_, List.getElem?_eq_getElem hl⟩
    have ed : it.items.drop i = d :: it.items.drop (i + 1) := by
      rw [List.drop_eq_getElem_cons hl]
      congr 1
      rw [List.getElem?_eq_getElem hl] at hd
      exact Option.some.inj hd
    rw [ed] at q'
    obtain ⟨g1, g2⟩ := j1 d hd
    refine ⟨g1, fun σ2 H2 => ∃ U2 ρ2, Rel (F.at U (lockE ρ1 it.r) σ H1) U2 ρ2 σ2 H2 ∧ forL g3 tb3 (D3.under ρ1 it.r) (it.items.drop (i + 1)) ρ2, fun σ2 H2 z => ⟨it.items.length - (i + 1), by omega, rfl, hl, z⟩, fun x H3 hy => ?_⟩
    obtain ⟨ex, rx⟩ := g2 x H3 hy
    rw [← eK] at rx
    refine hg _ U' ρ' σ' H3 d x _ _ eK (R'.ext ex) rx q' fun ρ3 σ3 R3 _ _ q3 => ?_
    refine hb _ U' ρ3 σ3 H3 _ _ eK R3 q3 ⟨fun U4 ρ4 σ4 H4 R4 q4 => ⟨U4, ρ4, R4, q4⟩, ku.nx, fun U4 ρ4 σ4 H4 R4 q4 => ⟨U4, ρ4, R4, q4⟩, ku.rt, ku.ro, ku.rf⟩
  · left
    have e2 : i = it.items.length := by omega
    subst e2
    rw [List.drop_length] at q'
    exact ⟨j2 (Nat.le_refl _), ku.nx _ _ _ _ R' q'⟩
def sWhile (c : T3T) (tb : T3S) : T3S := fun D ρ => ∃ W : Nat → En → Prop, (∃ m, W m ρ) ∧ ∀ m ρ, W m ρ → c ρ fun b ρ1 => if b = true then tb { D with nx := fun ρ' => ∃ m', m' < m ∧ W m' ρ', ct := fun ρ' => ∃ m', m' < m ∧ W m' ρ', bk := D.nx } ρ1 else D.nx ρ1
theorem simWhile {c : TT} {tb : TS} {c3 : T3T} {tb3 : T3S} (hc : SimT K c c3) (hb : SimS K tb tb3) : SimS K (tWhile c tb) (sWhile c3 tb3) := by
  intro F U ρ σ H D3 D2 e R q k
  obtain ⟨W, ⟨m, w⟩, q⟩ := q
  refine ⟨fun m σ' H' => ∃ U' ρ', Rel F U' ρ' σ' H' ∧ W m ρ', ⟨m, U, ρ, R, w⟩, ?_⟩
  rintro m σ' H' ⟨U', ρ', R', w'⟩
  refine hc F U' ρ' σ' H' _ _ e R' (q m ρ' w') fun b ρ1 H1 R1 s1 h1 => ?_
  cases b with
  | false => exact k.nx _ _ _ _ R1 h1
  | true =>
    refine ⟨fun σ2 H2 => ∃ m', m' < m ∧ ∃ U2 ρ2, Rel F U2 ρ2 σ2 H2 ∧ W m' ρ2, fun σ2 H2 ⟨m', hm, z⟩ => ⟨m', hm, z⟩, ?_⟩
    refine hb F U' ρ1 σ' H1 _ _ e R1 h1 ⟨fun U4 ρ4 σ4 H4 R4 ⟨m', hm, z⟩ => ⟨m', hm, U4, ρ4, R4, z⟩, k.nx, fun U4 ρ4 σ4 H4 R4 ⟨m', hm, z⟩ => ⟨m', hm, U4, ρ4, R4, z⟩, k.rt, k.ro, k.rf⟩
end
end L3

set_option Elab.async false
set_option linter.all false
set_option maxRecDepth 100000
namespace L3
open PySem PySem.Spec L2
open PyProof.Rows (b2i)
section
variable {F : Fr} {U U2 : US} {ρ ρ' ρ2 : En} {σ σ2 : St} {H H' H2 : Hp} {K : PySem.W.Frag}

/-! ### an owned slot is written -/
def putF' (f : Str) (d : D) : List (Str × D) → List (Str × D)
  | [] => [(f, d)]
  | (g, x) :: r => if g = f then (g, d) :: r else (g, x) :: putF' f d r
/-- the box b in the field f of an instance, with other data -/
def boxW (s : Sl) (f : Str) (b : Addr) (k : D → (D → Sl) → Prop) : Prop := match s with
  | .owb (.obj C fs) => match fs.lookup f with
    | some (.bx b' d) => b' = b ∧ k d fun d' => .owb (.obj C (putF' f (.bx b d') fs))
    | _ => False
  | .pab (.obj C fs) => match fs.lookup f with
    | some (.bx b' d) => b' = b ∧ k d fun d' => .pab (.obj C (putF' f (.bx b d') fs))
    | _ => False
  | _ => False
def ww (r : Rs) (ρ : En) (k : D → (D → En) → Prop) : Prop := match r with
  | .sl i => match ρ[i]? with
    | some (.own d) => k d fun d' => ρ.set i (.own d')
    | some (.par d) => k d fun d' => ρ.set i (.par d')
    | _ => False
  | .bx i f b => match ρ[i]? with
    | some s => boxW s f b fun d up => k d fun d' => ρ.set i (up d')
    | none => False
  | .val _ => False
theorem bxsF_put {f : Str} {b : Addr} {d d' : D} : ∀ {fs : List (Str × D)}, fs.lookup f = some (.bx b d) → bxsF (putF' f (.bx b d') fs) = bxsF fs
  | [], e => by cases e
  | (k, x) :: fs, e => by
    rw [List.lookup_cons] at e
    by_cases hk : f = k
    · subst hk
      rw [beq_self_eq_true] at e; cases e
      rw [putF', if_pos rfl]; rfl
    · have hb : (f == k) = false := beq_eq_false_iff_ne.mpr hk
      rw [hb] at e
      rw [putF', if_neg fun z => hk z.symm]
      have ih := bxsF_put (d' := d') e
      cases x <;> first | exact ih | (show _ :: _ = _ :: _; rw [ih])
/-- an instance's boxes when one of them is written -/
theorem OvF.write {b : Addr} {o' : HO} {d d' : D} {f : Str} (t : TopW K (upd H b o') U d' b) (u : U b) : ∀ {fs : List (Str × D)} {gs : List (Str × V)}, OvF K H U fs gs → (bxsF fs).Nodup → fs.lookup f = some (.bx b d) → OvF K (upd H b o') U (putF' f (.bx b d') fs) gs
  | [], _, _, _, e => by cases e
  | (k, x) :: fs, _, h, nd, e => by
    simp only [OvF] at h
    obtain ⟨v, r, rfl, h1, h2⟩ := h
    have p : Pres H U (upd H b o') U := fun y o h n => ⟨by rw [upd_ne (fun e => n (by rw [e]; exact u))]; exact h, n⟩
    rw [List.lookup_cons] at e
    by_cases hk : f = k
    · subst hk
      rw [beq_self_eq_true] at e; cases e
      rw [putF', if_pos rfl]
      have h1 : v = .ref b ∧ U b ∧ TopW K H U d b := h1
      have nd : b ∉ bxsF fs := (List.nodup_cons.mp nd).1
      simp only [OvF]
      exact ⟨v, r, rfl, ⟨h1.1, u, t⟩, h2.pres p fun x hx ux => ⟨ux, fun o ho => by rw [upd_ne (fun e : x = b => nd (by rw [← e]; exact hx))]; exact ho⟩⟩
    · have hb : (f == k) = false := beq_eq_false_iff_ne.mpr hk
      rw [hb] at e
      rw [putF', if_neg fun z => hk z.symm]
      simp only [OvF]
      refine ⟨v, r, rfl, ?_, OvF.write t u h2 (by cases x <;> first | exact nd | exact (List.nodup_cons.mp nd).2) e⟩
      cases x with
      | bx b' x =>
        obtain ⟨e1, u', t'⟩ := h1
        have hb' : b' ≠ b := fun z => (List.nodup_cons.mp nd).1 (z ▸ lookup_bxs e)
        exact ⟨e1, u', t'.pres p fun o ho => by rw [upd_ne hb']; exact ho⟩
      | _ => exact Rp.pres p _ _ h1
theorem Rel.writeSX (R : Rel F U ρ σ H) {i : Nat} {s : Sl} {a x : Addr} {d' : D} {o' : HO} (h1 : ρ[i]? = some s) (h2 : s.isW = true) (h3 : σ[i]? = some (some (.ref a))) (hx : s.reg (some (.ref a)) x)
    (hb : ∀ y, y ∈ (s.upd d').bxs → y ∈ s.bxs) (new : SlotOk F.K (upd H x o') U (s.upd d') (some (.ref a))) : Rel F U (ρ.set i (s.upd d')) σ (upd H x o') ∧ Stp ρ σ H (ρ.set i (s.upd d')) (upd H x o') := by
  refine ⟨R.writeX h1 h2 h3 hx hb new, fun y o h n => ?_, fun y ⟨j, t, o, q1, q2, q3⟩ => ?_, fun y o h => ?_⟩
  · have nx : y ≠ x := fun e => n (by rw [e]; exact ⟨i, s, _, h1, h3, hx⟩)
    rw [upd_ne nx]; exact h
  · rcases set_get q1 with ⟨e, rfl, _⟩ | ⟨_, q1⟩
    · subst e; exact ⟨i, s, o, h1, q2, reg_upd q3 hb⟩
    · exact ⟨j, t, o, q1, q2, q3⟩
  · by_cases e : y = x
    · subst e; exact ⟨_, upd_same⟩
    · exact ⟨o, by rw [upd_ne e]; exact h⟩
theorem Rel.writeS (R : Rel F U ρ σ H) {i : Nat} {s : Sl} {a : Addr} {d' : D} {o' : HO} (h1 : ρ[i]? = some s) (h2 : s.isW = true) (hf : s.flat = true) (h3 : σ[i]? = some (some (.ref a)))
    (new : TopW F.K (upd H a o') U d' a) : Rel F U (ρ.set i (s.upd d')) σ (upd H a o') ∧ Stp ρ σ H (ρ.set i (s.upd d')) (upd H a o') :=
  R.writeSX h1 h2 h3 ⟨h2, .inl rfl⟩ (fun y hy => by rw [flat_bxs (flat_upd.trans hf)] at hy; cases hy) (flat_ok h2 hf (R.ownU (Own.root h1 h2 h3)) new)
theorem ww_out (R : Rel F U ρ σ H) {r : Rs} {v : V} {k : D → (D → En) → Prop} (q : RV F U σ H r v) (h : ww r ρ k) :
    ∃ d up a, v = .ref a ∧ U a ∧ TopW F.K H U d a ∧ (∀ {d' : D} {o' : HO}, TopW F.K (upd H a o') U d' a → Rel F U (up d') σ (upd H a o') ∧ Stp ρ σ H (up d') (upd H a o')) ∧ k d up := by
  cases r with
  | val d => exact h.elim
  | sl i =>
    have q : σ[i]? = some (some v) := q
    have h : (match ρ[i]? with | some (.own d) => k d fun d' => ρ.set i (.own d') | some (.par d) => k d fun d' => ρ.set i (.par d') | _ => False) := h
    cases hs : ρ[i]? with
    | none => rw [hs] at h; exact h.elim
    | some s =>
      rw [hs] at h
      have z := R.slot i s _ hs q
      cases s with
      | own d => obtain ⟨a, e, u, t⟩ := z; cases e; exact ⟨d, _, a, rfl, u, t, fun {d' o'} t' => R.writeS hs rfl rfl q t', h⟩
      | par d => obtain ⟨a, e, u, t⟩ := z; cases e; exact ⟨d, _, a, rfl, u, t, fun {d' o'} t' => R.writeS hs rfl rfl q t', h⟩
      | _ => exact h.elim
  | bx i f b =>
    have q : v = .ref b := q
    have h : (match ρ[i]? with | some s => boxW s f b fun d up => k d fun d' => ρ.set i (up d') | none => False) := h
    cases hs : ρ[i]? with
    | none => rw [hs] at h; exact h.elim
    | some s =>
      rw [hs] at h
      have hi : i < σ.length := by rw [← R.len]; exact (List.getElem?_eq_some_iff.mp hs).1
      have hσ : σ[i]? = some σ[i] := List.getElem?_eq_getElem hi
      have z := R.slot i s _ hs hσ
      -- one proof for both kinds
      have go : ∀ (C : Addr) (fs : List (Str × D)), s.dat = some (.obj C fs) → s.isW = true → s.bxs = bxsF fs → s.upd (.obj C fs) = s → (∀ d', (s.upd d').bxs = d'.bxs) → (∀ {H' : Hp} {d' : D} {a : Addr}, U a → TopB F.K H' U d' a → SlotOk F.K H' U (s.upd d') (some (.ref a))) →
          (∃ a, σ[i] = some (.ref a) ∧ U a ∧ TopB F.K H U (.obj C fs) a) → ∀ d, fs.lookup f = some (.bx b d) → k d (fun d' => ρ.set i (s.upd (.obj C (putF' f (.bx b d') fs)))) → ∃ d up a, v = .ref a ∧ U a ∧ TopW F.K H U d a ∧ (∀ {d' : D} {o' : HO}, TopW F.K (upd H a o') U d' a → Rel F U (up d') σ (upd H a o') ∧ Stp ρ σ H (up d') (upd H a o')) ∧ k d up := by
        intro C fs e1 e2 e3 e4 e5 e6 ⟨a, ea, ua, dx, gs, g1, g2, g3⟩ d el hk
        obtain ⟨_, _, e7, ub, tb⟩ := g2.get el
        refine ⟨d, _, b, q, ub, tb, fun {d' o'} t' => ?_, hk⟩
        have hne : a ≠ b := fun z => (List.nodup_cons.mp g3).1 (by rw [z]; exact lookup_bxs el)
        have hbx : bxsF (putF' f (.bx b d') fs) = bxsF fs := bxsF_put el
        refine R.writeSX (a := a) hs e2 (hσ.trans (by rw [ea])) ⟨e2, .inr (by rw [e3]; exact lookup_bxs el)⟩ (fun y hy => ?_) (e6 ua ⟨dx, gs, by rw [upd_ne hne]; exact g1, g2.write t' ub (List.nodup_cons.mp g3).2 el, by rw [hbx]; exact g3⟩)
        rw [e5] at hy
        rw [e3, ← hbx]; exact hy
      cases s with
      | owb dd =>
        cases dd with
        | obj C fs =>
          have h : (match fs.lookup f with | some (.bx b' d) => b' = b ∧ k d (fun d' => ρ.set i (.owb (.obj C (putF' f (.bx b d') fs)))) | _ => False) := h
          cases el : fs.lookup f with
          | none => rw [el] at h; exact h.elim
          | some x =>
            rw [el] at h
            cases x with
            | bx b' d =>
              obtain ⟨rfl, h⟩ := h
              exact go C fs rfl rfl rfl rfl (fun _ => rfl) (fun u t => ⟨_, rfl, u, t⟩) z d el h
            | _ => exact h.elim
        | _ => exact h.elim
      | pab dd =>
        cases dd with
        | obj C fs =>
          have h : (match fs.lookup f with | some (.bx b' d) => b' = b ∧ k d (fun d' => ρ.set i (.pab (.obj C (putF' f (.bx b d') fs)))) | _ => False) := h
          cases el : fs.lookup f with
          | none => rw [el] at h; exact h.elim
          | some x =>
            rw [el] at h
            cases x with
            | bx b' d =>
              obtain ⟨rfl, h⟩ := h
              exact go C fs rfl rfl rfl rfl (fun _ => rfl) (fun u t => ⟨_, rfl, u, t⟩) z d el h
            | _ => exact h.elim
        | _ => exact h.elim
      | _ => exact h.elim
theorem pres_w (R : Rel F U ρ σ H) {a : Addr} {o' : HO} (u : U a) : Pres H U (upd H a o') U := fun x o h n =>
  ⟨by rw [upd_ne (fun e => n (by rw [e]; exact u))]; exact h, n⟩
theorem topW_lst {a : Addr} {ds : List D} (t : TopW K H U (.lst ds) a) : ∃ vs, H a = some (.lst vs) ∧ RpAll K H U ds vs := t
/-- a list of an owned slot gets other items -/
theorem lstW (R : Rel F U ρ σ H) {a : Addr} (u : U a) {ds : List D} {vs : List V} (r : RpAll F.K H U ds vs) : TopW F.K (upd H a (.lst vs)) U (.lst ds) a :=
  ⟨vs, upd_same, RpAll.pres (pres_w R u) ds vs r⟩

/-! ### methods -/
abbrev M3 := Rs → List Rs → En → (Rs → En → Prop) → Prop
def SimM (K : PySem.W.Frag) (r2 : V → List V → Hp → VK → Prop) (m3 : M3) : Prop :=
  ∀ (F : Fr) (U : US) (ρ : En) (σ : St) (H : Hp) (x : V) (vs : List V) (rx : Rs) (rs : List Rs) (Q3 : Rs → En → Prop) (Q2 : VK), F.K = K → Rel F U ρ σ H → RV F U σ H rx x → RVs F U σ H rs vs → m3 rx rs ρ Q3 → KE F U ρ σ H Q3 Q2 → r2 x vs H Q2
def D.isT (T : String) : D → Bool
  | .str _ => T == "str"
  | .lst _ => T == "list"
  | _ => false
def eBM (T : String) (m3 : M3) (f : T3E) (g : T3A) : T3E := fun ρ Q => f ρ fun r ρ1 => wd r ρ1 fun d => d.isT T = true ∧ g ρ1 fun rs ρ2 => m3 r rs ρ2 Q
def eBM0 (T : String) (m3 : M3) (f : T3E) : T3E := fun ρ Q => f ρ fun r ρ1 => wd r ρ1 fun d => d.isT T = true ∧ m3 r [] ρ1 Q
theorem rvN : RV F U σ H (.val .non) .non := rp_non (K := F.K) (H := H) (U := U)
theorem rvI {i : Int} : RV F U σ H (.val (.int i)) (.int i) := rp_int (K := F.K) (H := H) (U := U)
theorem rvB {i : Bool} : RV F U σ H (.val (.bl i)) (.bl i) := rp_bl (K := F.K) (H := H) (U := U)
theorem tyV_of (R : Rel F U ρ σ H) {r : Rs} {v : V} {d : D} {T : String} (q : RV F U σ H r v) (e : r.dat ρ = some d) (h : d.isT T = true) : tyV F.K T v H := by
  cases d <;> first | cases h | skip
  · rw [q.str R e]; exact (by simpa [D.isT] using h : T = "str")
  · obtain ⟨a, vs, rfl, z1, z2⟩ := q.lst R e
    exact .inl ⟨by simpa [D.isT] using h, vs, z1⟩
theorem simBM {T : String} {r2 : V → List V → Hp → VK → Prop} {m3 : M3} {t : TE} {u : TA} {f : T3E} {g : T3A} (hm : SimM K r2 m3) (h : SimE K t f) (h' : SimA K u g) : SimE K (tBM K T r2 t u) (eBM T m3 f g) := by
  intro F U ρ σ H Q3 Q2 e R q k
  refine h F U ρ σ H _ _ e R q fun r v ρ1 H1 R1 s1 q1 h1 => ?_
  obtain ⟨d, ed, ht, h1⟩ := wd_out h1
  refine ⟨by rw [← e]; exact tyV_of R1 q1 ed ht, h' F U ρ1 σ H1 _ _ e R1 h1 fun rs vs ρ2 H2 R2 s2 q2 h2 => ?_⟩
  exact hm F U ρ2 σ H2 v vs r rs _ _ e R2 (q1.pres (s2.pres R1)) q2 h2 fun r w ρ3 H3 R3 s3 q3 h3 => k r w ρ3 H3 R3 ((s1.trans s2).trans s3) q3 h3
theorem simBM0 {T : String} {r2 : V → List V → Hp → VK → Prop} {m3 : M3} {t : TE} {f : T3E} (hm : SimM K r2 m3) (h : SimE K t f) : SimE K (tBM0 K T r2 t) (eBM0 T m3 f) := by
  intro F U ρ σ H Q3 Q2 e R q k
  refine h F U ρ σ H _ _ e R q fun r v ρ1 H1 R1 s1 q1 h1 => ?_
  obtain ⟨d, ed, ht, h1⟩ := wd_out h1
  refine ⟨by rw [← e]; exact tyV_of R1 q1 ed ht, ?_⟩
  exact hm F U ρ1 σ H1 v [] r [] _ _ e R1 q1 .nil h1 fun r w ρ3 H3 R3 s3 q3 h3 => k r w ρ3 H3 R3 (s1.trans s3) q3 h3
def v1 (rs : List Rs) (k : D → Prop) : Prop := match rs with
  | [.val d] => k d
  | _ => False
theorem v1_out {rs : List Rs} {vs : List V} {k : D → Prop} (q : RVs F U σ H rs vs) (h : v1 rs k) : ∃ d v, vs = [v] ∧ Rp F.K H U d v ∧ k d := by
  unfold v1 at h
  split at h
  · rename_i d
    cases q with
    | cons q1 qs => cases qs; exact ⟨d, _, rfl, q1, h⟩
  · exact h.elim
def mAppend : M3 := fun r rs ρ Q => v1 rs fun d => ww r ρ fun dl up => match dl with
  | .lst ds => ds.length < sizeLine ∧ Q (.val .non) (up (.lst (ds ++ [d])))
  | _ => False
theorem simAppend : SimM K rAppend mAppend := by
  intro F U ρ σ H x vs rx rs Q3 Q2 e R q qs h k
  obtain ⟨d, v, rfl, rd, h⟩ := v1_out qs h
  obtain ⟨dl, up, a, rfl, u, t, wr, h⟩ := ww_out R q h
  cases dl <;> first | exact h.elim | skip
  rename_i ds
  obtain ⟨ws, z1, z2⟩ := t
  obtain ⟨R', S'⟩ := wr (lstW R u (z2.app (.one rd)))
  exact ⟨a, ws, v, rfl, rfl, z1, by rw [z2.len]; exact h.1, k (.val .non) .non _ _ R' S' rvN h.2⟩
def mPop : M3 := fun r rs ρ Q => match rs with
  | [] => ww r ρ fun dl up => match dl with
    | .lst ds => wo ds[ds.length - 1]? fun d => Q (.val d) (up (.lst ds.dropLast))
    | _ => False
  | _ => False
theorem simPop : SimM K rPop mPop := by
  intro F U ρ σ H x vs rx rs Q3 Q2 e R q qs h k
  unfold mPop at h
  cases qs with
  | cons _ _ => exact h.elim
  | nil =>
    obtain ⟨dl, up, a, rfl, u, t, wr, h⟩ := ww_out R q h
    cases dl <;> first | exact h.elim | skip
    rename_i ds
    obtain ⟨d, ed, h⟩ := wo_out h
    obtain ⟨ws, z1, z2⟩ := t
    obtain ⟨w, hw, rw'⟩ := z2.get ed
    obtain ⟨R', S'⟩ := wr (lstW R u z2.dropLast)
    exact ⟨a, ws, w, rfl, rfl, z1, by rw [z2.len]; exact hw, k (.val d) w _ _ R' S' (Rp.pres (pres_w R u) _ _ rw') h⟩
def mPopAt : M3 := fun r rs ρ Q => match rs with
  | [x] => wd x ρ fun di => match di with
    | .int i => ww r ρ fun dl up => match dl with
      | .lst ds => wo (ixN ds.length i) fun j => (-(2 ^ 63) ≤ i ∧ i < 2 ^ 63) ∧ wo ds[j]? fun d => Q (.val d) (up (.lst (ds.eraseIdx j)))
      | _ => False
    | _ => False
  | _ => False
theorem simPopAt : SimM K rPopAt mPopAt := by
  intro F U ρ σ H x vs rx rs Q3 Q2 e R q qs h k
  unfold mPopAt at h
  cases qs with
  | nil => exact h.elim
  | cons q1 qs =>
    cases qs with
    | cons _ _ => exact h.elim
    | nil =>
      obtain ⟨di, ei, h⟩ := wd_out h
      cases di <;> first | exact h.elim | skip
      rename_i j
      obtain ⟨dl, up, a, rfl, u, t, wr, h⟩ := ww_out R q h
      cases dl <;> first | exact h.elim | skip
      rename_i ds
      obtain ⟨jj, ej, ⟨b1, b2⟩, h⟩ := wo_out h
      obtain ⟨d, ed, h⟩ := wo_out h
      obtain ⟨ws, z1, z2⟩ := t
      obtain ⟨w, hw, rw'⟩ := z2.get ed
      obtain ⟨R', S'⟩ := wr (lstW R u (z2.erase jj))
      exact ⟨a, ws, j, jj, w, rfl, by rw [q1.int R ei], z1, b1, b2, by rw [z2.len]; exact (ixN_seq ej).1, hw, k (.val d) w _ _ R' S' (Rp.pres (pres_w R u) _ _ rw') h⟩
def mInsert : M3 := fun r rs ρ Q => match rs with
  | [x, .val d] => wd x ρ fun di => match di with
    | .int i => ww r ρ fun dl up => match dl with
      | .lst ds => (ds.length < sizeLine ∧ 0 ≤ i ∧ i < 2 ^ 63) ∧ Q (.val .non) (up (.lst (ds.take i.toNat ++ [d] ++ ds.drop i.toNat)))
      | _ => False
    | _ => False
  | _ => False
theorem simInsert : SimM K (fun x vs H Q => ∃ (l : Addr) (xs : List V) (i : Int) (y : V), x = .ref l ∧ vs = [.int i, y] ∧ H l = some (.lst xs) ∧ xs.length < sizeLine ∧ 0 ≤ i ∧ i < 2 ^ 63 ∧
    Q .non (upd H l (.lst (xs.take i.toNat ++ [y] ++ xs.drop i.toNat)))) mInsert := by
  intro F U ρ σ H x vs rx rs Q3 Q2 e R q qs h k
  unfold mInsert at h
  split at h
  · rename_i x d
    cases qs with
    | cons q1 qs =>
      cases qs with
      | cons q2 qs =>
        cases qs
        obtain ⟨di, ei, h⟩ := wd_out h
        cases di <;> first | exact h.elim | skip
        rename_i j
        obtain ⟨dl, up, a, rfl, u, t, wr, h⟩ := ww_out R q h
        cases dl <;> first | exact h.elim | skip
        rename_i ds
        obtain ⟨ws, z1, z2⟩ := t
        obtain ⟨R', S'⟩ := wr (lstW R u (((z2.take j.toNat).app (.one q2)).app (z2.drop j.toNat)))
        exact ⟨a, ws, j, _, rfl, by rw [q1.int R ei], z1, by rw [z2.len]; exact h.1.1, h.1.2.1, h.1.2.2, k (.val .non) _ _ _ R' S' rvN h.2⟩
  · exact h.elim
def mExtend : M3 := fun r rs ρ Q => match rs with
  | [x] => wn x ρ fun dx => match dx with
    | .lst es => ww r ρ fun dl up => match dl with
      | .lst ds => ds.length + es.length ≤ sizeLine ∧ Q (.val .non) (up (.lst (ds ++ es)))
      | _ => False
    | _ => False
  | _ => False
theorem simExtend : SimM K rExtend mExtend := by
  intro F U ρ σ H x vs rx rs Q3 Q2 e R q qs h k
  unfold mExtend at h
  cases qs with
  | nil => exact h.elim
  | cons q1 qs =>
    cases qs with
    | cons _ _ => exact h.elim
    | nil =>
      obtain ⟨di, ei, h⟩ := wn_out h
      cases di <;> first | exact h.elim | skip
      rename_i es
      obtain ⟨dl, up, a, rfl, u, t, wr, h⟩ := ww_out R q h
      cases dl <;> first | exact h.elim | skip
      rename_i ds
      obtain ⟨ws, z1, z2⟩ := t
      obtain ⟨b, zs, rfl, y1, y2⟩ := q1.lstN R ei
      obtain ⟨R', S'⟩ := wr (lstW R u (z2.app y2))
      exact ⟨a, b, ws, zs, rfl, rfl, z1, y1, by rw [z2.len, y2.len]; exact h.1, k (.val .non) _ _ _ R' S' rvN h.2⟩
def mClear : M3 := fun r rs ρ Q => match rs with
  | [] => ww r ρ fun dl up => match dl with
    | .lst ds => Q (.val .non) (up (.lst []))
    | _ => False
  | _ => False
theorem simClear : SimM K rClear mClear := by
  intro F U ρ σ H x vs rx rs Q3 Q2 e R q qs h k
  unfold mClear at h
  cases qs with
  | cons _ _ => exact h.elim
  | nil =>
    obtain ⟨dl, up, a, rfl, u, t, wr, h⟩ := ww_out R q h
    cases dl <;> first | exact h.elim | skip
    obtain ⟨ws, z1, z2⟩ := t
    obtain ⟨R', S'⟩ := wr (lstW R u (ds := []) (vs := []) (by simp only [RpAll]))
    exact ⟨a, ws, rfl, rfl, z1, k (.val .non) _ _ _ R' S' rvN h⟩
/-- xs.count(an int), xs a list of ints -/
def D.intsOf : List D → Option (List Int)
  | [] => some []
  | .int i :: ds => (D.intsOf ds).map (i :: ·)
  | _ :: _ => none
theorem intsOf_out : ∀ {ds : List D} {ns : List Int}, D.intsOf ds = some ns → ds = ns.map D.int
  | [], ns, h => by cases h; rfl
  | d :: ds, ns, h => by
    cases d <;> first | (cases h; done) | skip
    have h : (D.intsOf ds).map _ = some ns := h
    cases e : D.intsOf ds with
    | none => rw [e] at h; cases h
    | some r => rw [e] at h; cases h; rw [intsOf_out e]; rfl
theorem intsOf_map : ∀ ns : List Int, D.intsOf (ns.map D.int) = some ns
  | [] => rfl
  | n :: ns => by show (D.intsOf (ns.map D.int)).map _ = _; rw [intsOf_map ns]; rfl
def mCount : M3 := fun r rs ρ Q => match rs with
  | [x] => wd x ρ fun dx => match dx with
    | .int j => wd r ρ fun dl => match dl with
      | .lst ds => wo (D.intsOf ds) fun ns => Q (.val (.int (ns.count j : Nat))) ρ
      | _ => False
    | _ => False
  | _ => False
theorem simCount : SimM K (rCntI K) mCount := by
  intro F U ρ σ H x vs rx rs Q3 Q2 e R q qs h k
  unfold mCount at h
  subst e
  cases qs with
  | nil => exact h.elim
  | cons q1 qs =>
    cases qs with
    | cons _ _ => exact h.elim
    | nil =>
      obtain ⟨di, ei, h⟩ := wd_out h
      cases di <;> first | exact h.elim | skip
      rename_i j
      obtain ⟨dl, el, h⟩ := wd_out h
      cases dl <;> first | exact h.elim | skip
      rename_i ds
      obtain ⟨ns, en, h⟩ := wo_out h
      obtain ⟨a, ws, rfl, z1, z2⟩ := q.lst R el
      rw [intsOf_out en] at z2
      have := z2.ints
      subst this
      exact ⟨a, ns, j, rfl, by rw [q1.int R ei], z1, k (.val _) _ _ _ R (.refl R) rvI h⟩
/-- text methods that need no heap -/
def mS2 (g : Str → Str → D) : M3 := fun r rs ρ Q => match rs with
  | [x] => wd x ρ fun dx => wd r ρ fun dr => match dr, dx with
    | .str a, .str b => Q (.val (g a b)) ρ
    | _, _ => False
  | _ => False
theorem simS2 {g : Str → Str → V} {g3 : Str → Str → D} (hg : ∀ a b H U, Rp K H U (g3 a b) (g a b)) : SimM K (fun x xs H Q => ∃ a b, x = .str a ∧ xs = [.str b] ∧ Q (g a b) H) (mS2 g3) := by
  intro F U ρ σ H x vs rx rs Q3 Q2 e R q qs h k
  unfold mS2 at h
  cases qs with
  | nil => exact h.elim
  | cons q1 qs =>
    cases qs with
    | cons _ _ => exact h.elim
    | nil =>
      obtain ⟨dx, ex, h⟩ := wd_out h
      obtain ⟨dr, er, h⟩ := wd_out h
      cases dr <;> first | exact h.elim | skip
      cases dx <;> first | exact h.elim | skip
      exact ⟨_, _, q.str R er, by rw [q1.str R ex], k (.val _) _ _ _ R (.refl R) (show Rp F.K H U _ _ by rw [e]; exact hg _ _ H U) h⟩
/-- sep.join(a list or a tuple of texts) -/
def D.strsOf : List D → Option (List Str)
  | [] => some []
  | .str i :: ds => (D.strsOf ds).map (i :: ·)
  | _ :: _ => none
theorem strsOf_out : ∀ {ds : List D} {ns : List Str}, D.strsOf ds = some ns → ds = ns.map D.str
  | [], ns, h => by cases h; rfl
  | d :: ds, ns, h => by
    cases d <;> first | (cases h; done) | skip
    have h : (D.strsOf ds).map _ = some ns := h
    cases e : D.strsOf ds with
    | none => rw [e] at h; cases h
    | some r => rw [e] at h; cases h; rw [strsOf_out e]; rfl
theorem strsOf_map : ∀ ns : List Str, D.strsOf (ns.map D.str) = some ns
  | [] => rfl
  | n :: ns => by show (D.strsOf (ns.map D.str)).map _ = _; rw [strsOf_map ns]; rfl

/-! ### stores -/
/-- o[i] = e, o an owned list -/
def sPut (f fo fi : T3E) : T3S := fun E ρ => f ρ fun r ρ1 => fo ρ1 fun o ρ2 => fi ρ2 fun i ρ3 => match r with
  | .val d => wd i ρ3 fun di => match di with
    | .int n => ww o ρ3 fun dl up => match dl with
      | .lst ds => wo (ixN ds.length n) fun j => E.nx (up (.lst (ds.set j d)))
      | _ => False
    | _ => False
  | _ => False
theorem simPut {t to ti : TE} {f fo fi : T3E} (h : SimE K t f) (ho : SimE K to fo) (hi : SimE K ti fi) : SimS K (tAsg t (gSub to ti rSetL)) (sPut f fo fi) := by
  intro F U ρ σ H D3 D2 e R q k
  refine h F U ρ σ H _ _ e R q fun r v ρ1 H1 R1 s1 q1 h1 => ?_
  refine ho F U ρ1 σ H1 _ _ e R1 h1 fun o vo ρ2 H2 R2 s2 q2 h2 => ?_
  refine hi F U ρ2 σ H2 _ _ e R2 h2 fun i vi ρ3 H3 R3 s3 q3 h3 => ?_
  cases r with
  | sl _ => exact h3.elim
  | bx _ _ _ => exact h3.elim
  | val d =>
    obtain ⟨di, ei, h3⟩ := wd_out h3
    cases di <;> first | exact h3.elim | skip
    rename_i n
    obtain ⟨dl, up, a, rfl, u, t', wr, h3⟩ := ww_out R3 (q2.pres (s3.pres R2)) h3
    cases dl <;> first | exact h3.elim | skip
    rename_i ds
    obtain ⟨j, ej, h3⟩ := wo_out h3
    obtain ⟨ws, z1, z2⟩ := t'
    have rd : Rp F.K H3 U d v := Rp.pres (s3.pres R2) _ _ (Rp.pres (s2.pres R1) _ _ q1)
    obtain ⟨R', S'⟩ := wr (lstW R3 u (z2.set j rd))
    exact ⟨a, ws, n, j, rfl, q3.int R3 ei, z1, by rw [z2.len]; exact ej, k.nx _ _ _ _ R' h3⟩

/-! ### dicts with keys that are ints and texts -/
def D.key : D → Option Key
  | .int i => some (.inl i)
  | .str s => some (.inr s)
  | _ => none
theorem key_out {d : D} {k : Key} (h : d.key = some k) {v : V} (r : Rp K H U d v) : v = kV k := by
  cases d <;> first | cases h | skip
  · simp only [Rp] at r; rw [r]; rfl
  · simp only [Rp] at r; rw [r]; rfl
def getD' (kvs : List (Key × D)) (k : Key) : Option D := (kvs.find? fun kv => decide (kv.1 = k)).map (·.2)
def putD (kvs : List (Key × D)) (k : Key) (d : D) : List (Key × D) :=
  if (kvs.any fun kv => decide (kv.1 = k)) = true then kvs.map (fun kv => if kv.1 = k then (kv.1, d) else kv) else kvs ++ [(k, d)]
theorem RpK.get : ∀ {ds : List (Key × D)} {vs : List (Key × V)} (k : Key), RpK K H U ds vs → (getD' ds k = none ∧ valV vs k = none) ∨ ∃ d v, getD' ds k = some d ∧ valV vs k = some v ∧ Rp K H U d v
  | [], _, k, h => by simp only [RpK] at h; subst h; exact .inl ⟨rfl, rfl⟩
  | (k', d) :: ds, _, k, h => by
    simp only [RpK] at h
    obtain ⟨v, r, rfl, h1, h2⟩ := h
    by_cases e : k' = k
    · exact .inr ⟨d, v, by simp [getD', List.find?_cons, e], by simp [valV, List.find?_cons, e], h1⟩
    · have a : getD' ((k', d) :: ds) k = getD' ds k := by simp [getD', List.find?_cons, e]
      have b : valV ((k', v) :: r) k = valV r k := by simp [valV, List.find?_cons, e]
      rw [a, b]
      exact RpK.get k h2
theorem RpK.any : ∀ {ds : List (Key × D)} {vs : List (Key × V)} (k : Key), RpK K H U ds vs → (ds.any fun kv => decide (kv.1 = k)) = (vs.any fun kv => decide (kv.1 = k))
  | [], _, k, h => by simp only [RpK] at h; subst h; rfl
  | (k', d) :: ds, _, k, h => by
    simp only [RpK] at h
    obtain ⟨v, r, rfl, h1, h2⟩ := h
    rw [List.any_cons, List.any_cons, RpK.any k h2]
theorem RpK.map : ∀ {ds : List (Key × D)} {vs : List (Key × V)} (k : Key) {d : D} {v : V}, RpK K H U ds vs → Rp K H U d v → RpK K H U (ds.map fun kv => if kv.1 = k then (kv.1, d) else kv) (vs.map fun kv => if kv.1 = k then (kv.1, v) else kv)
  | [], _, k, d, v, h, _ => by simp only [RpK] at h; subst h; simp only [List.map_nil, RpK]
  | (k', d') :: ds, _, k, d, v, h, q => by
    simp only [RpK] at h
    obtain ⟨v', r, rfl, h1, h2⟩ := h
    rw [List.map_cons, List.map_cons]
    by_cases e : k' = k
    · rw [if_pos e, if_pos e]
      simp only [RpK]
      exact ⟨v, _, rfl, q, RpK.map k h2 q⟩
    · rw [if_neg e, if_neg e]
      simp only [RpK]
      exact ⟨v', _, rfl, h1, RpK.map k h2 q⟩
theorem RpK.snoc : ∀ {ds : List (Key × D)} {vs : List (Key × V)} (k : Key) {d : D} {v : V}, RpK K H U ds vs → Rp K H U d v → RpK K H U (ds ++ [(k, d)]) (vs ++ [(k, v)])
  | [], _, k, d, v, h, q => by simp only [RpK] at h; subst h; simp only [List.nil_append, RpK]; exact ⟨v, [], rfl, q, rfl⟩
  | (k', d') :: ds, _, k, d, v, h, q => by
    simp only [RpK] at h
    obtain ⟨v', r, rfl, h1, h2⟩ := h
    simp only [List.cons_append, RpK]
    exact ⟨v', _, rfl, h1, RpK.snoc k h2 q⟩
theorem RpK.put {ds : List (Key × D)} {vs : List (Key × V)} (k : Key) {d : D} {v : V} (h : RpK K H U ds vs) (q : Rp K H U d v) : RpK K H U (putD ds k d) (putK vs k v) := by
  unfold putD putK
  rw [RpK.any k h]
  by_cases e : (vs.any fun kv => decide (kv.1 = k)) = true
  · rw [if_pos e, if_pos e]; exact RpK.map k h q
  · rw [if_neg e, if_neg e]; exact RpK.snoc k h q
theorem RpK.len : ∀ {ds : List (Key × D)} {vs : List (Key × V)}, RpK K H U ds vs → vs.length = ds.length
  | [], _, h => by simp only [RpK] at h; rw [h]; rfl
  | (k, d) :: ds, _, h => by
    simp only [RpK] at h
    obtain ⟨v, r, rfl, _, h2⟩ := h
    rw [List.length_cons, List.length_cons, RpK.len h2]
theorem RV.dic (R : Rel F U ρ σ H) {r : Rs} {v : V} {ds : List (Key × D)} (h : RV F U σ H r v) (e : r.dat ρ = some (.dic ds)) : ∃ a vs, v = .ref a ∧ Rd H a (.dK vs) ∧ RpK F.K H U ds vs := by
  rcases h.get R e with q | ⟨a, e, vs, q1, q2⟩
  · simp only [Rp] at q
    obtain ⟨a, vs, e, h1, _, h2⟩ := q
    exact ⟨a, vs, e, h1, h2⟩
  · exact ⟨a, vs, e, q1, q2⟩
/-- the dict and the key -/
def wdk (x y : Rs) (ρ : En) (k : List (Key × D) → Key → Prop) : Prop := wd x ρ fun dx => wd y ρ fun dy => match dx with
  | .dic kvs => wo dy.key fun j => k kvs j
  | _ => False
theorem wdk_out (R : Rel F U ρ σ H) {x y : Rs} {v w : V} {k : List (Key × D) → Key → Prop} (hx : RV F U σ H x v) (hy : RV F U σ H y w) (h : wdk x y ρ k) :
    ∃ a kvs vs j, v = .ref a ∧ Rd H a (.dK vs) ∧ RpK F.K H U kvs vs ∧ w = kV j ∧ k kvs j := by
  obtain ⟨dx, ex, h1⟩ := wd_out h
  obtain ⟨dy, ey, h2⟩ := wd_out h1
  clear h h1
  cases dx <;> first | exact h2.elim | skip
  rename_i kvs
  obtain ⟨j, ej, h⟩ := wo_out h2
  obtain ⟨a, vs, rfl, z1, z2⟩ := hx.dic R ex
  have : w = kV j := by
    cases dy <;> first | cases ej | skip
    · rw [hy.int R ey]; rfl
    · rw [hy.str R ey]; rfl
  exact ⟨a, kvs, vs, j, rfl, z1, z2, this, h⟩
/-- d[k] -/
def eDGet (fd fy : T3E) : T3E := fun ρ Q => fd ρ fun x ρ1 => fy ρ1 fun y ρ2 => wdk x y ρ2 fun kvs k => wo (getD' kvs k) fun d => Q (.val d) ρ2
theorem simDGet {td ty : TE} {fd fy : T3E} (h : SimE K td fd) (h' : SimE K ty fy) : SimE K (tDGet td ty) (eDGet fd fy) := by
  intro F U ρ σ H Q3 Q2 e R q k
  refine h F U ρ σ H _ _ e R q fun x v ρ1 H1 R1 s1 q1 h1 => ?_
  refine h' F U ρ1 σ H1 _ _ e R1 h1 fun y w ρ2 H2 R2 s2 q2 h2 => ?_
  obtain ⟨a, kvs, vs, j, rfl, z1, z2, rfl, h2⟩ := wdk_out R2 (q1.pres (s2.pres R1)) q2 h2
  obtain ⟨d, ed, h2⟩ := wo_out h2
  rcases z2.get j with ⟨n, _⟩ | ⟨d', v', n, ev, rv⟩
  · rw [n] at ed; cases ed
  · rw [n] at ed; cases ed
    exact ⟨a, v', rfl, .inl ⟨vs, j, z1, rfl, ev.symm⟩, k (.val d) v' ρ2 H2 R2 (s1.trans s2) rv h2⟩
def fDIn (neg : Bool) (fy fd : T3E) : T3E := fun ρ Q => fy ρ fun y ρ1 => fd ρ1 fun x ρ2 => wdk x y ρ2 fun kvs k => Q (.val (.bl (if neg then !(getD' kvs k).isSome else (getD' kvs k).isSome))) ρ2
theorem simDIn0 (neg : Bool) {td ty : TE} {fd fy : T3E} (h : SimE K td fd) (h' : SimE K ty fy) : SimE K (fun σ H Q => ty σ H fun y H1 => td σ H1 fun x H2 => ∃ a o, x = .ref a ∧ DGet H2 a y o ∧ Q (.bl (if neg then !o.isSome else o.isSome)) H2) (fDIn neg fy fd) := by
  intro F U ρ σ H Q3 Q2 e R q k
  refine h' F U ρ σ H _ _ e R q fun y w ρ1 H1 R1 s1 q1 h1 => ?_
  refine h F U ρ1 σ H1 _ _ e R1 h1 fun x v ρ2 H2 R2 s2 q2 h2 => ?_
  obtain ⟨a, kvs, vs, j, rfl, z1, z2, rfl, h2⟩ := wdk_out R2 q2 (q1.pres (s2.pres R1)) h2
  refine ⟨a, valV vs j, rfl, .inl ⟨vs, j, z1, rfl, rfl⟩, k (.val _) _ ρ2 H2 R2 (s1.trans s2) rvB ?_⟩
  rcases z2.get j with ⟨n, n'⟩ | ⟨d', v', n, ev, rv⟩
  · rw [n] at h2; rw [n']; exact h2
  · rw [n] at h2; rw [ev]; exact h2
theorem simDIn {td ty : TE} {fd fy : T3E} (h : SimE K td fd) (h' : SimE K ty fy) : SimE K (tDIn ty td) (fDIn false fy fd) := simDIn0 false h h'
theorem simDNotIn {td ty : TE} {fd fy : T3E} (h : SimE K td fd) (h' : SimE K ty fy) : SimE K (tDNotIn ty td) (fDIn true fy fd) := simDIn0 true h h'
/-- d.get(k, x) -/
def eDGet2 (fd fy fx : T3E) : T3E := fun ρ Q => fd ρ fun x ρ1 => wn x ρ1 fun dx => match dx with
  | .dic _ => fy ρ1 fun y ρ2 => fx ρ2 fun z ρ3 => match z with
    | .val dz => wdk x y ρ3 fun kvs k => Q (.val ((getD' kvs k).getD dz)) ρ3
    | _ => False
  | _ => False
theorem isD_of (R : Rel F U ρ σ H) {r : Rs} {v : V} {ds : List (Key × D)} (q : RV F U σ H r v) (e : r.datN ρ = some (.dic ds)) : ∃ a, v = .ref a ∧ ∃ vs, Rd H a (.dK vs) := by
  rcases q.getN R e with q | ⟨a, e, vs, q1, q2⟩
  · simp only [Rp] at q
    obtain ⟨a, vs, e, h1, _, h2⟩ := q
    exact ⟨a, e, vs, h1⟩
  · exact ⟨a, e, vs, .inl q1⟩
/-- d[k] = e, d an owned dict -/
def sDPutD (f fd fy : T3E) : T3S := fun E ρ => f ρ fun r ρ1 => fd ρ1 fun x ρ2 => fy ρ2 fun y ρ3 => match r with
  | .val d => wd y ρ3 fun dy => wo dy.key fun j => ww x ρ3 fun dx up => match dx with
    | .dic kvs => kvs.length < sizeLine ∧ E.nx (up (.dic (putD kvs j d)))
    | _ => False
  | _ => False
theorem simDPut {t td ty : TE} {f fd fy : T3E} (h : SimE K t f) (hd : SimE K td fd) (hy : SimE K ty fy) : SimS K (sDPut td ty t) (sDPutD f fd fy) := by
  intro F U ρ σ H D3 D2 e R q k
  refine h F U ρ σ H _ _ e R q fun r v ρ1 H1 R1 s1 q1 h1 => ?_
  refine hd F U ρ1 σ H1 _ _ e R1 h1 fun o vo ρ2 H2 R2 s2 q2 h2 => ?_
  refine hy F U ρ2 σ H2 _ _ e R2 h2 fun i vi ρ3 H3 R3 s3 q3 h3 => ?_
  cases r with
  | sl _ => exact h3.elim
  | bx _ _ _ => exact h3.elim
  | val d =>
    obtain ⟨di, ei, h3⟩ := wd_out h3
    obtain ⟨j, ej, h3⟩ := wo_out h3
    obtain ⟨dl, up, a, rfl, u, t', wr, h3⟩ := ww_out R3 (q2.pres (s3.pres R2)) h3
    cases dl <;> first | exact h3.elim | skip
    rename_i kvs
    obtain ⟨vs, z1, z2⟩ := t'
    have rd : Rp F.K H3 U d v := Rp.pres (s3.pres R2) _ _ (Rp.pres (s2.pres R1) _ _ q1)
    have ek : vi = kV j := by
      cases di <;> first | cases ej | skip
      · rw [q3.int R3 ei]; rfl
      · rw [q3.str R3 ei]; rfl
    have z3 : RpK F.K (upd H3 a (.dK (putK vs j v))) U (putD kvs j d) (putK vs j v) := RpK.pres (pres_w R3 u) _ _ (z2.put j rd)
    obtain ⟨R', S'⟩ := wr (d' := .dic (putD kvs j d)) ⟨_, upd_same, z3⟩
    exact ⟨a, _, rfl, .inl ⟨vs, j, z1, ek, by rw [z2.len]; exact h3.1, rfl⟩, k.nx _ _ _ _ R' h3.2⟩
end
end L3

set_option Elab.async false
set_option linter.all false
set_option maxRecDepth 100000
namespace L3
open PySem PySem.Spec L2

/-! ### calls: how a parameter is handed: shared; read (lent); changed in place; the same with boxes -/
inductive Md where
  | shr | brw | par | pab
  deriving DecidableEq
def Md.isW : Md → Bool
  | .par => true
  | .pab => true
  | _ => false
def Md.sl : Md → D → Sl
  | .shr, d => .shr d
  | .brw, d => .brw d
  | .par, d => .par d
  | .pab, d => .pab d
def noPab : List Md → Bool
  | [] => true
  | .pab :: _ => false
  | _ :: ms => noPab ms
theorem sl_isW {m : Md} {d : D} : (m.sl d).isW = m.isW := by cases m <;> rfl
/-- which addresses a call may change -/
def Wm (ms : List Md) (ds : List D) (vs : List V) : US := fun x => ∃ (i : Nat) (m : Md) (d : D) (v : V), ms[i]? = some m ∧ ds[i]? = some d ∧ vs[i]? = some v ∧ (m.sl d).reg (some v) x
def ArgOk (K : PySem.W.Frag) (H : Hp) (U W : US) : Md → D → V → Prop
  | .shr, d, v => Rp K H U d v
  | .brw, d, v => Rp K H U d v ∨ ∃ a, v = .ref a ∧ TopR K H U d a ∧ ∀ x, d.reg a x → ¬ W x
  | .par, d, v => SlotOk K H U (.par d) (some v)
  | .pab, d, v => SlotOk K H U (.pab d) (some v)
def Apart (ms : List Md) (ds : List D) (vs : List V) : Prop := ∀ (i j : Nat) (m m' : Md) (d d' : D) (v v' : V) (x : Addr), ms[i]? = some m → ms[j]? = some m' → ds[i]? = some d → ds[j]? = some d' → vs[i]? = some v → vs[j]? = some v' → (m.sl d).reg (some v) x → (m'.sl d').reg (some v') x → i = j
structure ArgsOk (K : PySem.W.Frag) (H : Hp) (U : US) (ms : List Md) (ds : List D) (vs : List V) : Prop where
  l1 : ms.length = vs.length
  l2 : ds.length = vs.length
  ok : ∀ (i : Nat) (m : Md) (d : D) (v : V), ms[i]? = some m → ds[i]? = some d → vs[i]? = some v → ArgOk K H U (Wm ms ds vs) m d v
  inj : Apart ms ds vs
  tr : ∀ a, U a → ∃ o, H a = some o
/-- how a call leaves the heap -/
structure After (K : PySem.W.Frag) (H : Hp) (U : US) (ms : List Md) (ds : List D) (vs : List V) (H' : Hp) (U' : US) (ds' : List D) : Prop where
  len : ds'.length = vs.length
  keep : ∀ a o, H a = some o → ¬ Wm ms ds vs a → H' a = some o
  ktr : ∀ a o, H a = some o → ∃ o', H' a = some o'
  shar : ∀ a o, H a = some o → ¬ U a → ¬ U' a
  up : ∀ a, U a → ¬ Wm ms ds vs a → U' a
  tr : ∀ a, U' a → ∃ o, H' a = some o
  par : ∀ (i : Nat) (m : Md) (v : V) (d : D), ms[i]? = some m → m.isW = true → vs[i]? = some v → ds'[i]? = some d → SlotOk K H' U' (m.sl d) (some v)
  reg : ∀ x, Wm ms ds' vs x → Wm ms ds vs x ∨ H x = none
  inj : Apart ms ds' vs
abbrev S3 := List D → (D → List D → Prop) → (D → List D → Prop) → Prop
/-- a def's promise over data, as a promise over the heap -/
def Lift (K : PySem.W.Frag) (ms : List Md) (sp : S3) : Sp := fun vs H Q _ => ∃ (U : US) (ds : List D) (QR QO : D → List D → Prop), ArgsOk K H U ms ds vs ∧ sp ds QR QO ∧
  (∀ v H' U' d ds', After K H U ms ds vs H' U' ds' → Rp K H' U' d v → QR d ds' → Q v H') ∧
  (∀ a H' U' d ds', After K H U ms ds vs H' U' ds' → TopW K H' U' d a → U' a → H a = none → QO d ds' → Q (.ref a) H')

section
variable {F : Fr} {U U2 : US} {ρ ρ' ρ2 : En} {σ σ2 : St} {H H' H2 : Hp} {K : PySem.W.Frag}

/-! ### the callee's side -/
def slots : List Md → List D → En
  | m :: ms, d :: ds => m.sl d :: slots ms ds
  | _, _ => []
/-- n: how many names have no argument -/
def startE (n : Nat) (ms : List Md) (ds : List D) : En := slots ms ds ++ List.replicate n .emp
/-- what the changed parameters hold at the end -/
def fin : List Md → List D → En → Option (List D)
  | [], [], _ => some []
  | .par :: ms, _ :: ds, .par d :: ρ => (fin ms ds ρ).map (d :: ·)
  | .pab :: ms, _ :: ds, .pab d :: ρ => (fin ms ds ρ).map (d :: ·)
  | .shr :: ms, d :: ds, _ :: ρ => (fin ms ds ρ).map (d :: ·)
  | .brw :: ms, d :: ds, _ :: ρ => (fin ms ds ρ).map (d :: ·)
  | _, _, _ => none
def endE (ms : List Md) (ds : List D) (QR QO : D → List D → Prop) : E3 :=
  { nx := fun ρ => wo (fin ms ds ρ) fun ds' => QR .non ds', rt := fun d ρ => wo (fin ms ds ρ) fun ds' => QR d ds', ro := fun d ρ => match noPab ms with
    | true => wo (fin ms ds ρ) fun ds' => QO d ds'
    | false => False }
theorem slots_len : ∀ {ms : List Md} {ds : List D}, ms.length = ds.length → (slots ms ds).length = ds.length
  | [], [], _ => rfl
  | m :: ms, d :: ds, h => by show (slots ms ds).length + 1 = _; rw [slots_len (Nat.succ.inj h)]; rfl
  | [], _ :: _, h => nomatch h
  | _ :: _, [], h => nomatch h
theorem slots_get : ∀ {ms : List Md} {ds : List D} {i : Nat} {s : Sl}, (slots ms ds)[i]? = some s → ∃ m d, ms[i]? = some m ∧ ds[i]? = some d ∧ s = m.sl d
  | [], _, i, s, h => by simp [slots] at h
  | _ :: _, [], i, s, h => by simp [slots] at h
  | m :: ms, d :: ds, 0, s, h => by
    simp [slots] at h
    exact ⟨m, d, rfl, rfl, h.symm⟩
  | m :: ms, d :: ds, i + 1, s, h => by
    have h : (slots ms ds)[i]? = some s := by simpa [slots] using h
    obtain ⟨m', d', h1, h2, h3⟩ := slots_get h
    exact ⟨m', d', by simpa using h1, by simpa using h2, h3⟩
theorem startE_get {n : Nat} {ms : List Md} {ds : List D} (hl : ms.length = ds.length) {i : Nat} {s : Sl} (h : (startE n ms ds)[i]? = some s) : (s = .emp ∧ ds.length ≤ i) ∨ ∃ m d, ms[i]? = some m ∧ ds[i]? = some d ∧ s = m.sl d := by
  unfold startE at h
  by_cases hi : i < (slots ms ds).length
  · rw [List.getElem?_append_left hi] at h
    exact .inr (slots_get h)
  · rw [List.getElem?_append_right (by omega)] at h
    refine .inl ⟨?_, by rw [slots_len hl] at hi; omega⟩
    exact List.eq_of_mem_replicate (List.mem_of_getElem? h)
theorem start_get {N : List Str} {vs : List V} {i : Nat} {o : Option V} (h : (L2.start N vs)[i]? = some o) : (o = none ∧ vs.length ≤ i) ∨ ∃ v, o = some v ∧ vs[i]? = some v := by
  unfold L2.start at h
  by_cases hi : i < (vs.map some).length
  · rw [List.getElem?_append_left hi, List.getElem?_map] at h
    cases e : vs[i]? with
    | none => rw [e] at h; cases h
    | some v => rw [e] at h; exact .inr ⟨v, (Option.some.inj h).symm, rfl⟩
  · rw [List.getElem?_append_right (by omega)] at h
    exact .inl ⟨List.eq_of_mem_replicate (List.mem_of_getElem? h), by rw [List.length_map] at hi; omega⟩
theorem start_arg {N : List Str} {vs : List V} {i : Nat} {v : V} (h : vs[i]? = some v) : (L2.start N vs)[i]? = some (some v) := by
  unfold L2.start
  have hi : i < vs.length := (List.getElem?_eq_some_iff.mp h).1
  rw [List.getElem?_append_left (by rw [List.length_map]; exact hi), List.getElem?_map, h]; rfl
/-- the callee's frame -/
def frE (K : PySem.W.Frag) (H : Hp) (U : US) (ρ : En) (σ : St) : Fr := ⟨K, H, U, Own ρ σ, σ, fun i l => ∃ s : Sl, ρ[i]? = some s ∧ s.lk = some l⟩
theorem start_in {N : List Str} {n : Nat} {ms : List Md} {ds : List D} {vs : List V} (l1 : ms.length = vs.length) (l2 : ds.length = vs.length) {i : Nat} {s : Sl} {o : Option V} (h1 : (startE n ms ds)[i]? = some s) (h2 : (L2.start N vs)[i]? = some o) :
    s = .emp ∨ ∃ m d v, ms[i]? = some m ∧ ds[i]? = some d ∧ vs[i]? = some v ∧ s = m.sl d ∧ o = some v := by
  rcases startE_get (l1.trans l2.symm) h1 with ⟨rfl, _⟩ | ⟨m, d, g1, g2, rfl⟩
  · exact .inl rfl
  · rcases start_get h2 with ⟨_, z⟩ | ⟨v, z, z2⟩
    · have := (List.getElem?_eq_some_iff.mp g2).1
      omega
    · exact .inr ⟨m, d, v, g1, g2, z2, rfl, z⟩
theorem own_start {N : List Str} {n : Nat} {ms : List Md} {ds : List D} {vs : List V} (A : ArgsOk K H U ms ds vs) {a : Addr} (h : Own (startE n ms ds) (L2.start N vs) a) : Wm ms ds vs a := by
  obtain ⟨i, s, o, h1, h2, h3⟩ := h
  rcases start_in A.l1 A.l2 h1 h2 with rfl | ⟨m, d, v, g1, g2, g3, rfl, rfl⟩
  · exact absurd h3 (reg_noW rfl)
  · exact ⟨i, m, d, v, g1, g2, g3, h3⟩
theorem Rel.enter {N : List Str} {n : Nat} {ms : List Md} {ds : List D} {vs : List V} (A : ArgsOk K H U ms ds vs) (hn : N.length = vs.length + n) : Rel (frE K H U (startE n ms ds) (L2.start N vs)) U (startE n ms ds) (L2.start N vs) H := by
  have hl : ms.length = ds.length := A.l1.trans A.l2.symm
  have slot : ∀ (i : Nat) (s : Sl) (o : Option V), (startE n ms ds)[i]? = some s → (L2.start N vs)[i]? = some o → SlotOk K H U s o := fun i s o h1 h2 => by
    rcases start_in A.l1 A.l2 h1 h2 with rfl | ⟨m, d, v, g1, g2, g3, rfl, rfl⟩
    · trivial
    · have z := A.ok i m d v g1 g2 g3
      cases m with
      | shr => exact ⟨v, rfl, z⟩
      | brw => trivial
      | par => exact z
      | pab => exact z
  refine ⟨?_, slot, fun i d o h1 h2 => ?_, fun i j s t o o' x h1 h2 h3 h4 h5 h6 => ?_, A.tr, fun _ _ h _ => h, fun _ o h => ⟨o, h⟩, fun _ _ _ z => z, fun _ h _ => h, fun _ h => .inl h, fun i s l h q => ⟨⟨s, h, q⟩, rfl⟩, fun a h => ?_, fun j d h => ?_, A.tr⟩
  · unfold startE L2.start
    rw [List.length_append, List.length_append, List.length_replicate, List.length_replicate, List.length_map, slots_len hl, A.l2, hn]
    omega
  · rcases start_in A.l1 A.l2 h1 h2 with z | ⟨m, d', v, g1, g2, g3, z, rfl⟩
    · cases z
    · cases m <;> first | cases z | skip
      rcases A.ok i _ _ _ g1 g2 g3 with z3 | ⟨a, ea, t, nW⟩
      · exact .inl ⟨v, rfl, z3⟩
      · exact .inr ⟨a, by rw [ea], t, fun x hx q => nW x hx (own_start A q)⟩
  · rcases start_in A.l1 A.l2 h1 h3 with rfl | ⟨m, d, v, g1, g2, g3, rfl, rfl⟩
    · exact absurd h5 (reg_noW rfl)
    · rcases start_in A.l1 A.l2 h2 h4 with rfl | ⟨m', d', v', k1, k2, k3, rfl, rfl⟩
      · exact absurd h6 (reg_noW rfl)
      · exact A.inj i j m m' d d' v v' x g1 k1 g2 k2 g3 k3 h5 h6
  · obtain ⟨i, s, o, h1, h2, h3⟩ := h
    exact (slot i s o h1 h2).regU h3
  · obtain ⟨s, h1, h2⟩ := h
    rcases startE_get hl h1 with ⟨rfl, _⟩ | ⟨m, d', g1, g2, rfl⟩
    · cases h2
    · cases m <;> first | (cases h2; done) | skip
      cases h2
      have hj : j < vs.length := by
        have := (List.getElem?_eq_some_iff.mp g2).1
        have := A.l2
        omega
      have hv : vs[j]? = some vs[j] := List.getElem?_eq_getElem hj
      rcases A.ok j _ _ _ g1 g2 hv with z | ⟨a, ea, t, _⟩
      · exact .inl ⟨_, start_arg hv, z⟩
      · exact .inr ⟨a, by rw [← ea]; exact start_arg hv, t.some⟩
theorem fin_len : ∀ {ms : List Md} {ds : List D} {ρ : En} {ds' : List D}, fin ms ds ρ = some ds' → ds'.length = ds.length
  | [], [], _, _, h => by cases h; rfl
  | [], _ :: _, _, _, h => by simp [fin] at h
  | m :: ms, [], ρ, _, h => by cases m <;> simp [fin] at h
  | m :: ms, d :: ds, [], _, h => by cases m <;> simp [fin] at h
  | m :: ms, d :: ds, s :: ρ, ds', h => by
    have go : ∀ {d' : D}, (fin ms ds ρ).map (d' :: ·) = some ds' → ds'.length = (d :: ds).length := fun {d'} h => by
      obtain ⟨r, e, rfl⟩ := Option.map_eq_some_iff.mp h
      rw [List.length_cons, List.length_cons, fin_len e]
    cases m with
    | shr => exact go h
    | brw => exact go h
    | par => cases s <;> first | exact go h | (simp [fin] at h)
    | pab => cases s <;> first | exact go h | (simp [fin] at h)
theorem fin_par : ∀ {ms : List Md} {ds : List D} {ρ : En} {ds' : List D} {i : Nat} {m : Md} {d : D}, fin ms ds ρ = some ds' → ms[i]? = some m → m.isW = true → ds'[i]? = some d → ρ[i]? = some (m.sl d)
  | [], _, _, _, i, _, _, h, e, _, _ => by simp at e
  | m :: ms, [], ρ, _, _, _, _, h, _, _, _ => by cases m <;> simp [fin] at h
  | m :: ms, d :: ds, [], _, _, _, _, h, _, _, _ => by cases m <;> simp [fin] at h
  | m :: ms, d :: ds, s :: ρ, ds', 0, m', d', h, e, w, e' => by
    have e : m = m' := by simpa using e
    subst e
    cases m <;> first | (cases w; done) | skip
    all_goals
      cases s <;> first | (simp [fin] at h; done) | skip
      obtain ⟨r, _, rfl⟩ := Option.map_eq_some_iff.mp (show (fin ms ds ρ).map _ = some ds' from h)
      simp at e'
      subst e'
      rfl
  | m :: ms, d :: ds, s :: ρ, ds', i + 1, m', d', h, e, w, e' => by
    have go : ∀ {d0 : D}, (fin ms ds ρ).map (d0 :: ·) = some ds' → (s :: ρ)[i + 1]? = some (m'.sl d') := fun {d0} h => by
      obtain ⟨r, er, rfl⟩ := Option.map_eq_some_iff.mp h
      have := fin_par (i := i) er (by simpa using e) w (by simpa using e')
      simpa using this
    cases m with
    | shr => exact go h
    | brw => exact go h
    | par => cases s <;> first | exact go h | (simp [fin] at h)
    | pab => cases s <;> first | exact go h | (simp [fin] at h)
theorem lk_sl {m : Md} {d : D} (w : m.isW = true) : (m.sl d).lk = some none := by cases m <;> first | rfl | cases w
theorem Rel.leave {N : List Str} {n : Nat} {ms : List Md} {ds ds' : List D} {vs : List V} (A : ArgsOk K H U ms ds vs) {U' : US} (R : Rel (frE K H U (startE n ms ds) (L2.start N vs)) U' ρ σ H') (e : fin ms ds ρ = some ds') : After K H U ms ds vs H' U' ds' := by
  have at_ : ∀ {i : Nat} {m : Md} {d : D} {v : V}, ms[i]? = some m → m.isW = true → vs[i]? = some v → ds'[i]? = some d → ρ[i]? = some (m.sl d) ∧ σ[i]? = some (some v) := fun {i m d v} h1 w h2 h3 => by
    have hp := fin_par e h1 w h3
    obtain ⟨_, el⟩ := R.lock i _ _ hp (lk_sl w)
    exact ⟨hp, el.trans (start_arg h2)⟩
  refine ⟨(fin_len e).trans A.l2, fun a o h n => R.keep a o h fun z => n (own_start A z), fun a o h => R.ktr a o h, fun a o h n => R.shar a o h n, fun a h n => R.up a h fun z => n (own_start A z), R.tr, fun i m v d h1 w h2 h3 => ?_, fun x ⟨i, m, d, v, h1, h2, h3, h4⟩ => ?_, fun i j m m' d d' v v' x h1 h2 h3 h4 h5 h6 h7 h8 => ?_⟩
  · obtain ⟨p1, p2⟩ := at_ h1 w h2 h3
    exact R.slot i _ _ p1 p2
  · obtain ⟨p1, p2⟩ := at_ h1 (sl_isW.symm.trans h4.1) h3 h2
    rcases R.new x ⟨i, _, _, p1, p2, h4⟩ with z | z
    · exact .inl (own_start A z)
    · exact .inr z
  · obtain ⟨p1, p2⟩ := at_ h1 (sl_isW.symm.trans h7.1) h5 h3
    obtain ⟨p3, p4⟩ := at_ h2 (sl_isW.symm.trans h8.1) h6 h4
    exact R.inj i j _ _ _ _ x p1 p3 p2 p4 h7 h8
theorem noPab_at : ∀ {ms : List Md} {i : Nat}, noPab ms = true → ms[i]? = some Md.pab → False
  | [], i, _, e => by simp at e
  | m :: ms, 0, h, e => by simp at e; subst e; cases h
  | m :: ms, i + 1, h, e => by
    refine noPab_at (ms := ms) (i := i) ?_ (by simpa using e)
    cases m <;> first | exact h | cases h
/-- a def by its body, over data -/
theorem body3 {t2 : TS} {t3 : T3S} {ms : List Md} {sp : S3} {N : List Str} {n : Nat} (hs : SimS K t2 t3) (hn : N.length = ms.length + n) (hb : ∀ ds QR QO, sp ds QR QO → ds.length = ms.length → t3 (endE ms ds QR QO) (startE n ms ds)) :
    ∀ vs H Q E, Lift K ms sp vs H Q E → t2 { nx := fun _ H' => Q .non H', rt := Q } (L2.start N vs) H := by
  intro vs H Q E ⟨U, ds, QR, QO, A, h, h1, h2⟩
  have R := Rel.enter (N := N) (n := n) A (by rw [hn, A.l1])
  refine hs _ U _ _ H (endE ms ds QR QO) _ rfl R (hb ds QR QO h (A.l2.trans A.l1.symm)) ⟨fun U' ρ' σ' H' R' q => ?_, fun _ _ _ _ _ q => q.elim, fun _ _ _ _ _ q => q.elim, fun U' ρ' σ' H' d v R' rp q => ?_, fun U' ρ' σ' H' d a i R' e1 e2 q => ?_, fun U' ρ' σ' H' d a R' f q => ?_⟩
  · obtain ⟨ds', e, q⟩ := wo_out q
    exact h1 .non H' U' .non ds' (R'.leave A e) rp_non q
  · obtain ⟨ds', e, q⟩ := wo_out q
    exact h1 v H' U' d ds' (R'.leave A e) rp q
  · have q : (match noPab ms with | true => wo (fin ms ds ρ') fun ds' => QO d ds' | false => False) := q
    cases np : noPab ms with
    | false => rw [np] at q; exact q.elim
    | true =>
      rw [np] at q
      obtain ⟨ds', e, q⟩ := wo_out q
      obtain ⟨b, eb, u, t⟩ := R'.slot i _ _ e1 e2
      cases eb
      refine h2 a H' U' d ds' (R'.leave A e) t u ?_ q
      rcases R'.new a (Own.root e1 rfl e2) with z | z
      · exfalso
        obtain ⟨j, m, dj, v, k1, k2, k3, k4⟩ := own_start A z
        have w : m.isW = true := sl_isW.symm.trans k4.1
        cases m <;> first | (cases w; done) | exact noPab_at np k1 | skip
        -- the changed parameter still holds a; an owned slot with the same address would be that slot
        have hv : v = .ref a := by
          rcases k4.2 with z | z
          · cases z; rfl
          · cases z
        subst hv
        have hl : j < ds'.length := by
          have := (List.getElem?_eq_some_iff.mp k2).1
          rw [fin_len e]; exact this
        have hp := fin_par e k1 rfl (List.getElem?_eq_getElem hl)
        obtain ⟨_, el⟩ := R'.lock j _ _ hp rfl
        have el : σ'[j]? = some (some (.ref a)) := el.trans (start_arg k3)
        have := R'.inj i j _ _ _ _ a e1 hp e2 el ⟨rfl, .inl rfl⟩ ⟨rfl, .inl rfl⟩
        subst this
        rw [e1] at hp; cases hp
      · exact z
  · have q : (match noPab ms with | true => wo (fin ms ds ρ') fun ds' => QO d ds' | false => False) := q
    cases np : noPab ms with
    | false => rw [np] at q; exact q.elim
    | true =>
      rw [np] at q
      obtain ⟨ds', e, q⟩ := wo_out q
      exact h2 a H' U' d ds' (R'.leave A e) f.top f.u f.new q

/-! ### the caller's side -/
def argD : Md → Rs → En → Option D
  | .shr, .val d, _ => some d
  | .brw, .val d, _ => some d
  | .brw, .sl i, ρ => (Rs.sl i).dat ρ
  | .par, .sl i, ρ => match ρ[i]? with
    | some (.own d) => some d
    | some (.par d) => some d
    | _ => none
  | .pab, .sl i, ρ => match ρ[i]? with
    | some (.owb d) => some d
    | some (.pab d) => some d
    | _ => none
  | _, _, _ => none
def argsD : List Md → List Rs → En → Option (List D)
  | [], [], _ => some []
  | m :: ms, r :: rs, ρ => match argD m r ρ, argsD ms rs ρ with
    | some d, some ds => some (d :: ds)
    | _, _ => none
  | _, _, _ => none
/-- the slots that are changed; the others that are handed -/
def parN : List Md → List Rs → List Nat
  | .par :: ms, .sl i :: rs => i :: parN ms rs
  | .pab :: ms, .sl i :: rs => i :: parN ms rs
  | _ :: ms, _ :: rs => parN ms rs
  | _, _ => []
def brwN : List Md → List Rs → List Nat
  | .brw :: ms, .sl i :: rs => i :: brwN ms rs
  | _ :: ms, _ :: rs => brwN ms rs
  | _, _ => []
def apart (ms : List Md) (rs : List Rs) : Bool := decide (parN ms rs).Nodup && (parN ms rs).all fun i => !(brwN ms rs).contains i
def updI (ρ : En) (i : Nat) (d : D) : En := match ρ[i]? with
  | some (.own _) => ρ.set i (.own d)
  | some (.par _) => ρ.set i (.par d)
  | some (.owb _) => ρ.set i (.owb d)
  | some (.pab _) => ρ.set i (.pab d)
  | _ => ρ
/-- after the call -/
def updE : List Md → List Rs → List D → En → En
  | .par :: ms, .sl i :: rs, d :: ds, ρ => updE ms rs ds (updI ρ i d)
  | .pab :: ms, .sl i :: rs, d :: ds, ρ => updE ms rs ds (updI ρ i d)
  | _ :: ms, _ :: rs, _ :: ds, ρ => updE ms rs ds ρ
  | _, _, _, ρ => ρ
theorem argsD_out : ∀ {ms : List Md} {rs : List Rs} {ds : List D}, argsD ms rs ρ = some ds → ms.length = rs.length ∧ ds.length = rs.length ∧ ∀ (i : Nat) (m : Md) (d : D) (r : Rs), ms[i]? = some m → ds[i]? = some d → rs[i]? = some r → argD m r ρ = some d
  | [], [], ds, h => by cases h; exact ⟨rfl, rfl, fun i _ _ _ h => by simp at h⟩
  | [], _ :: _, _, h => by simp [argsD] at h
  | _ :: _, [], _, h => by simp [argsD] at h
  | m :: ms, r :: rs, ds, h => by
    unfold argsD at h
    split at h
    · rename_i d ds0 e1 e2
      cases h
      obtain ⟨l1, l2, g⟩ := argsD_out e2
      refine ⟨by simp [l1], by simp [l2], fun i m' d' r' h1 h2 h3 => ?_⟩
      cases i with
      | zero => simp at h1 h2 h3; subst h1; subst h2; subst h3; exact e1
      | succ i => exact g i m' d' r' (by simpa using h1) (by simpa using h2) (by simpa using h3)
    · cases h
theorem RVs.len {rs : List Rs} {vs : List V} (h : RVs F U σ H rs vs) : rs.length = vs.length := by
  induction h with
  | nil => rfl
  | cons _ _ ih => rw [List.length_cons, List.length_cons, ih]
theorem RVs.at {rs : List Rs} {vs : List V} (h : RVs F U σ H rs vs) : ∀ {i : Nat} {v : V}, vs[i]? = some v → ∃ r, rs[i]? = some r ∧ RV F U σ H r v := by
  induction h with
  | nil => intro i v e; simp at e
  | cons h _ ih =>
    intro i v e
    cases i with
    | zero => simp at e; subst e; exact ⟨_, rfl, h⟩
    | succ i => obtain ⟨r, e1, e2⟩ := ih (by simpa using e); exact ⟨r, by simpa using e1, e2⟩
theorem parN_mem : ∀ {ms : List Md} {rs : List Rs} {i j : Nat} {m : Md}, ms[i]? = some m → m.isW = true → rs[i]? = some (Rs.sl j) → j ∈ parN ms rs
  | [], _, i, j, _, h, _, _ => by simp at h
  | _ :: _, [], i, j, _, _, _, h => by simp at h
  | m :: ms, r :: rs, 0, j, m', h, w, h' => by simp at h h'; subst h; subst h'; cases m <;> first | (cases w; done) | simp [parN]
  | m :: ms, r :: rs, i + 1, j, m', h, w, h' => by
    have z := parN_mem (ms := ms) (rs := rs) (i := i) (by simpa using h) w (by simpa using h')
    cases m <;> cases r <;> simp [parN, z]
theorem parN_ex : ∀ {ms : List Md} {rs : List Rs} {j : Nat}, j ∈ parN ms rs → ∃ (i : Nat) (m : Md), ms[i]? = some m ∧ m.isW = true ∧ rs[i]? = some (Rs.sl j)
  | [], _, j, h => by simp [parN] at h
  | m :: ms, [], j, h => by cases m <;> simp [parN] at h
  | m :: ms, r :: rs, j, h => by
    have go : j ∈ parN ms rs → ∃ (i : Nat) (m' : Md), (m :: ms)[i]? = some m' ∧ m'.isW = true ∧ (r :: rs)[i]? = some (Rs.sl j) := fun h => by
      obtain ⟨i, m', h1, h2, h3⟩ := parN_ex h
      exact ⟨i + 1, m', by simpa using h1, h2, by simpa using h3⟩
    have hd : ∀ {k : Nat}, m.isW = true → r = .sl k → j ∈ k :: parN ms rs → ∃ (i : Nat) (m' : Md), (m :: ms)[i]? = some m' ∧ m'.isW = true ∧ (r :: rs)[i]? = some (Rs.sl j) := fun {k} w er h => by
      rcases List.mem_cons.mp h with e | h
      · subst e; subst er; exact ⟨0, m, rfl, w, rfl⟩
      · exact go h
    cases m <;> cases r <;> first | exact go h | exact hd rfl rfl h
theorem brwN_mem : ∀ {ms : List Md} {rs : List Rs} {i j : Nat}, ms[i]? = some Md.brw → rs[i]? = some (Rs.sl j) → j ∈ brwN ms rs
  | [], _, i, j, h, _ => by simp at h
  | _ :: _, [], i, j, _, h => by simp at h
  | m :: ms, r :: rs, 0, j, h, h' => by simp at h h'; subst h; subst h'; simp [brwN]
  | m :: ms, r :: rs, i + 1, j, h, h' => by
    have z := brwN_mem (ms := ms) (rs := rs) (i := i) (by simpa using h) (by simpa using h')
    cases m <;> cases r <;> simp [brwN, z]
theorem parN_tail {m : Md} {r : Rs} {ms : List Md} {rs : List Rs} (n : (parN (m :: ms) (r :: rs)).Nodup) : (parN ms rs).Nodup := by
  cases m <;> cases r <;> first | exact n | exact (List.nodup_cons.mp n).2
theorem parN_head {m : Md} {j : Nat} {ms : List Md} {rs : List Rs} (w : m.isW = true) : parN (m :: ms) (.sl j :: rs) = j :: parN ms rs := by
  cases m <;> first | rfl | cases w
theorem parN_inj : ∀ {ms : List Md} {rs : List Rs} {i j k : Nat} {m m' : Md}, (parN ms rs).Nodup → ms[i]? = some m → ms[j]? = some m' → m.isW = true → m'.isW = true → rs[i]? = some (Rs.sl k) → rs[j]? = some (Rs.sl k) → i = j
  | [], _, i, j, k, _, _, _, h, _, _, _, _, _ => by simp at h
  | _ :: _, [], i, j, k, _, _, _, _, _, _, _, h, _ => by simp at h
  | m :: ms, r :: rs, 0, 0, k, _, _, _, _, _, _, _, _, _ => rfl
  | m :: ms, r :: rs, 0, j + 1, k, _, _, n, h1, h2, w1, w2, h3, h4 => by
    simp at h1 h3; subst h1; subst h3
    have z := parN_mem (ms := ms) (rs := rs) (i := j) (by simpa using h2) w2 (by simpa using h4)
    rw [parN_head w1] at n
    exact absurd z (List.nodup_cons.mp n).1
  | m :: ms, r :: rs, i + 1, 0, k, _, _, n, h1, h2, w1, w2, h3, h4 => by
    simp at h2 h4; subst h2; subst h4
    have z := parN_mem (ms := ms) (rs := rs) (i := i) (by simpa using h1) w1 (by simpa using h3)
    rw [parN_head w2] at n
    exact absurd z (List.nodup_cons.mp n).1
  | m :: ms, r :: rs, i + 1, j + 1, k, _, _, n, h1, h2, w1, w2, h3, h4 =>
    congrArg (· + 1) (parN_inj (i := i) (j := j) (k := k) (parN_tail n) (by simpa using h1) (by simpa using h2) w1 w2 (by simpa using h3) (by simpa using h4))
theorem apart_out {ms : List Md} {rs : List Rs} (h : apart ms rs = true) : (parN ms rs).Nodup ∧ ∀ i, i ∈ parN ms rs → i ∉ brwN ms rs := by
  unfold apart at h
  rw [Bool.and_eq_true, decide_eq_true_eq, List.all_eq_true] at h
  exact ⟨h.1, fun i hi => by simpa using h.2 i hi⟩
/-- a written slot and the mode in which it is handed -/
structure Kin (m : Md) (s : Sl) : Prop where
  w : s.isW = true
  mw : m.isW = true
  ok : ∀ {K : PySem.W.Frag} {H : Hp} {U : US} {d : D} {o : Option V}, SlotOk K H U (m.sl d) o → SlotOk K H U (s.upd d) o
  ko : ∀ {K : PySem.W.Frag} {H : Hp} {U : US} {d : D} {o : Option V}, SlotOk K H U (s.upd d) o → SlotOk K H U (m.sl d) o
  bx : ∀ d, (m.sl d).bxs = (s.upd d).bxs
theorem Kin.reg {m : Md} {s : Sl} (k : Kin m s) {d : D} {o : Option V} {x : Addr} : (m.sl d).reg o x ↔ (s.upd d).reg o x := by
  unfold Sl.reg
  rw [k.bx, isW_upd, k.w, sl_isW, k.mw]
theorem upd_dat {s : Sl} {d : D} (w : s.isW = true) (h : s.dat = some d) : s.upd d = s := by cases s <;> first | (cases w; done) | (cases h; rfl)
/-- a changed argument: its slot -/
theorem par_slot (R : Rel F U ρ σ H) {m : Md} {r : Rs} {v : V} {d : D} (mw : m.isW = true) (e : argD m r ρ = some d) (q : RV F U σ H r v) : ∃ i s, r = .sl i ∧ ρ[i]? = some s ∧ s.dat = some d ∧ σ[i]? = some (some v) ∧ Kin m s := by
  cases m <;> first | (cases mw; done) | skip
  · cases r with
    | sl i =>
      have e : (match ρ[i]? with | some (.own d) => some d | some (.par d) => some d | _ => none) = some d := e
      cases hs : ρ[i]? with
      | none => rw [hs] at e; cases e
      | some s =>
        rw [hs] at e
        cases s with
        | own d => cases e; exact ⟨i, _, rfl, hs, rfl, q, rfl, rfl, fun h => h, fun h => h, fun _ => rfl⟩
        | par d => cases e; exact ⟨i, _, rfl, hs, rfl, q, rfl, rfl, fun h => h, fun h => h, fun _ => rfl⟩
        | _ => cases e
    | _ => cases e
  · cases r with
    | sl i =>
      have e : (match ρ[i]? with | some (.owb d) => some d | some (.pab d) => some d | _ => none) = some d := e
      cases hs : ρ[i]? with
      | none => rw [hs] at e; cases e
      | some s =>
        rw [hs] at e
        cases s with
        | owb d => cases e; exact ⟨i, _, rfl, hs, rfl, q, rfl, rfl, fun h => h, fun h => h, fun _ => rfl⟩
        | pab d => cases e; exact ⟨i, _, rfl, hs, rfl, q, rfl, rfl, fun h => h, fun h => h, fun _ => rfl⟩
        | _ => cases e
    | _ => cases e
theorem args_ok (R : Rel F U ρ σ H) {ms : List Md} {rs : List Rs} {vs : List V} {ds : List D} (q : RVs F U σ H rs vs) (e : argsD ms rs ρ = some ds) (ap : apart ms rs = true) :
    ArgsOk F.K H U ms ds vs ∧ ∀ a, Wm ms ds vs a → Own ρ σ a := by
  obtain ⟨l1, l2, g⟩ := argsD_out e
  obtain ⟨a1, a2⟩ := apart_out ap
  have parAt : ∀ {i : Nat} {m : Md} {d : D} {v : V}, ms[i]? = some m → m.isW = true → ds[i]? = some d → vs[i]? = some v → ∃ j s, rs[i]? = some (Rs.sl j) ∧ ρ[j]? = some s ∧ s.dat = some d ∧ σ[j]? = some (some v) ∧ Kin m s := fun {i m d v} h1 w h2 h3 => by
    obtain ⟨r, er, q1⟩ := q.at h3
    obtain ⟨j, s, rfl, z⟩ := par_slot R w (g i _ d r h1 h2 er) q1
    exact ⟨j, s, er, z⟩
  have own : ∀ a, Wm ms ds vs a → Own ρ σ a := fun a ⟨i, m, d, v, h1, h2, h3, h4⟩ => by
    obtain ⟨j, s, _, z1, z2, z3, k⟩ := parAt h1 (sl_isW.symm.trans h4.1) h2 h3
    have h4 := k.reg.mp h4
    rw [upd_dat k.w z2] at h4
    exact ⟨j, s, _, z1, z3, h4⟩
  refine ⟨⟨l1.trans q.len, l2.trans q.len, fun i m d v h1 h2 h3 => ?_, fun i j m m' d d' v v' x h1 h2 h3 h4 h5 h6 h7 h8 => ?_, R.tr⟩, own⟩
  · obtain ⟨r, er, q1⟩ := q.at h3
    have z := g i m d r h1 h2 er
    have wr : m.isW = true → SlotOk F.K H U (m.sl d) (some v) := fun w => by
      obtain ⟨j, s, rfl, z1, z2, z3, k⟩ := par_slot R w z q1
      have := R.slot j s _ z1 z3
      rw [← upd_dat k.w z2] at this
      exact k.ko this
    cases m with
    | shr =>
      cases r with
      | val d' => cases z; exact q1
      | _ => cases z
    | par => exact wr rfl
    | pab => exact wr rfl
    | brw =>
      cases r with
      | val d' => cases z; exact .inl q1
      | bx i f b => cases z
      | sl j =>
        have z : (Rs.sl j).dat ρ = some d := z
        rcases q1.get R z with w | ⟨a, rfl, t⟩
        · exact .inl w
        · have q1 : σ[j]? = some (some (.ref a)) := q1
          -- the lent slot: shared data, or an address that no changed slot holds
          have z : (match ρ[j]? with | some s => s.dat | none => none) = some d := z
          cases hs : ρ[j]? with
          | none => rw [hs] at z; cases z
          | some s =>
            rw [hs] at z
            have z : s.dat = some d := z
            cases w : s.isW with
            | true =>
              refine .inr ⟨a, rfl, t, fun x hx ⟨i', m', d', v', k1, k2, k3, k4⟩ => ?_⟩
              obtain ⟨j', s', y1, y2, y3, y4, k⟩ := parAt k1 (sl_isW.symm.trans k4.1) k2 k3
              have k4 := k.reg.mp k4
              rw [upd_dat k.w y3] at k4
              have := R.inj j j' _ _ _ _ x hs y2 q1 y4 (dat_reg w z (R.slot j s _ hs q1) hx) k4
              subst this
              exact a2 j (parN_mem k1 k.mw y1) (brwN_mem h1 er)
            | false =>
              cases s <;> first | (cases w; done) | skip
              · cases z
              · cases z
                obtain ⟨v', e', w⟩ := R.slot j _ _ hs q1
                cases e'; exact .inl w
              · cases z
                rcases R.bor j d _ hs q1 with ⟨v', e', w⟩ | ⟨b, e', t', no⟩
                · cases e'; exact .inl w
                · cases e'; exact .inr ⟨a, rfl, t', fun x hx z => no x hx (own x z)⟩
  · obtain ⟨j1, s1, k1, k2, k3, k4, c1⟩ := parAt h1 (sl_isW.symm.trans h7.1) h3 h5
    obtain ⟨j2, s2, k5, k6, k7, k8, c2⟩ := parAt h2 (sl_isW.symm.trans h8.1) h4 h6
    have h7 := c1.reg.mp h7
    have h8 := c2.reg.mp h8
    rw [upd_dat c1.w k3] at h7
    rw [upd_dat c2.w k7] at h8
    have := R.inj j1 j2 s1 s2 _ _ x k2 k6 k4 k8 h7 h8
    subst this
    exact parN_inj a1 h1 h2 c1.mw c2.mw k1 k5
/-- what the slots are after the call -/
theorem updI_get {d : D} {k j : Nat} : (updI ρ k d)[j]? = if k = j then (ρ[j]?).map (fun s => if s.isW = true then s.upd d else s) else ρ[j]? := by
  by_cases e : k = j
  · subst e
    rw [if_pos rfl]
    unfold updI
    cases h : ρ[k]? with
    | none => simp [h]
    | some s =>
      have hk : k < ρ.length := (List.getElem?_eq_some_iff.mp h).1
      cases s <;> first | (simp [hk, Sl.isW, Sl.upd]; done) | (simp only [h]; rfl)
  · rw [if_neg e]
    unfold updI
    cases h : ρ[k]? with
    | none => rfl
    | some s => cases s <;> first | rfl | exact List.getElem?_set_ne e
theorem updE_no : ∀ {ms : List Md} {rs : List Rs} {ds : List D} {ρ : En} {j : Nat}, j ∉ parN ms rs → (updE ms rs ds ρ)[j]? = ρ[j]?
  | [], _, _, _, _, _ => by simp [updE]
  | _ :: _, [], _, _, _, _ => by simp [updE]
  | m :: ms, r :: rs, [], ρ, j, _ => by cases m <;> cases r <;> simp [updE]
  | m :: ms, r :: rs, d :: ds, ρ, j, h => by
    have wr : ∀ {k : Nat}, parN (m :: ms) (r :: rs) = k :: parN ms rs → updE (m :: ms) (r :: rs) (d :: ds) ρ = updE ms rs ds (updI ρ k d) → (updE (m :: ms) (r :: rs) (d :: ds) ρ)[j]? = ρ[j]? := fun {k} e1 e2 => by
      rw [e1] at h
      rw [e2, updE_no (ms := ms) fun z => h (List.mem_cons_of_mem _ z), updI_get, if_neg fun z : k = j => h (by rw [z]; exact List.mem_cons_self ..)]
    cases m <;> cases r <;> first | exact updE_no (ms := ms) h | exact wr rfl rfl
theorem updE_yes : ∀ {ms : List Md} {rs : List Rs} {ds : List D} {ρ : En} {i j : Nat} {m : Md} {d : D}, (parN ms rs).Nodup → ms[i]? = some m → m.isW = true → rs[i]? = some (Rs.sl j) → ds[i]? = some d → (updE ms rs ds ρ)[j]? = (ρ[j]?).map (fun s => if s.isW = true then s.upd d else s)
  | [], _, _, _, i, _, _, _, _, h, _, _, _ => by simp at h
  | _ :: _, [], _, _, i, _, _, _, _, _, _, h, _ => by simp at h
  | _ :: _, _ :: _, [], _, i, _, _, _, _, _, _, _, h => by simp at h
  | m :: ms, r :: rs, d :: ds, ρ, 0, j, m', d', n, h1, w, h2, h3 => by
    simp at h1 h2 h3
    subst h1; subst h2; subst h3
    rw [parN_head w] at n
    have e : updE (m :: ms) (.sl j :: rs) (d :: ds) ρ = updE ms rs ds (updI ρ j d) := by cases m <;> first | rfl | cases w
    rw [e, updE_no (List.nodup_cons.mp n).1, updI_get, if_pos rfl]
  | m :: ms, r :: rs, d :: ds, ρ, i + 1, j, m', d', n, h1, w, h2, h3 => by
    have ih : ∀ ρ', (updE ms rs ds ρ')[j]? = (ρ'[j]?).map (fun s => if s.isW = true then s.upd d' else s) := fun ρ' =>
      updE_yes (parN_tail n) (by simpa using h1) w (by simpa using h2) (by simpa using h3)
    have wr : ∀ {k : Nat}, parN (m :: ms) (r :: rs) = k :: parN ms rs → updE (m :: ms) (r :: rs) (d :: ds) ρ = updE ms rs ds (updI ρ k d) → (updE (m :: ms) (r :: rs) (d :: ds) ρ)[j]? = (ρ[j]?).map (fun s => if s.isW = true then s.upd d' else s) := fun {k} e1 e2 => by
      rw [e1] at n
      have hj : j ∈ parN ms rs := parN_mem (ms := ms) (i := i) (by simpa using h1) w (by simpa using h2)
      rw [e2, ih, updI_get, if_neg fun z : k = j => (List.nodup_cons.mp n).1 (by rw [z]; exact hj)]
    cases m <;> cases r <;> first | exact ih ρ | exact wr rfl rfl
theorem updI_len {k : Nat} {d : D} : (updI ρ k d).length = ρ.length := by
  unfold updI
  split <;> simp
theorem updE_len : ∀ {ms : List Md} {rs : List Rs} {ds : List D} {ρ : En}, (updE ms rs ds ρ).length = ρ.length
  | [], _, _, _ => by simp [updE]
  | _ :: _, [], _, _ => by simp [updE]
  | m :: ms, r :: rs, [], _ => by cases m <;> cases r <;> simp [updE]
  | m :: ms, r :: rs, d :: ds, ρ => by
    cases m <;> cases r <;> first | exact updE_len (ms := ms) | exact (updE_len (ms := ms)).trans updI_len
/-- the relation after a call -/
theorem Rel.after (R : Rel F U ρ σ H) {ms : List Md} {rs : List Rs} {vs : List V} {ds ds' : List D} {U' : US} (q : RVs F U σ H rs vs) (e : argsD ms rs ρ = some ds) (ap : apart ms rs = true) (A : After F.K H U ms ds vs H' U' ds') :
    Rel F U' (updE ms rs ds' ρ) σ H' ∧ (∀ a o, H a = some o → ¬ Own ρ σ a → H' a = some o) ∧ (∀ a, Own (updE ms rs ds' ρ) σ a → Own ρ σ a ∨ H a = none) := by
  obtain ⟨AO, own⟩ := args_ok R q e ap
  obtain ⟨l1, l2, g⟩ := argsD_out e
  obtain ⟨a1, a2⟩ := apart_out ap
  have hl : ds'.length = rs.length := A.len.trans q.len.symm
  have p : Pres H U H' U' := fun a o h n => ⟨A.keep a o h fun w => n (R.ownU (own a w)), A.shar a o h n⟩
  have vAt : ∀ {i : Nat} {r : Rs}, rs[i]? = some r → ∃ v, vs[i]? = some v ∧ RV F U σ H r v := fun {i r} h => by
    have : i < vs.length := by have := (List.getElem?_eq_some_iff.mp h).1; rw [← q.len]; exact this
    have hv : vs[i]? = some vs[i] := List.getElem?_eq_getElem this
    obtain ⟨r', er, q1⟩ := q.at hv
    rw [h] at er; cases er
    exact ⟨_, hv, q1⟩
  -- a slot afterwards: as it was, off what the call may change; or written
  have gt : ∀ {j : Nat} {s' : Sl} {o : Option V}, (updE ms rs ds' ρ)[j]? = some s' → σ[j]? = some o → (ρ[j]? = some s' ∧ ∀ x, s'.reg o x → ¬ Wm ms ds vs x) ∨
      ∃ (i : Nat) (m : Md) (d : D) (s : Sl) (v : V), ms[i]? = some m ∧ ds'[i]? = some d ∧ vs[i]? = some v ∧ rs[i]? = some (.sl j) ∧ ρ[j]? = some s ∧ Kin m s ∧ s' = s.upd d ∧ o = some v := fun {j s' o} h ho => by
    by_cases hj : j ∈ parN ms rs
    · obtain ⟨i, m, h1, w, h2⟩ := parN_ex hj
      have hi : i < ds'.length := by have := (List.getElem?_eq_some_iff.mp h2).1; omega
      obtain ⟨v, hv, q1⟩ := vAt h2
      have hd : i < ds.length := by have := (List.getElem?_eq_some_iff.mp h2).1; omega
      obtain ⟨j', s, ej, z1, z2, z3, k⟩ := par_slot R w (g i m _ _ h1 (List.getElem?_eq_getElem hd) h2) q1
      cases ej
      rw [updE_yes a1 h1 w h2 (List.getElem?_eq_getElem hi), z1] at h
      have h : some (if s.isW = true then s.upd ds'[i] else s) = some s' := h
      rw [if_pos k.w] at h
      have e3 : o = some v := by rw [z3] at ho; exact (Option.some.inj ho).symm
      exact .inr ⟨i, m, _, s, v, h1, List.getElem?_eq_getElem hi, hv, h2, z1, k, (Option.some.inj h).symm, e3⟩
    · rw [updE_no hj] at h
      refine .inl ⟨h, fun x hx ⟨i, m, d, v, k1, k2, k3, k4⟩ => ?_⟩
      obtain ⟨r, er, q1⟩ := q.at k3
      have w := sl_isW.symm.trans k4.1
      obtain ⟨j', s, rfl, z1, z2, z3, k⟩ := par_slot R w (g i m d r k1 k2 er) q1
      have k4 := k.reg.mp k4
      rw [upd_dat k.w z2] at k4
      have := R.inj j j' _ _ _ _ x h z1 ho z3 hx k4
      subst this
      exact hj (parN_mem k1 w er)
  have wreg : ∀ {i : Nat} {m : Md} {d : D} {s : Sl} {v : V} {x : Addr}, ms[i]? = some m → ds'[i]? = some d → vs[i]? = some v → Kin m s → (s.upd d).reg (some v) x → Wm ms ds' vs x := fun {i m d s v x} h1 h2 h3 k h4 => ⟨i, m, d, v, h1, h2, h3, k.reg.mpr h4⟩
  have own' : ∀ a, Own (updE ms rs ds' ρ) σ a → Own ρ σ a ∨ H a = none := fun a ⟨j, s', o, h1, h2, h3⟩ => by
    rcases gt h1 h2 with ⟨z, _⟩ | ⟨i, m, d, s, v, k1, k2, k3, _, k4, k, rfl, rfl⟩
    · exact .inl ⟨j, s', o, z, h2, h3⟩
    · exact (A.reg a (wreg k1 k2 k3 k h3)).imp (own a) id
  refine ⟨⟨by rw [updE_len]; exact R.len, fun j s' o h1 h2 => ?_, fun j d o h1 h2 => ?_, fun i j s t o o' x h1 h2 h3 h4 h5 h6 => ?_, A.tr, fun a o h n => ?_, fun a o h => ?_, fun a o h n => ?_, fun a h n => A.up a (R.up a h n) fun w => n (R.own0 (own a w) h), fun a h => ?_, fun i s l h1 h2 => ?_, R.wu, R.b0, R.u0⟩, fun a o h n => A.keep a o h fun w => n (own a w), own'⟩
  · rcases gt h1 h2 with ⟨z, zn⟩ | ⟨i, m, d, s, v, k1, k2, k3, _, k4, k, rfl, rfl⟩
    · exact (R.slot j s' o z h2).pres p fun x hx u => ⟨A.up x u (zn x hx), fun o h => A.keep x o h (zn x hx)⟩
    · exact k.ok (A.par i m v d k1 k.mw k3 k2)
  · rcases gt h1 h2 with ⟨z, zn⟩ | ⟨i, m, d', s, v, k1, k2, k3, _, k4, k, e', rfl⟩
    · rcases R.bor j d o z h2 with ⟨v, e1, w⟩ | ⟨b, e1, w, no⟩
      · exact .inl ⟨v, e1, Rp.pres p d v w⟩
      · refine .inr ⟨b, e1, w.pres p fun x hx o h => A.keep x o h fun w => no x hx (own x w), fun x hx z => ?_⟩
        rcases own' x z with z | z
        · exact no x hx z
        · obtain ⟨o, ho⟩ := w.some x hx
          rw [z] at ho; cases ho
    · have := k.w
      rw [← isW_upd (s := s) (d' := d'), ← e'] at this; cases this
  · rcases gt h1 h3 with ⟨z, zn⟩ | ⟨i1, m1, d1, s1, v1, k1, k2, k3, c1, k4, k, rfl, rfl⟩
    · rcases gt h2 h4 with ⟨z', zn'⟩ | ⟨i2, m2, d2, s2, v2, l1, l2, l3, c2, l4, l, rfl, rfl⟩
      · exact R.inj i j s t o o' x z z' h3 h4 h5 h6
      · exfalso
        rcases A.reg x (wreg l1 l2 l3 l h6) with w | w
        · exact zn x h5 w
        · obtain ⟨o, ho⟩ := R.tr x (R.ownU ⟨i, s, o, z, h3, h5⟩)
          rw [w] at ho; cases ho
    · rcases gt h2 h4 with ⟨z', zn'⟩ | ⟨i2, m2, d2, s2, v2, l1, l2, l3, c2, l4, l, rfl, rfl⟩
      · exfalso
        rcases A.reg x (wreg k1 k2 k3 k h5) with w | w
        · exact zn' x h6 w
        · obtain ⟨o, ho⟩ := R.tr x (R.ownU ⟨j, t, o', z', h4, h6⟩)
          rw [w] at ho; cases ho
      · have := A.inj i1 i2 m1 m2 d1 d2 v1 v2 x k1 l1 k2 l2 k3 l3 (k.reg.mpr h5) (l.reg.mpr h6)
        subst this
        rw [c1] at c2
        cases c2; rfl
  · refine A.keep a o (R.keep a o h n) fun w => ?_
    rcases R.new a (own a w) with z | z
    · exact n z
    · rw [z] at h; cases h
  · obtain ⟨o', h'⟩ := R.ktr a o h
    exact A.ktr a o' h'
  · obtain ⟨o', h'⟩ := R.ktr a o h
    exact A.shar a o' h' (R.shar a o h n)
  · rcases own' a h with z | z
    · exact R.new a z
    · refine .inr ?_
      cases eh : F.H0 a with
      | none => rfl
      | some o =>
        obtain ⟨o', h'⟩ := R.ktr a o eh
        rw [z] at h'; cases h'
  · by_cases hi : i < σ.length
    · rcases gt h1 (List.getElem?_eq_getElem hi) with ⟨z, _⟩ | ⟨i', m, d, s', v, k1, k2, k3, _, k4, k, rfl, _⟩
      · exact R.lock i s l z h2
      · rw [lk_upd k.w] at h2
        exact R.lock i s' l k4 h2
    · have := (List.getElem?_eq_some_iff.mp h1).1
      rw [updE_len, R.len] at this
      exact absurd this hi
/-- the boxes are the same -/
def sameB : List Md → List D → List D → Prop
  | .pab :: ms, d :: ds, d' :: ds' => d'.bxs = d.bxs ∧ sameB ms ds ds'
  | _ :: ms, _ :: ds, _ :: ds' => sameB ms ds ds'
  | _, _, _ => True
theorem sameB_no : ∀ {ms : List Md} {ds ds' : List D}, noPab ms = true → sameB ms ds ds'
  | [], _, _, _ => by simp [sameB]
  | m :: ms, [], ds', _ => by cases m <;> simp [sameB]
  | m :: ms, d :: ds, [], _ => by cases m <;> simp [sameB]
  | m :: ms, d :: ds, d' :: ds', h => by cases m <;> first | exact sameB_no (ms := ms) h | cases h
theorem sameB_at : ∀ {ms : List Md} {ds ds' : List D} {i : Nat} {m : Md} {d d' : D}, sameB ms ds ds' → ms[i]? = some m → ds[i]? = some d → ds'[i]? = some d' → (m.sl d').bxs = (m.sl d).bxs
  | [], _, _, i, _, _, _, _, h, _, _ => by simp at h
  | _ :: _, [], _, i, _, _, _, _, _, h, _ => by simp at h
  | _ :: _, _ :: _, [], i, _, _, _, _, _, _, h => by simp at h
  | m :: ms, d :: ds, d' :: ds', 0, m', e, e', h, h1, h2, h3 => by
    simp at h1 h2 h3; subst h1; subst h2; subst h3
    cases m <;> first | rfl | exact h.1
  | m :: ms, d :: ds, d' :: ds', i + 1, m', e, e', h, h1, h2, h3 => by
    refine sameB_at (ms := ms) (ds := ds) (ds' := ds') (i := i) ?_ (by simpa using h1) (by simpa using h2) (by simpa using h3)
    cases m <;> first | exact h | exact h.2
theorem After.wm {ms : List Md} {ds ds' : List D} {vs : List V} {U' : US} (A : After K H U ms ds vs H' U' ds') (AO : ArgsOk K H U ms ds vs) (sb : sameB ms ds ds') : ∀ x, Wm ms ds vs x ↔ Wm ms ds' vs x := by
  intro x
  constructor
  · rintro ⟨i, m, d, v, h1, h2, h3, h4⟩
    have hi : i < ds'.length := by have := (List.getElem?_eq_some_iff.mp h3).1; rw [A.len]; exact this
    exact ⟨i, m, _, v, h1, List.getElem?_eq_getElem hi, h3, sl_isW.trans (sl_isW.symm.trans h4.1), h4.2.imp id fun z => by rw [sameB_at sb h1 h2 (List.getElem?_eq_getElem hi)]; exact z⟩
  · rintro ⟨i, m, d, v, h1, h2, h3, h4⟩
    have hi : i < ds.length := by have := (List.getElem?_eq_some_iff.mp h3).1; rw [AO.l2]; exact this
    exact ⟨i, m, _, v, h1, List.getElem?_eq_getElem hi, h3, sl_isW.trans (sl_isW.symm.trans h4.1), h4.2.imp id fun z => by rw [← sameB_at sb h1 (List.getElem?_eq_getElem hi) h2]; exact z⟩
/-- a call that makes no new boxes keeps U -/
theorem After.upA {ms : List Md} {ds ds' : List D} {vs : List V} {U' : US} (A : After K H U ms ds vs H' U' ds') (AO : ArgsOk K H U ms ds vs) (sb : sameB ms ds ds') : ∀ a, U a → U' a := fun a u => by
  by_cases w : Wm ms ds vs a
  · obtain ⟨i, m, d, v, h1, h2, h3, h4⟩ := (A.wm AO sb a).mp w
    exact (A.par i m v d h1 (sl_isW.symm.trans h4.1) h3 h2).regU h4
  · exact A.up a u w
theorem Rel.afterS (R : Rel F U ρ σ H) {ms : List Md} {rs : List Rs} {vs : List V} {ds ds' : List D} {U' : US} (q : RVs F U σ H rs vs) (e : argsD ms rs ρ = some ds) (ap : apart ms rs = true) (sb : sameB ms ds ds') (A : After F.K H U ms ds vs H' U' ds') :
    Rel F U' (updE ms rs ds' ρ) σ H' ∧ Stp ρ σ H (updE ms rs ds' ρ) H' := by
  obtain ⟨AO, own⟩ := args_ok R q e ap
  obtain ⟨R2, k1, k2⟩ := R.after q e ap A
  refine ⟨R2, k1, fun a h => ?_, A.ktr⟩
  rcases k2 a h with z | z
  · exact z
  · -- a new box: there is none
    exfalso
    obtain ⟨l1, l2, g⟩ := argsD_out e
    obtain ⟨a1, a2⟩ := apart_out ap
    obtain ⟨j, s', o, h1, h2, h3⟩ := h
    have hU : ∀ x, Own ρ σ x → ∃ o, H x = some o := fun x hx => R.tr x (R.ownU hx)
    by_cases hj : j ∈ parN ms rs
    · obtain ⟨i, m, g1, w, g2⟩ := parN_ex hj
      have hv : i < vs.length := by have := (List.getElem?_eq_some_iff.mp g2).1; rw [← q.len]; exact this
      obtain ⟨r, er, q1⟩ := q.at (List.getElem?_eq_getElem hv)
      rw [g2] at er; cases er
      have hd : i < ds.length := by have := q.len; omega
      have hd' : i < ds'.length := by rw [A.len]; exact hv
      obtain ⟨j', s, ej, z1, z2, z3, k⟩ := par_slot R w (g i m _ _ g1 (List.getElem?_eq_getElem hd) g2) q1
      cases ej
      rw [updE_yes a1 g1 w g2 (List.getElem?_eq_getElem hd'), z1] at h1
      have h1 : some (if s.isW = true then s.upd ds'[i] else s) = some s' := h1
      rw [if_pos k.w] at h1
      cases h1
      rw [z3] at h2; cases h2
      have w' : Wm ms ds' vs a := ⟨i, m, _, _, g1, List.getElem?_eq_getElem hd', List.getElem?_eq_getElem hv, k.reg.mpr h3⟩
      obtain ⟨o, ho⟩ := hU a (own a ((A.wm AO sb a).mpr w'))
      rw [z] at ho; cases ho
    · rw [updE_no hj] at h1
      obtain ⟨o, ho⟩ := hU a ⟨j, s', o, h1, h2, h3⟩
      rw [z] at ho; cases ho
/-- a call: what it gives is shared -/
def eCall (ms : List Md) (sp : S3) (g : T3A) : T3E := fun ρ Q => g ρ fun rs ρ1 => apart ms rs = true ∧ wo (argsD ms rs ρ1) fun ds => sp ds (fun d ds' => Q (.val d) (updE ms rs ds' ρ1)) (fun d ds' => Q (.val d) (updE ms rs ds' ρ1))
theorem rp_of_top (h : TopW K H U d a) (n : ¬ U a) : Rp K H U d (.ref a) := by
  cases d <;> first | exact h.elim | skip
  · obtain ⟨vs, h1, h2⟩ := h; simp only [Rp]; exact ⟨a, vs, rfl, ⟨h1, n⟩, h2⟩
  · obtain ⟨vs, h1, h2⟩ := h; simp only [Rp]; exact ⟨a, vs, rfl, .inl h1, n, h2⟩
  · obtain ⟨vs, h1, h2⟩ := h; simp only [Rp]; exact ⟨a, vs, rfl, .inl h1, n, h2⟩
  · obtain ⟨dx, vs, h1, h2⟩ := h; simp only [Rp]; exact ⟨a, dx, vs, rfl, h1, n, h2⟩
  · obtain ⟨xs, h1, h2⟩ := h; simp only [Rp]; exact ⟨a, xs, rfl, .inl h1, n, h2⟩
/-- what follows a call within an expression -/
theorem callE {ms : List Md} {sp : S3} {rs : List Rs} {vs : List V} {ds : List D} {ρ1 : En} {H1 : Hp} {Q3 : Rs → En → Prop} {Q2 : VK} (R : Rel F U ρ σ H) (s1 : Stp ρ σ H ρ1 H1) (R1 : Rel F U ρ1 σ H1) (q1 : RVs F U σ H1 rs vs) (ap : apart ms rs = true) (ed : argsD ms rs ρ1 = some ds)
    (h1 : sp ds (fun d ds' => sameB ms ds ds' ∧ Q3 (.val d) (updE ms rs ds' ρ1)) (fun d ds' => sameB ms ds ds' ∧ Q3 (.val d) (updE ms rs ds' ρ1))) (k : KE F U ρ σ H Q3 Q2) (E : XK) : Lift F.K ms sp vs H1 Q2 E := by
  obtain ⟨AO, own⟩ := args_ok R1 q1 ed ap
  refine ⟨U, ds, _, _, AO, h1, fun v H' U' d ds' A rp q => ?_, fun a H' U' d ds' A t u nw q => ?_⟩
  · obtain ⟨R2, S2⟩ := R1.afterS q1 ed ap q.1 A
    have up := A.upA AO q.1
    have R3 : Rel F U (updE ms rs ds' ρ1) σ H' := R2.shrink up R.up fun a z => R1.ownU (S2.own a z)
    refine k (.val d) v _ _ R3 (s1.trans S2) ?_ q.2
    exact Rp.pres (fun a o h n => ⟨h, fun z => n (up a z)⟩) d v rp
  · obtain ⟨R2, S2⟩ := R1.afterS q1 ed ap q.1 A
    have up := A.upA AO q.1
    have R3 : Rel F U (updE ms rs ds' ρ1) σ H' := R2.shrink up R.up fun a z => R1.ownU (S2.own a z)
    refine k (.val d) (.ref a) _ _ R3 (s1.trans S2) ?_ q.2
    have p : Pres H' U' H' U := fun a o h n => ⟨h, fun z => n (up a z)⟩
    have nU : ¬ U a := fun z => by
      obtain ⟨o, ho⟩ := R1.tr a z
      rw [nw] at ho; cases ho
    exact rp_of_top (t.pres p fun _ h => h) nU
/-- a promise may ask less -/
def S3.Mono (sp : S3) : Prop := ∀ ds QR QO QR' QO', sp ds QR QO → (∀ d ds', QR d ds' → QR' d ds') → (∀ d ds', QO d ds' → QO' d ds') → sp ds QR' QO'
theorem callN {ms : List Md} {sp : S3} {rs : List Rs} {vs : List V} {ds : List D} {ρ1 : En} {H1 : Hp} {Q3 : Rs → En → Prop} {Q2 : VK} (np : noPab ms = true) (R : Rel F U ρ σ H) (s1 : Stp ρ σ H ρ1 H1) (R1 : Rel F U ρ1 σ H1) (q1 : RVs F U σ H1 rs vs) (ap : apart ms rs = true) (ed : argsD ms rs ρ1 = some ds)
    (h1 : sp ds (fun d ds' => Q3 (.val d) (updE ms rs ds' ρ1)) (fun d ds' => Q3 (.val d) (updE ms rs ds' ρ1))) (k : KE F U ρ σ H Q3 Q2) (E : XK) : Lift F.K ms sp vs H1 Q2 E := by
  refine callE R s1 R1 q1 ap ed ?_ k E
  have e : ∀ ds', sameB ms ds ds' = True := fun ds' => eq_true (sameB_no np)
  simp only [e, true_and]
  exact h1
theorem simCall {E : XK} {ms : List Md} {sp : S3} {u : TA} {g : T3A} (np : noPab ms = true) (h : SimA K u g) : SimE K (tCall (Lift K ms sp) [] E u) (eCall ms sp g) := by
  intro F U ρ σ H Q3 Q2 e R q k
  refine h F U ρ σ H _ _ e R q fun rs vs ρ1 H1 R1 s1 q1 ⟨ap, h1⟩ => ?_
  obtain ⟨ds, ed, h1⟩ := wo_out h1
  subst e
  rw [List.append_nil]
  exact callN np R s1 R1 q1 ap ed h1 k E
/-- .. is new and owned -/
def oCall (ms : List Md) (sp : S3) (g : T3A) : En → (D → En → Prop) → Prop := fun ρ Q => g ρ fun rs ρ1 => apart ms rs = true ∧ wo (argsD ms rs ρ1) fun ds => sp ds (fun _ _ => False) (fun d ds' => Q d (updE ms rs ds' ρ1))
theorem simOCall {E : XK} {ms : List Md} {sp : S3} {u : TA} {g : T3A} (np : noPab ms = true) (h : SimA K u g) : SimEO K (tCall (Lift K ms sp) [] E u) (oCall ms sp g) := by
  intro F U ρ σ H Q3 Q2 e R q k
  refine h F U ρ σ H _ _ e R q fun rs vs ρ1 H1 R1 s1 q1 ⟨ap, h1⟩ => ?_
  obtain ⟨ds, ed, h1⟩ := wo_out h1
  subst e
  obtain ⟨AO, own⟩ := args_ok R1 q1 ed ap
  rw [List.append_nil]
  refine ⟨U, ds, _, _, AO, h1, fun v H' U' d ds' A rp q => q.elim, fun a H' U' d ds' A t u nw q => ?_⟩
  obtain ⟨R2, S2⟩ := R1.afterS q1 ed ap (sameB_no np) A
  have up := A.upA AO (sameB_no np)
  have R3 : Rel F (fun b => U b ∨ b = a) (updE ms rs ds' ρ1) σ H' := R2.shrink (fun b z => z.elim (up b) fun e => by rw [e]; exact u) (fun b z n => .inl (R.up b z n)) fun a z => .inl (R1.ownU (S2.own a z))
  have p : Pres H' U' H' (fun b => U b ∨ b = a) := fun b o h n => ⟨h, fun z => n (z.elim (up b) fun e => by rw [e]; exact u)⟩
  refine k d a _ _ R3 (s1.trans S2) ?_ (t.pres p fun _ h => h) q
  cases eh : H a with
  | none => rfl
  | some o =>
    obtain ⟨o', h'⟩ := s1.tr a o eh
    rw [nw] at h'; cases h'
end
end L3

set_option Elab.async false
set_option linter.all false
set_option maxRecDepth 100000
namespace L3
open PySem PySem.Spec L2
open PyProof.Rows (b2i)

abbrev T3O' := En → (D → En → Prop) → Prop
section
variable {F : Fr} {U U2 : US} {ρ ρ' ρ2 : En} {σ σ2 : St} {H H' H2 : Hp} {K : PySem.W.Frag}

/-! ### a new object that is shared at once -/
def eShr (f : T3O') : T3E := fun ρ Q => f ρ fun d ρ1 => Q (.val d) ρ1
theorem Rel.noU (R : Rel F U ρ σ H) {a : Addr} (h : H a = none) : ¬ U a := fun z => by
  obtain ⟨o, ho⟩ := R.tr a z
  rw [h] at ho; cases ho
theorem simShr {t : TE} {f : T3O'} (h : SimEO K t f) : SimE K t (eShr f) := by
  intro F U ρ σ H Q3 Q2 e R q k
  refine h F U ρ σ H _ _ e R q fun d a ρ' H' R' S' hn t' q' => ?_
  have R3 : Rel F U ρ' σ H' := R'.shrink (fun a z => .inl z) R.up fun a z => R.ownU (S'.own a z)
  have p : Pres H' (fun b => U b ∨ b = a) H' U := fun a o h n => ⟨h, fun z => n (.inl z)⟩
  exact k (.val d) (.ref a) ρ' H' R3 S' (rp_of_top (t'.pres p fun _ h => h) (R.noU hn)) q'
/-- a new object at p -/
theorem freshEO (R : Rel F U ρ σ H) {p : Addr} {o : HO} (hp : H p = none) : Rel F (fun b => U b ∨ b = p) ρ σ (upd H p o) ∧ Stp ρ σ H ρ (upd H p o) ∧ Pres H U (upd H p o) (fun b => U b ∨ b = p) :=
  ⟨R.grow hp (ext_new hp) upd_same, .ext (ext_new hp), fun x u h n => ⟨ext_new hp x u h, fun z => z.elim n fun e => by subst e; rw [hp] at h; cases h⟩⟩
def oLst (g : T3A) : T3O' := fun ρ Q => g ρ fun rs ρ1 => allV rs fun ds => ds.length ≤ sizeLine ∧ Q (.lst ds) ρ1
theorem back_none (S : Stp ρ σ H ρ' H') {p : Addr} (h : H' p = none) : H p = none := by
  cases e : H p with
  | none => rfl
  | some o => obtain ⟨o', h'⟩ := S.tr p o e; rw [h] at h'; cases h'
theorem simOLst {u : TA} {g : T3A} (h : SimA K u g) : SimEO K (tLst u) (oLst g) := by
  intro F U ρ σ H Q3 Q2 e R q k
  refine h F U ρ σ H _ _ e R q fun rs vs ρ1 H1 R1 s1 q1 h1 => ?_
  obtain ⟨ds, z1, z2, z3, z4⟩ := allV_out q1 h1
  refine ⟨by rw [z1.len]; exact z3, fun p hp => ?_⟩
  obtain ⟨R2, S2, P2⟩ := freshEO R1 (o := .lst vs) hp
  exact k (.lst ds) p ρ1 _ R2 (s1.trans S2) (back_none s1 hp) ⟨vs, upd_same, RpAll.pres P2 _ _ z1⟩ z4
/-- list(x), x a list or a tuple -/
def oListC (g : T3A) : T3O' := fun ρ Q => g ρ fun rs ρ1 => w1 rs ρ1 fun d => match d with
  | .lst ds => Q (.lst ds) ρ1
  | .tup ds => Q (.lst ds) ρ1
  | _ => False
theorem simOListC {u : TA} {g : T3A} (h : SimA K u g) : SimEO K (tCB (fun xs H Q => ∃ p ys, xs = [.ref p] ∧ (SqL K H p ys ∨ SqT K H p ys) ∧ ∀ l, H l = none → Q (.ref l) (upd H l (.lst ys))) u) (oListC g) := by
  intro F U ρ σ H Q3 Q2 e R q k
  refine h F U ρ σ H _ _ e R q fun rs vs ρ1 H1 R1 s1 q1 h1 => ?_
  obtain ⟨x, v, d, rfl, rfl, q1, e1, h⟩ := w1_out q1 h1
  subst e
  have fin : ∀ {ds : List D} {vs : List V}, RpAll F.K H1 U ds vs → Q3 (.lst ds) ρ1 → ∀ p, H1 p = none → Q2 (.ref p) (upd H1 p (.lst vs)) := fun {ds vs} z2 h p hp => by
    obtain ⟨R2, S2, P2⟩ := freshEO R1 (o := .lst vs) hp
    exact k (.lst ds) p ρ1 _ R2 (s1.trans S2) (back_none s1 hp) ⟨vs, upd_same, RpAll.pres P2 _ _ z2⟩ h
  cases d <;> first | exact h.elim | skip
  · obtain ⟨a, vs, rfl, z1, z2, _⟩ := q1.tup R1 e1
    exact ⟨a, vs, rfl, .inr z1, fin z2 h⟩
  · obtain ⟨a, vs, rfl, z1, z2⟩ := q1.lst R1 e1
    exact ⟨a, vs, rfl, .inl z1, fin z2 h⟩
/-- xs[::-1] -/
def oRev (f : T3E) : T3O' := fun ρ Q => f ρ fun r ρ1 => wd r ρ1 fun d => match d with
  | .lst ds => Q (.lst ds.reverse) ρ1
  | _ => False
theorem simORev {t : TE} {f : T3E} (h : SimE K t f) : SimEO K (tRevL K t) (oRev f) := by
  intro F U ρ σ H Q3 Q2 e R q k
  refine h F U ρ σ H _ _ e R q fun r v ρ1 H1 R1 s1 q1 h1 => ?_
  subst e
  obtain ⟨d, e1, h1⟩ := wd_out h1
  cases d <;> first | exact h1.elim | skip
  obtain ⟨a, vs, rfl, z1, z2⟩ := q1.lst R1 e1
  refine ⟨a, vs, rfl, z1, fun p hp => ?_⟩
  obtain ⟨R2, S2, P2⟩ := freshEO R1 (o := .lst vs.reverse) hp
  exact k (.lst _) p ρ1 _ R2 (s1.trans S2) (back_none s1 hp) ⟨vs.reverse, upd_same, RpAll.pres P2 _ _ z2.rev⟩ h1
/-- a lent slot does not hold what is newer than the frame -/
theorem rpF_nob {ds : List (Str × D)} : ∀ {vs : List (Str × V)}, RpF K H U ds vs → bxsF ds = [] := by
  induction ds with
  | nil => intro _ _; rfl
  | cons p ds ih =>
    intro vs h
    obtain ⟨k, d⟩ := p
    simp only [RpF] at h
    obtain ⟨v, r, e1, h1, h2⟩ := h
    cases d <;> first | exact ih h2 | (simp only [Rp] at h1)
theorem rp_reg {H0 : Hp} {U0 : US} {d : D} {b p : Addr} (r : Rp K H0 U0 d (.ref b)) (t : TopR K H U d b) (hp : d.reg b p) : ∃ o, H0 p = some o := by
  cases d <;> first | exact t.elim | skip
  · simp only [Rp] at r; obtain ⟨a, vs, e, h1, _⟩ := r; cases e
    rcases hp with e | hp; (subst e; exact ⟨_, h1.1⟩); cases hp
  · simp only [Rp] at r; obtain ⟨a, vs, e, h1, _⟩ := r; cases e
    rcases hp with e | hp
    · subst e; rcases h1 with h1 | ⟨o, h1⟩ <;> exact ⟨_, h1⟩
    · cases hp
  · simp only [Rp] at r; obtain ⟨a, vs, e, h1, _⟩ := r; cases e
    rcases hp with e | hp
    · subst e; rcases h1 with h1 | ⟨o, h1⟩ <;> exact ⟨_, h1⟩
    · cases hp
  · simp only [Rp] at r; obtain ⟨a, dx, vs, e, h1, _, h2⟩ := r; cases e
    rcases hp with e | hp
    · subst e; exact ⟨_, h1⟩
    · have hp : p ∈ bxsF _ := hp
      rw [rpF_nob h2] at hp; cases hp
  · simp only [Rp] at r; obtain ⟨a, vs, e, h1, _⟩ := r; cases e
    rcases hp with e | hp
    · subst e; rcases h1 with h1 | ⟨o, h1⟩ <;> exact ⟨_, h1⟩
    · cases hp
theorem Rel.brwOld (R : Rel F U ρ σ H) {p b : Addr} (hn : F.H0 p = none) {j : Nat} {d : D} (h : ρ[j]? = some (.brw d)) (h2 : σ[j]? = some (some (.ref b))) (t : TopR F.K H U d b) (hp : d.reg b p) : False := by
  obtain ⟨l1, l2⟩ := R.lock j _ _ h rfl
  rw [h2] at l2
  rcases R.b0 j d l1 with ⟨v, ev, r⟩ | ⟨c, eb, ho⟩
  · rw [← l2] at ev; cases ev
    obtain ⟨o, ho⟩ := rp_reg r t hp
    rw [hn] at ho; cases ho
  · rw [← l2] at eb; cases eb
    obtain ⟨o, ho⟩ := ho p hp
    rw [hn] at ho; cases ho
/-- a write to an object that nobody owns and nobody shares -/
theorem Rel.poke (R : Rel F U ρ σ H) {p : Addr} {o : HO} (no : ¬ Own ρ σ p) (hu : U p) (hn : F.H0 p = none) : Rel F U ρ σ (upd H p o) := by
  have P : Pres H U (upd H p o) U := fun x u h n => ⟨by rw [upd_ne (fun e => n (by rw [e]; exact hu))]; exact h, n⟩
  refine ⟨R.len, fun i s v h1 h2 => (R.slot i s v h1 h2).pres P fun x hx u => ⟨u, fun w hw => ?_⟩, fun i d v h1 h2 => ?_, R.inj, fun a h => ?_, fun a u h n => ?_, fun a u h => ?_, R.shar, R.up, R.new, R.lock, R.wu, R.b0, R.u0⟩
  · rw [upd_ne fun e : x = p => no ⟨i, s, v, h1, h2, e ▸ hx⟩]; exact hw
  · rcases R.bor i d v h1 h2 with ⟨v, e1, q⟩ | ⟨b, e1, q, n⟩
    · exact .inl ⟨v, e1, Rp.pres P d v q⟩
    · subst e1
      refine .inr ⟨b, rfl, q.pres P fun x hx o h => ?_, n⟩
      rw [upd_ne fun e : x = p => R.brwOld hn h1 h2 q (e ▸ hx)]; exact h
  · by_cases e : a = p
    · subst e; exact ⟨_, upd_same⟩
    · obtain ⟨o, h⟩ := R.tr a h
      exact ⟨o, by rw [upd_ne e]; exact h⟩
  · have na : a ≠ p := fun e => by subst e; rw [hn] at h; cases h
    rw [upd_ne na]; exact R.keep a u h n
  · by_cases e : a = p
    · subst e; exact ⟨_, upd_same⟩
    · obtain ⟨o, h⟩ := R.ktr a u h
      exact ⟨o, by rw [upd_ne e]; exact h⟩

/-! ### dict displays -/
def oDicE : T3O' := fun ρ Q => Q (.dic []) ρ
theorem simODicE : SimEO K tDNewK oDicE := by
  intro F U ρ σ H Q3 Q2 e R q k p hp
  obtain ⟨R2, S2, P2⟩ := freshEO R (o := .dK []) hp
  exact k (.dic []) p ρ _ R2 S2 hp ⟨[], upd_same, by simp only [RpK]⟩ q
/-- {'k': e, ..}: the keys texts -/
def dPairs : List (Str × T3E) → En → (List (Key × D) → En → Prop) → Prop
  | [], ρ, Q => Q [] ρ
  | (k, f) :: r, ρ, Q => f ρ fun x ρ1 => match x with
    | .val d => dPairs r ρ1 fun kvs ρ2 => Q ((.inr k, d) :: kvs) ρ2
    | _ => False
def mergeD (kvs : List (Key × D)) : List (Key × D) → List (Key × D)
  | [] => kvs
  | p :: r => mergeD (putD kvs p.1 p.2) r
theorem RpK.merge : ∀ {es : List (Key × D)} {ws : List (Key × V)} {ds : List (Key × D)} {vs : List (Key × V)}, RpK K H U es ws → RpK K H U ds vs → RpK K H U (mergeD ds es) (mergeK vs ws)
  | [], _, _, _, h, h' => by simp only [RpK] at h; subst h; exact h'
  | (k, d) :: es, _, ds, vs, h, h' => by
    simp only [RpK] at h
    obtain ⟨v, r, rfl, h1, h2⟩ := h
    show RpK K H U (mergeD (putD ds k d) es) (mergeK (putK vs k v) r)
    exact RpK.merge h2 (h'.put k h1)
def oDisp (ps : List (Str × T3E)) : T3O' := fun ρ Q => dPairs ps ρ fun kvs ρ1 => kvs.length ≤ 15 ∧ Q (.dic (mergeD [] kvs)) ρ1
inductive SimP (K : PySem.W.Frag) : List (TE × TE) → List (Str × T3E) → Prop
  | nil : SimP K [] []
  | cons {s : Str} {t : TE} {f : T3E} {r : List (TE × TE)} {r3 : List (Str × T3E)} : SimE K t f → SimP K r r3 → SimP K ((tC (.str s), t) :: r) ((s, f) :: r3)
theorem simPairs {r : List (TE × TE)} {r3 : List (Str × T3E)} (h : SimP K r r3) : ∀ (F : Fr) (U : US) (ρ : En) (σ : St) (H : Hp) (Q3 : List (Key × D) → En → Prop) (Q2 : List (V × V) → Hp → Prop), F.K = K → Rel F U ρ σ H → dPairs r3 ρ Q3 →
    (∀ kvs ws ρ' H', Rel F U ρ' σ H' → Stp ρ σ H ρ' H' → RpK F.K H' U kvs ws → Q3 kvs ρ' → Q2 (ws.map fun kv => (kV kv.1, kv.2)) H') → tPairs r σ H Q2 := by
  induction h with
  | nil => exact fun F U ρ σ H Q3 Q2 e R q k => k [] [] ρ H R (.refl R) (by simp only [RpK]) q
  | @cons s t f r r3 h _ ih =>
    intro F U ρ σ H Q3 Q2 e R q k
    refine h F U ρ σ H _ _ e R q fun x v ρ1 H1 R1 s1 q1 h1 => ?_
    cases x with
    | sl _ => exact h1.elim
    | bx _ _ _ => exact h1.elim
    | val d =>
      refine ih F U ρ1 σ H1 _ _ e R1 h1 fun kvs ws ρ2 H2 R2 s2 q2 h2 => ?_
      refine k ((.inr s, d) :: kvs) ((.inr s, v) :: ws) ρ2 H2 R2 (s1.trans s2) ?_ h2
      simp only [RpK]
      exact ⟨v, ws, rfl, Rp.pres (s2.pres R1) _ _ q1, q2⟩
theorem simODisp {r : List (TE × TE)} {r3 : List (Str × T3E)} (h : SimP K r r3) : SimEO K (tDisp r) (oDisp r3) := by
  intro F U ρ σ H Q3 Q2 e R q k p hp
  obtain ⟨R1, S1, P1⟩ := freshEO R (o := .dK []) hp
  refine simPairs h F _ ρ σ _ _ _ e R1 q fun kvs ws ρ2 H2 R2 s2 q2 h2 => ?_
  have no : ¬ Own ρ σ p := fun z => R.noU hp (R.ownU z)
  have e2 : H2 p = some (.dK []) := s2.keep p _ upd_same no
  have S2 : Stp ρ σ H ρ2 H2 := S1.trans s2
  refine ⟨e2, ws, rfl, by rw [q2.len]; exact h2.1, ?_⟩
  have no2 : ¬ Own ρ2 σ p := fun z => no (s2.own p z)
  have Pw : Pres H2 (fun b => U b ∨ b = p) (upd H2 p (.dK (mergeK [] ws))) (fun b => U b ∨ b = p) := fun x o h n => ⟨by rw [upd_ne (fun e => n (.inr e))]; exact h, n⟩
  refine k (.dic (mergeD [] kvs)) p ρ2 _ ?_ ⟨fun x o h n => ?_, S2.own, fun x o h => ?_⟩ hp ⟨_, upd_same, RpK.pres Pw _ _ (q2.merge (by simp only [RpK]))⟩ h2.2
  · -- a write at p, which no slot owns
    exact R2.poke no2 (.inr rfl) (up_new R hp)
  · have nx : x ≠ p := fun e => by subst e; rw [hp] at h; cases h
    rw [upd_ne nx]; exact S2.keep x o h n
  · by_cases e : x = p
    · subst e; exact ⟨_, upd_same⟩
    · obtain ⟨o', h'⟩ := S2.tr x o h
      exact ⟨o', by rw [upd_ne e]; exact h'⟩

/-! ### the fields of an object -/
theorem RpF.get : ∀ {ds : List (Str × D)} {vs : List (Str × V)} {f : Str} {d : D}, RpF K H U ds vs → ds.lookup f = some d → ∃ v, vs.lookup f = some v ∧ Rp K H U d v
  | [], _, f, d, _, e => by cases e
  | (k, d') :: ds, _, f, d, h, e => by
    simp only [RpF] at h
    obtain ⟨v, r, rfl, h1, h2⟩ := h
    rw [List.lookup_cons] at e ⊢
    by_cases q : (f == k) = true
    · rw [q] at e ⊢; cases e; exact ⟨v, rfl, h1⟩
    · rw [Bool.eq_false_iff.mpr q] at e ⊢; exact RpF.get h2 e
theorem RpF.no : ∀ {ds : List (Str × D)} {vs : List (Str × V)} {f : Str}, RpF K H U ds vs → ds.lookup f = none → vs.lookup f = none
  | [], _, f, h, e => by simp only [RpF] at h; subst h; rfl
  | (k, d') :: ds, _, f, h, e => by
    simp only [RpF] at h
    obtain ⟨v, r, rfl, h1, h2⟩ := h
    rw [List.lookup_cons] at e ⊢
    by_cases q : (f == k) = true
    · rw [q] at e; cases e
    · rw [Bool.eq_false_iff.mpr q] at e ⊢; exact RpF.no h2 e
theorem RpF.len : ∀ {ds : List (Str × D)} {vs : List (Str × V)}, RpF K H U ds vs → vs.length = ds.length
  | [], _, h => by simp only [RpF] at h; rw [h]; rfl
  | (k, d) :: ds, _, h => by
    simp only [RpF] at h
    obtain ⟨v, r, rfl, _, h2⟩ := h
    rw [List.length_cons, List.length_cons, RpF.len h2]
/-- e.f -/
theorem RvF.no : ∀ {ds : List (Str × D)} {vs : List (Str × V)} {f : Str}, RvF K H U ds vs → ds.lookup f = none → vs.lookup f = none
  | [], _, _, h, _ => by simp only [RvF] at h; subst h; rfl
  | (k, d) :: ds, _, f, h, e => by
    simp only [RvF] at h
    obtain ⟨v, r, rfl, h1, h2⟩ := h
    rw [List.lookup_cons] at e ⊢
    cases hk : (f == k) with
    | true => rw [hk] at e; cases e
    | false => rw [hk] at e; exact RvF.no h2 e
def D.isBx : D → Bool
  | .bx _ _ => true
  | _ => false
theorem rv_rp {d : D} {v : V} (h : Rv K H U d v) (n : d.isBx = false) : Rp K H U d v := by
  cases d <;> first | exact h | cases n
def eFld (C : Addr) (f : Str) (g : T3E) : T3E := fun ρ Q => g ρ fun r ρ1 => wd r ρ1 fun d => match d with
  | .obj C' fs => C' = C ∧ wo (fs.lookup f) fun d => d.isBx = false ∧ Q (.val d) ρ1
  | _ => False
theorem simFld {C : Addr} {f : Str} {t : TE} {g : T3E} (c : Cls K C) (n : NoAttr K C f) (h : SimE K t g) : SimE K (tFld K t f) (eFld C f g) := by
  intro F U ρ σ H Q3 Q2 e R q k
  refine h F U ρ σ H _ _ e R q fun r v ρ1 H1 R1 s1 q1 h1 => ?_
  obtain ⟨d, e1, h1⟩ := wd_out h1
  cases d <;> first | exact h1.elim | skip
  obtain ⟨ec, h2⟩ := h1
  obtain ⟨d', ed, nb, h3⟩ := wo_out h2
  obtain ⟨a, dx, gs, rfl, z1, z2⟩ := q1.obj R1 e1
  obtain ⟨w, ew, rw'⟩ := z2.get ed
  exact ⟨a, _, dx, gs, w, rfl, z1, ec ▸ c, ec ▸ n, ew, k (.val d') w ρ1 H1 R1 s1 (rv_rp rw' nb) h3⟩
/-- .. that holds a box -/
def eFldB (C : Addr) (f : Str) (g : T3E) : T3E := fun ρ Q => g ρ fun r ρ1 => match r with
  | .sl i => wd r ρ1 fun d => match d with
    | .obj C' fs => C' = C ∧ wo (fs.lookup f) fun d => match d with
      | .bx b _ => Q (.bx i f b) ρ1
      | _ => False
    | _ => False
  | _ => False
theorem simFldB {C : Addr} {f : Str} {t : TE} {g : T3E} (c : Cls K C) (n : NoAttr K C f) (h : SimE K t g) : SimE K (tFld K t f) (eFldB C f g) := by
  intro F U ρ σ H Q3 Q2 e R q k
  refine h F U ρ σ H _ _ e R q fun r v ρ1 H1 R1 s1 q1 h1 => ?_
  cases r <;> first | exact h1.elim | skip
  rename_i i
  obtain ⟨d, e1, h1⟩ := wd_out h1
  cases d <;> first | exact h1.elim | skip
  obtain ⟨ec, h2⟩ := h1
  obtain ⟨d', ed, h3⟩ := wo_out h2
  cases d' <;> first | exact h3.elim | skip
  rename_i b db
  obtain ⟨a, dx, gs, rfl, z1, z2⟩ := q1.obj R1 e1
  obtain ⟨w, ew, rw'⟩ := z2.get ed
  have hw : w = .ref b := rw'.1
  exact ⟨a, _, dx, gs, w, rfl, z1, ec ▸ c, ec ▸ n, ew, k (.bx i f b) w ρ1 H1 R1 s1 hw h3⟩
theorem RpF.put {f : Str} {d : D} {v : V} : ∀ {ds : List (Str × D)} {vs : List (Str × V)}, RpF K H U ds vs → Rp K H U d v → RpF K H U (putF' f d ds) (putF f v vs)
  | [], _, h, q => by simp only [RpF] at h; subst h; simp only [putF', putF, RpF]; exact ⟨v, [], rfl, q, rfl⟩
  | (k, d') :: ds, _, h, q => by
    simp only [RpF] at h
    obtain ⟨v', r, rfl, h1, h2⟩ := h
    by_cases e : k = f
    · simp only [putF', putF, if_pos e, RpF]; exact ⟨v, r, rfl, q, h2⟩
    · simp only [putF', putF, if_neg e, RpF]; exact ⟨v', _, rfl, h1, RpF.put h2 q⟩
/-- e.f = value, e an owned object -/
def sFldP (C : Addr) (f : Str) (fv fo : T3E) : T3S := fun E ρ => fv ρ fun r ρ1 => fo ρ1 fun o ρ2 => match r with
  | .val d => ww o ρ2 fun dx up => match dx with
    | .obj C' fs => C' = C ∧ fs.length < 1000 ∧ E.nx (up (.obj C' (putF' f d fs)))
    | _ => False
  | _ => False
theorem simFldP {C : Addr} {f : Str} {tv to : TE} {fv fo : T3E} (c : Cls K C) (n : NoAttr K C f) (hv : SimE K tv fv) (ho : SimE K to fo) : SimS K (sFld K to tv f) (sFldP C f fv fo) := by
  intro F U ρ σ H D3 D2 e R q k
  refine hv F U ρ σ H _ _ e R q fun r v ρ1 H1 R1 s1 q1 h1 => ?_
  refine ho F U ρ1 σ H1 _ _ e R1 h1 fun o vo ρ2 H2 R2 s2 q2 h2 => ?_
  cases r with
  | sl _ => exact h2.elim
  | bx _ _ _ => exact h2.elim
  | val d =>
    obtain ⟨dl, up, a, rfl, u, t', wr, h3⟩ := ww_out R2 q2 h2
    cases dl <;> first | exact h3.elim | skip
    rename_i C' fs
    obtain ⟨ec, h4, h5⟩ := h3
    obtain ⟨dx, gs, z1, z2⟩ := t'
    have rd : Rp F.K H2 U d v := Rp.pres (s2.pres R1) _ _ q1
    have z3 : RpF F.K (upd H2 a (.ins C' dx (putF f v gs))) U (putF' f d fs) (putF f v gs) := RpF.pres (pres_w R2 u) _ _ (z2.put rd)
    obtain ⟨R', S'⟩ := wr (d' := .obj C' (putF' f d fs)) ⟨dx, _, upd_same, z3⟩
    exact ⟨a, C', dx, gs, rfl, z1, ec ▸ c, ec ▸ n, by rw [z2.len]; exact h4, k.nx _ _ _ _ R' h5⟩

/-! ### a new object; a method -/
theorem old_ins {x dx : Addr} {C : Addr} {ho : HO} (hx : H x = none) (hd : H dx = none) {a : Addr} {u : HO} (h : H a = some u) : a ≠ x ∧ upd (upd H dx ho) x (.ins C dx []) a = some u := by
  have nx : a ≠ x := fun e => by subst e; rw [hx] at h; cases h
  have nd : a ≠ dx := fun e => by subst e; rw [hd] at h; cases h
  exact ⟨nx, by rw [upd_ne nx, upd_ne nd]; exact h⟩
/-- the receiver's mode: par or pab -/
theorem wm_cons {m0 : Md} {d0 : D} {v0 : V} {ms : List Md} {ds : List D} {vs : List V} {x : Addr} : Wm (m0 :: ms) (d0 :: ds) (v0 :: vs) x ↔ (m0.sl d0).reg (some v0) x ∨ Wm ms ds vs x := by
  constructor
  · rintro ⟨i, m, d, v, h1, h2, h3, h4⟩
    cases i with
    | zero => cases h1; cases h2; cases h3; exact .inl h4
    | succ i => exact .inr ⟨i, m, d, v, by simpa using h1, by simpa using h2, by simpa using h3, h4⟩
  · rintro (h | ⟨i, m, d, v, h1, h2, h3, h4⟩)
    · exact ⟨0, m0, d0, v0, rfl, rfl, rfl, h⟩
    · exact ⟨i + 1, m, d, v, by simpa using h1, by simpa using h2, by simpa using h3, h4⟩
theorem reg_obj0 {m : Md} {C x y : Addr} (h : (m.sl (.obj C [])).reg (some (.ref x)) y) : y = x := by
  rcases h.2 with h | h
  · cases h; rfl
  · cases m <;> cases h
theorem After.tail {m0 : Md} {ms : List Md} {vs : List V} {x dx : Addr} {C : Addr} {U' : US} {o : D} {ds ds' : List D} {ho : HO} (hx : H x = none) (hd : H dx = none) (hu : ∀ a, U a → ∃ o, H a = some o) (hw : ∀ a, Wm ms ds vs a → U a)
    (A : After K (upd (upd H dx ho) x (.ins C dx [])) (fun b => U b ∨ b = x) (m0 :: ms) (.obj C [] :: ds) (.ref x :: vs) H' U' (o :: ds')) : After K H U ms ds vs H' U' ds' := by
  have nW : ∀ a, H a ≠ none → ¬ Wm ms ds vs a → ¬ Wm (m0 :: ms) (.obj C [] :: ds) (.ref x :: vs) a := fun a h n w => by
    rcases wm_cons.mp w with z | z
    · have := reg_obj0 z
      subst this; exact h hx
    · exact n z
  refine ⟨Nat.succ.inj A.len, fun a u h n => A.keep a u (old_ins hx hd h).2 (nW a (by rw [h]; simp) n), fun a u h => A.ktr a u (old_ins hx hd h).2, fun a u h n => A.shar a u (old_ins hx hd h).2 fun z => z.elim n (old_ins (C := C) (ho := ho) hx hd h).1,
    fun a h n => A.up a (.inl h) (nW a (by obtain ⟨o, e⟩ := hu a h; rw [e]; simp) n), A.tr, fun i m v d h1 w h2 h3 => A.par (i + 1) m v d (by simpa using h1) w (by simpa using h2) (by simpa using h3), fun y hy => ?_, fun i j m m' d d' v v' y h1 h2 h3 h4 h5 h6 h7 h8 => ?_⟩
  · rcases A.reg y (wm_cons.mpr (.inr hy)) with z | z
    · rcases wm_cons.mp z with z | z
      · exact .inr (by rw [reg_obj0 z]; exact hx)
      · exact .inl z
    · refine .inr ?_
      cases e : H y with
      | none => rfl
      | some u => rw [(old_ins hx hd e).2] at z; cases z
  · exact Nat.succ.inj (A.inj (i + 1) (j + 1) m m' d d' v v' y (by simpa using h1) (by simpa using h2) (by simpa using h3) (by simpa using h4) (by simpa using h5) (by simpa using h6) h7 h8)
def oMake (C : Addr) (ms : List Md) (sp : S3) (g : T3A) : T3O' := fun ρ Q => g ρ fun rs ρ1 => apart ms rs = true ∧ wo (argsD ms rs ρ1) fun ds => sp (.obj C [] :: ds) (fun r ds' => r.isNon = true ∧ match ds' with
  | o :: ds'' => Q o (updE ms rs ds'' ρ1)
  | [] => False) (fun _ _ => False)
theorem isNon_rp {d : D} {v : V} (h : d.isNon = true) (r : Rp K H U d v) : v = .non := by
  cases d <;> first | (simp only [Rp] at r; exact r) | cases h
/-- the arguments of a making -/
theorem make_args (R : Rel F U ρ σ H) {m0 : Md} {ms : List Md} {rs : List Rs} {vs : List V} {ds : List D} (mw : m0.isW = true) (AO : ArgsOk F.K H U ms ds vs) (own : ∀ a, Wm ms ds vs a → Own ρ σ a) {x dx C : Addr} (hx : H x = none) (hd : H dx = none) :
    ArgsOk F.K (upd (upd H dx (.own x)) x (.ins C dx [])) (fun b => U b ∨ b = x) (m0 :: ms) (.obj C [] :: ds) (.ref x :: vs) := by
  have P : Pres H U (upd (upd H dx (.own x)) x (.ins C dx [])) (fun b => U b ∨ b = x) := fun a u h n => ⟨(old_ins hx hd h).2, fun z => z.elim n (old_ins (C := C) (ho := .own x) hx hd h).1⟩
  have wx : ∀ a, Wm ms ds vs a → a ≠ x := fun a w e => by
    subst e
    obtain ⟨o, ho⟩ := R.tr a (R.ownU (own a w))
    rw [hx] at ho; cases ho
  refine ⟨congrArg (· + 1) AO.l1, congrArg (· + 1) AO.l2, fun i m d v e1 e2 e3 => ?_, fun i j m m' d d' v v' y h1 h2 h3 h4 h5 h6 h7 h8 => ?_, fun a z => ?_⟩
  · cases i with
    | zero =>
      cases e1; cases e2; cases e3
      cases m0 <;> first | (cases mw; done) | exact ⟨x, rfl, .inr rfl, dx, [], upd_same, by simp only [RpF]⟩ | exact ⟨x, rfl, .inr rfl, dx, [], upd_same, by simp only [OvF], by simp [bxsF]⟩
    | succ i =>
      have z := AO.ok i m d v (by simpa using e1) (by simpa using e2) (by simpa using e3)
      have wr : SlotOk F.K H U (m.sl d) (some v) → SlotOk F.K (upd (upd H dx (.own x)) x (.ins C dx [])) (fun b => U b ∨ b = x) (m.sl d) (some v) := fun z => z.pres P fun y _ u => ⟨.inl u, fun o h => (old_ins hx hd h).2⟩
      cases m with
      | shr => exact Rp.pres P _ _ z
      | brw =>
        rcases z with z | ⟨a, ea, t, nw⟩
        · exact .inl (Rp.pres P _ _ z)
        · refine .inr ⟨a, ea, t.pres P fun y _ o h => (old_ins hx hd h).2, fun y hy w => ?_⟩
          rcases wm_cons.mp w with w | w
          · have := reg_obj0 w
            subst this
            obtain ⟨o, ho⟩ := t.some y hy
            rw [hx] at ho; cases ho
          · exact nw y hy w
      | par => exact wr z
      | pab => exact wr z
  · cases i with
    | zero =>
      cases h1; cases h3; cases h5
      cases j with
      | zero => rfl
      | succ j => exact absurd (reg_obj0 h7) (wx y ⟨j, m', d', v', by simpa using h2, by simpa using h4, by simpa using h6, h8⟩)
    | succ i =>
      cases j with
      | zero =>
        cases h2; cases h4; cases h6
        exact absurd (reg_obj0 h8) (wx y ⟨i, m, d, v, by simpa using h1, by simpa using h3, by simpa using h5, h7⟩)
      | succ j => exact congrArg (· + 1) (AO.inj i j m m' d d' v v' y (by simpa using h1) (by simpa using h2) (by simpa using h3) (by simpa using h4) (by simpa using h5) (by simpa using h6) h7 h8)
  · rcases z with z | z
    · obtain ⟨o, ho⟩ := R.tr a z
      exact ⟨o, (old_ins hx hd ho).2⟩
    · subst z; exact ⟨_, upd_same⟩
theorem simOMake {C : Addr} {E : XK} {ms : List Md} {sp : S3} {u : TA} {g : T3A} (np : noPab ms = true) (h : SimA K u g) : SimEO K (tMake C (Lift K (.par :: ms) sp) [] E u) (oMake C ms sp g) := by
  intro F U ρ σ H Q3 Q2 e R q k
  refine h F U ρ σ H _ _ e R q fun rs vs ρ1 H1 R1 s1 q1 ⟨ap, h1⟩ => ?_
  obtain ⟨ds, ed, h1⟩ := wo_out h1
  subst e
  obtain ⟨AO, own⟩ := args_ok R1 q1 ed ap
  intro x dx hx hd hne
  rw [List.append_nil]
  refine ⟨fun b => U b ∨ b = x, .obj C [] :: ds, _, _, make_args (rs := rs) R1 rfl AO own hx hd, h1, fun v H' U' d ds' A rp q => ?_, fun _ _ _ _ _ _ _ _ _ q => q.elim⟩
  obtain ⟨hnon, q⟩ := q
  refine ⟨isNon_rp hnon rp, ?_⟩
  cases ds' with
  | nil => exact q.elim
  | cons o ds'' =>
    have q : Q3 o (updE ms rs ds'' ρ1) := q
    obtain ⟨x', ex', ux, tx⟩ : SlotOk F.K H' U' (.par o) (some (.ref x)) := A.par 0 .par (.ref x) o rfl rfl rfl rfl
    cases ex'
    have A' := A.tail hx hd R1.tr fun a w => R1.ownU (own a w)
    have up := A'.upA AO (sameB_no np)
    obtain ⟨R2, S2⟩ := R1.afterS q1 ed ap (sameB_no np) A'
    have R3 : Rel F (fun b => U b ∨ b = x) (updE ms rs ds'' ρ1) σ H' := R2.shrink (fun b z => z.elim (up b) fun e => by rw [e]; exact ux) (fun b z n => .inl (R.up b z n)) fun a z => .inl (R1.ownU (S2.own a z))
    have p : Pres H' U' H' (fun b => U b ∨ b = x) := fun b o h n => ⟨h, fun z => n (z.elim (up b) fun e => by rw [e]; exact ux)⟩
    exact k o x _ _ R3 (s1.trans S2) (back_none s1 hx) (tx.pres p fun _ h => h) q
/-- o.m(..): ms tells the receiver first -/
def eMeth (C : Addr) (m : Str) (ms : List Md) (sp : S3) (fo : T3E) (g : T3A) : T3E := fun ρ Q => fo ρ fun r ρ1 => wd r ρ1 fun d => match d with
  | .obj C' fs => (C' = C ∧ fs.lookup m = none) ∧ g ρ1 fun rs ρ2 => apart ms (r :: rs) = true ∧ wo (argsD ms (r :: rs) ρ2) fun ds => sp ds (fun d ds' => Q (.val d) (updE ms (r :: rs) ds' ρ2)) (fun d ds' => Q (.val d) (updE ms (r :: rs) ds' ρ2))
  | _ => False
theorem simMeth {C : Addr} {m : Str} {E : XK} {ms : List Md} {sp : S3} {t : TE} {u : TA} {fo : T3E} {g : T3A} (np : noPab ms = true) (ho : SimE K t fo) (h : SimA K u g) : SimE K (tMeth C m (Lift K ms sp) [] E t u) (eMeth C m ms sp fo g) := by
  intro F U ρ σ H Q3 Q2 e R q k
  refine ho F U ρ σ H _ _ e R q fun r v ρ0 H0 R0 s0 q0 h0 => ?_
  obtain ⟨d, e1, h0⟩ := wd_out h0
  cases d <;> first | exact h0.elim | skip
  rename_i C' fs
  obtain ⟨⟨ec, hm⟩, h2⟩ := h0
  obtain ⟨a, dx, gs, rfl, z1, z2⟩ := q0.obj R0 e1
  refine ⟨a, dx, gs, rfl, ec ▸ z1, z2.no hm, ?_⟩
  refine h F U ρ0 σ H0 _ _ e R0 h2 fun rs vs ρ1 H1 R1 s1 q1 ⟨ap, h1⟩ => ?_
  obtain ⟨ds, ed, h1⟩ := wo_out h1
  subst e
  have q1 : RVs F U σ H1 (r :: rs) (.ref a :: vs) := .cons (q0.pres (s1.pres R0)) q1
  have s1 := s0.trans s1
  rw [List.append_nil]
  exact callN np R s1 R1 q1 ap ed h1 k E
/-- o.f, a property -/
def eProp (C : Addr) (md : Md) (sp : S3) (fo : T3E) : T3E := fun ρ Q => fo ρ fun r ρ1 => wd r ρ1 fun d => match d with
  | .obj C' fs => C' = C ∧ apart [md] [r] = true ∧ wo (argsD [md] [r] ρ1) fun ds => sp ds (fun d ds' => Q (.val d) (updE [md] [r] ds' ρ1)) (fun d ds' => Q (.val d) (updE [md] [r] ds' ρ1))
  | _ => False
theorem simProp {C : Addr} {E : XK} {md : Md} {sp : S3} {t : TE} {fo : T3E} (np : noPab [md] = true) (ho : SimE K t fo) : SimE K (tProp C (Lift K [md] sp) [] E t) (eProp C md sp fo) := by
  intro F U ρ σ H Q3 Q2 e R q k
  refine ho F U ρ σ H _ _ e R q fun r v ρ1 H1 R1 s1 q0 h0 => ?_
  obtain ⟨d, e1, h0⟩ := wd_out h0
  cases d <;> first | exact h0.elim | skip
  rename_i C' fs
  obtain ⟨ec, ap, h2⟩ := h0
  obtain ⟨ds, ed, h1⟩ := wo_out h2
  obtain ⟨a, dx, gs, rfl, z1, z2⟩ := q0.obj R1 e1
  refine ⟨a, dx, gs, rfl, ec ▸ z1, ?_⟩
  subst e
  have q1 : RVs F U σ H1 [r] [.ref a] := .cons q0 .nil
  exact callN np R s1 R1 q1 ap ed h1 k E
end
end L3

set_option Elab.async false
set_option linter.all false
set_option maxRecDepth 100000
namespace L3
open PySem PySem.Spec PyProof.Rows L2

set_option maxHeartbeats 1000000 in
theorem meets_enumerate_newT {v : Value} {o : Obj} {H : Heap → Prop} (B : Begins v o H) :
    Meets (Builtin.«enumerate.__new__» ⟨[.type "enumerate", v], []⟩) (fun _ R s => H s.heap ∧
      R (.ok (.ret (.ref (s.heap.push o).objs.size))) { s with heap := (s.heap.push o).push { cls := .type "enumerate", data := .fields #[.none, .bool false, .ref s.heap.objs.size, rawInt 0, .none, .none] } }) :=
  .of_wp fun prog w A R s h => by
    obtain ⟨hp, g, d, tk, os⟩ := s; obtain ⟨h1, h⟩ := h
    have hsub := sub_enumerate
    have q1 : ∀ {A' : Around} {E : Value → Shared → Prop} {Q : Value → Shared → Prop}, Q (.ref hp.objs.size) ⟨hp.push o, g, d, tk, os⟩ → wpAny (model prog w) A' (pyIter v) Q E ⟨hp, g, d, tk, os⟩ :=
      fun q => B.iter prog w _ _ ⟨hp, g, d, tk, os⟩ _ h1 q
    wp_walk using q1
    refine wpAny_stack_any fun st => wpAny_pure ?_
    split
    · rename_i c _ _ _ _ _
      cases (c == Value.type "enumerate")
      · wp_walk using q1
        exact ⟨_, rfl, h⟩
      · wp_walk using q1
        exact ⟨_, rfl, h⟩
    · wp_walk using q1
      exact ⟨_, rfl, h⟩
theorem enum_beginsT {prog : Program} {w : World} {A : Around} {E : Value → Shared → Prop} {s : Shared} {v : Value} {o : Obj} {H : Heap → Prop} {Q : Value → Shared → Prop} (B : Begins v o H) (h1 : H s.heap)
    (h : ∀ h', IsEnum h' (s.heap.objs.size + 1) s.heap.objs.size 0 .none → h'.get? s.heap.objs.size = some o → h'.objs.size = s.heap.objs.size + 2 →
      (∀ b o, s.heap.get? b = some o → h'.get? b = some o) → Q (.ref (s.heap.objs.size + 1)) { s with heap := h' }) :
    wpAny (model prog w) A (call (.type "enumerate") [v]) Q E s := by
  refine callType_new F.called_enumerate (by decide) (F.typeCall_enumerate_1 _) (F.newCall_enumerate_1 _) (fun obj => F.args_object_init_2 obj _) F.entry_enumerate_new
    (meets_enumerate_newT B) ⟨h1, ?_⟩
  have hz : (s.heap.push o).objs.size = s.heap.objs.size + 1 := Heap.size_push ..
  show _ ∧ _
  rw [hz]
  have he : IsEnum ((s.heap.push o).push { cls := .type "enumerate", data := .fields #[.none, .bool false, .ref s.heap.objs.size, rawInt 0, .none, .none] }) (s.heap.objs.size + 1) s.heap.objs.size 0 .none := by
    have := Heap.get?_push_size (s.heap.push o) (o := { cls := .type "enumerate", data := .fields #[.none, .bool false, .ref s.heap.objs.size, rawInt 0, .none, .none] }) rfl
    rw [hz] at this; exact this
  refine ⟨⟨_, he, rfl⟩, h _ he (Heap.get?_push_of_some _ (Heap.get?_push_size _ B.free)) (by rw [Heap.size_push, hz]) fun b o x => Heap.get?_push_of_some _ (Heap.get?_push_of_some _ x)⟩
/-- the tuple at a, each item in a new pair -/
def IteT (K : PySem.W.Frag) (a : Addr) : It :=
  ⟨fun i H => ∃ (xs : List V) (x : V), SqT K H a xs ∧ xs[i]? = some x, fun i H v H' => ∃ T x, v = .ref T ∧ H T = none ∧ H' = upd H T (.tup [.int (i : Nat), x]) ∧ ∀ xs, SqT K H a xs → xs[i]? = some x, fun i H => ∃ xs : List V, SqT K H a xs ∧ xs.length ≤ i⟩
theorem turn_enumT {P : Program} {w : World} {K : PySem.W.Frag} {elts : List Expr} {kk : Nat} {tpos : Pos} (a e it : Addr) :
    Turn P w K (.Tuple elts kk tpos) (IteT K a) [e, it] e (fun i h => (∃ old, IsEnum h e it ((i : Nat) : Int) old) ∧ h.IsTupleIter it a i ∧ e ≠ it) where
  mem := by simp
  obj := fun i h st b hb => by
    obtain ⟨⟨old, he⟩, ⟨o, ho, hc, hd⟩, _⟩ := st
    have e' : b = e ∨ b = it := by simpa using hb
    rcases e' with z | z
    · rw [z]; exact ⟨_, he, fun v q => nomatch q⟩
    · rw [z]; exact ⟨o, ho, fun v q => by rw [hd] at q; cases q⟩
  keep := fun i h h' st k => let ⟨⟨old, he⟩, hi, hne⟩ := st; ⟨⟨old, k e (by simp) _ he⟩, hi.at fun o q => k it (by simp) o q, hne⟩
  item := by
    intro X hP hw hK hc i pins s σ H E I hf st hg
    subst hP hw hK
    obtain ⟨⟨old, he⟩, hit, hne⟩ := st
    obtain ⟨xs, x, hq, hx⟩ := hg
    obtain ⟨its, rv, p, hz⟩ := I.tuple hq
    obtain ⟨u, hu, ru⟩ := rv.get hx
    have hel : e < s.heap.objs.size := Heap.lt_size he
    have hil : it < s.heap.objs.size := by obtain ⟨_, q, _⟩ := hit; exact Heap.lt_size q
    have hh := I.ok.hd hc
    have hea : e ≠ a := fun z => by
      obtain ⟨o, ho, hcl, _⟩ := p
      subst z
      have he' := he
      unfold IsEnum at he'
      rw [ho] at he'; cases he'
      injection hcl with z; exact absurd z (by decide)
    have hia : a ≠ it := fun z => by
      obtain ⟨o, ho, hcl, _⟩ := p
      subst z
      obtain ⟨o', ho', hcl', _⟩ := hit
      rw [ho] at ho'; cases ho'
      rw [hcl] at hcl'
      injection hcl' with z; exact absurd z (by decide)
    have D := Draws.tuple (prog := X.prog) (w := X.w) (A := X.A.in1) (show X.A.in1.handled = none from hh) it a hia its.toArray
    have pl : s.heap.IsTuple a its.toArray := p
    have hlt : i < its.toArray.size := by
      rw [List.size_toArray]; exact (List.getElem?_eq_some_iff.mp hu).1
    refine wpAny_pyNext_enum_itemD D he ⟨hit, pl⟩ hlt hne (by simp [hne, hea]) fun y h' tk hP ho st' hT hsz hk => ?_
    have ey : y = u := by
      have hP : its.toArray[i]? = some y := hP
      have : its[i]? = some y := by simpa using hP
      rw [hu] at this; exact (Option.some.inj this).symm
    subst ey
    refine ⟨_, rfl, wpAny_letOwnedTupleGo_enum (s := { s with heap := h', toks := tk + 1 }) ho fun h'' he' sb => ?_⟩
    have hT2 : h''.get? s.heap.objs.size = some { cls := .type "tuple", data := .seq #[.int i tk, y] } := (sb.2 _ (Nat.ne_of_gt hel)).trans hT
    have new : ObjOk X.prog X.w (upd H s.heap.objs.size (.tup [.int (i : Nat), x])) h'' s.heap.objs.size (.tup [.int (i : Nat), x]) :=
      ⟨by show 2 ≤ sizeLine; decide, [.int i tk, y], .cons ⟨_, rfl⟩ (.cons ru .nil), ⟨_, hT2, rfl, _, rfl⟩⟩
    have I1 : Inv X pins σ (upd H s.heap.objs.size (.tup [.int (i : Nat), x])) { s with heap := h'', toks := tk + 1 } :=
      I.turnedNew (ch := [e, it]) (fun b ob hb q => (sb.2 b (fun z => hb (by simp [z]))).trans (hk b ob (fun z => hb (by simp [z])) (fun z => hb (by simp [z])) q)) hf (Nat.le_refl _) new
    refine ⟨.ref s.heap.objs.size, _, I1, rfl, ⟨_, x, rfl, I.hok.fresh (Nat.le_refl _), rfl, fun ys hy => ?_⟩, ⟨⟨y, ?_⟩, st'.1.at fun o q => (sb.2 it (Ne.symm hne)).trans q, hne⟩, fun b hb => ?_⟩
    · obtain ⟨its2, rv2, p2, _⟩ := I.tuple hy
      have e2 : its2 = its := by
        obtain ⟨o1, g1, _, n1, g3⟩ := (show s.heap.IsTuple a its.toArray from p)
        obtain ⟨o2, k1, _, n2, k3⟩ := (show s.heap.IsTuple a its2.toArray from p2)
        rw [g1] at k1; cases k1
        rw [g3] at k3
        injection k3 with k3 _
        have := congrArg Array.toList k3
        simpa using this.symm
      subst e2
      have : ys = xs := by
        have go : ∀ {as bs : List V} {us : List Value}, Vals as us → Vals bs us → bs = as := fun {as bs us} h1 => by
          induction h1 generalizing bs with
          | nil => intro h2; cases h2; rfl
          | @cons p q ps qs hpq _ ih =>
            intro h2
            cases h2 with
            | @cons p' q' ps' qs' hp' ht' => rw [ih ht', hpq.inj hp']
        exact go rv rv2
      rw [this]; exact hx
    · have e1 : ((i + 1 : Nat) : Int) = (i : Int) + 1 := by omega
      rw [e1]; exact he'
    · have hb' : b < s.heap.objs.size := by
        have e' : b = e ∨ b = it := by simpa using hb
        rcases e' with z | z
        · rw [z]; exact hel
        · rw [z]; exact hil
      rw [upd_ne (Nat.ne_of_lt hb')]
      exact (hf b hb).1
  done := by
    intro X hP hw hK hc i pins s σ H E I hf st hg
    subst hP hw hK
    obtain ⟨⟨old, he⟩, hit, hne⟩ := st
    obtain ⟨xs, hq, hx⟩ := hg
    obtain ⟨its, rv, p, hz⟩ := I.tuple hq
    have hh := I.ok.hd hc
    have hia : a ≠ it := fun z => by
      obtain ⟨o, ho, hcl, _⟩ := p
      subst z
      obtain ⟨o', ho', hcl', _⟩ := hit
      rw [ho] at ho'; cases ho'
      rw [hcl] at hcl'
      injection hcl' with z; exact absurd z (by decide)
    have hl := rv.length
    obtain ⟨f0, f1, f2, f3, f4, f5⟩ := hf it (by simp)
    have hT : s.TypeIs (.ref e) "enumerate" := ⟨_, he, rfl⟩
    unfold pyNext
    refine wpAny_bind (wpAny_attempt (wpAny_callSpecial?_slot (name := Str.ofString "__next__") hT F.slot_enumerate_next
      (wpAny_call_entry F.slot_enumerate_next hT F.entry_enumerate_next ?_ (F.args_enumerate_next_1 _))))
    show wpAny _ _ (field (.ref e) 2 >>= _) _ _ _
    refine wpAny_bind (wpAny_field he rfl (x := .ref it) rfl ?_)
    refine wpAny_bind (wpAny_nextOf_tuple_end hh hit (show s.heap.IsTuple a its.toArray from p) (by simp; omega) fun h' x eb hx' => ?_)
    obtain ⟨o, ho, hc2⟩ := hx'
    refine wpAny_bind (wpAny_isInstance (T := "StopIteration") (b := true) ⟨o, ho, hc2⟩ isSubtype_stop ?_)
    exact wpAny_pure ⟨rfl, I.turned (t' := s.toks) (fun b o hb q => eb b o hb q) f0 f1 f3 f4 f5⟩
  self := fun A i s Q E st h => let ⟨⟨_, he⟩, _⟩ := st; wpAny_pyIter_enum he h
def iEnumP (K : PySem.W.Frag) (ta : TA) : TI := fun σ H R => ta σ H fun vs H1 => ∃ a xs, vs = [.ref a] ∧ ((SqL K H1 a xs ∧ R (Ite K a) H1) ∨ (SqT K H1 a xs ∧ R (IteT K a) H1))
theorem pi_enumP {X : Cx} {e : Expr} {ta : TA} {p pos tpos : Pos} {elts : List Expr} {kk : Nat} (hg : Gl X "enumerate") (hm : X.mg "enumerate" = none) (ha : PA X [e] ta) (hs : starEach [e] X.env = [(false, eval e X.env)] := by rfl) :
    PI X (.Tuple elts kk tpos) (.Call (.Name "enumerate" p) [e] [] pos) (iEnumP X.K ta) := by
  refine ⟨fun pins s σ H R I h => ?_⟩
  refine Call_ (ld_blt I hg hm boot_enumerate (PyProof.Rows.callWith_type1 (thn (ha.run pos pins s σ H _ I h) fun us s1 ⟨vs, H1, I1, r1, q1⟩ => ?_) hs rfl))
  obtain ⟨a, xs, ex, q⟩ := q1
  subst ex
  cases r1 with
  | cons r rr =>
    cases rr
    cases r
    rcases q with ⟨hq, q⟩ | ⟨hq, q⟩
    · obtain ⟨its, rv, p', hz⟩ := I1.list hq
      refine call_enumerate_list p'.isList fun h' he hit hsz hk => wpAny_pyIter_enum he ?_
      have I2 : Inv X pins σ H1 { s1 with heap := h' } := I1.kept (t' := s1.toks) hk
      refine ⟨s1.heap.objs.size + 1, [s1.heap.objs.size + 1, s1.heap.objs.size], _, _, H1, rfl, I2, turn_enum a (s1.heap.objs.size + 1) s1.heap.objs.size, ⟨⟨.none, he⟩, hit, Nat.succ_ne_self _⟩, fun b hb => ?_, q⟩
      have e' : b = s1.heap.objs.size + 1 ∨ b = s1.heap.objs.size := by simpa using hb
      have hle : s1.heap.objs.size ≤ b := by
        rcases e' with z | z
        · rw [z]; exact Nat.le_add_right _ _
        · rw [z]; exact Nat.le_refl _
      exact I1.fpOk hle (I1.hok.fresh hle)
    · obtain ⟨its, rv, p', hz⟩ := I1.tuple hq
      refine enum_beginsT (begins_tuple a its.toArray) (show s1.heap.IsTuple a its.toArray from p') fun h' he hit hsz hk => wpAny_pyIter_enum he ?_
      have I2 : Inv X pins σ H1 { s1 with heap := h' } := I1.kept (t' := s1.toks) hk
      refine ⟨s1.heap.objs.size + 1, [s1.heap.objs.size + 1, s1.heap.objs.size], _, _, H1, rfl, I2, turn_enumT a (s1.heap.objs.size + 1) s1.heap.objs.size, ⟨⟨.none, he⟩, ⟨_, hit, rfl, rfl⟩, Nat.succ_ne_self _⟩, fun b hb => ?_, q⟩
      have e' : b = s1.heap.objs.size + 1 ∨ b = s1.heap.objs.size := by simpa using hb
      have hle : s1.heap.objs.size ≤ b := by
        rcases e' with z | z
        · rw [z]; exact Nat.le_add_right _ _
        · rw [z]; exact Nat.le_refl _
      exact I1.fpOk hle (I1.hok.fresh hle)
section
variable {F : Fr} {U U2 : US} {ρ ρ' ρ2 : En} {σ σ2 : L2.St} {H H' H2 : Hp} {K : PySem.W.Frag}
def iEP (g : T3A) : T3I := fun ρ Q => g ρ fun rs ρ1 => match rs with
  | [x] => wd x ρ1 fun d => match d with
    | .lst ds => Q ⟨pairsD ds, x⟩ ρ1
    | .tup ds => Q ⟨pairsD ds, x⟩ ρ1
    | _ => False
  | _ => False
theorem simIEP {t : TA} {g : T3A} (h : SimA K t g) : SimI K true (iEnumP K t) (iEP g) := by
  intro F U ρ σ H Q3 R2 e R q k
  refine h F U ρ σ H _ _ e R q fun rs vs ρ1 H1 R1 s1 q1 h1 => ?_
  subst e
  cases q1 with
  | nil => exact h1.elim
  | cons q1 qs =>
    cases qs with
    | cons _ _ => exact h1.elim
    | nil =>
      rename_i r v
      obtain ⟨d, e1, h1⟩ := wd_out h1
      cases d <;> first | exact h1.elim | skip
      · rename_i ds
        obtain ⟨a, vs, rfl, z1, z2, z3⟩ := q1.tup R1 e1
        refine ⟨a, vs, rfl, .inr ⟨z1, k _ ⟨_, r⟩ ρ1 H1 R1 s1 ?_ h1⟩⟩
        intro F2 U2 ρ2 σ2 H2 eK R2' p kp i
        have z4 := Rp.pres p _ _ z3
        simp only [Rp] at z4
        obtain ⟨a', ws, ea, w1, w2⟩ := z4
        cases ea
        refine ⟨fun d hd => ?_, fun hi => ⟨ws, w1.sq, by rw [w2.len]; rw [pairsD_len] at hi; exact hi⟩⟩
        obtain ⟨x, hx, rfl⟩ := pairsD_get hd
        obtain ⟨y, hy, ry⟩ := w2.get hx
        refine ⟨⟨ws, y, w1.sq, hy⟩, fun z H3 hz => ?_⟩
        obtain ⟨T, y', rfl, hT, rfl, hz⟩ := hz
        have := hz ws w1.sq
        rw [hy] at this; cases this
        refine ⟨ext_new hT, .inr ⟨rfl, T, _, _, rfl, rfl, .inl (.inl upd_same), ?_⟩⟩
        simp only [RpAll, Rp]
        exact ⟨_, _, rfl, rfl, _, _, rfl, Rp.pres (fun a o h n => ⟨ext_new hT a o h, n⟩) x y ry, rfl⟩
      · rename_i ds
        obtain ⟨a, vs, rfl, z1, z2, z3⟩ := heldL R1 q1 e1
        refine ⟨a, vs, rfl, .inl ⟨.inl z1, k _ ⟨_, r⟩ ρ1 H1 R1 s1 ?_ h1⟩⟩
        intro F2 U2 ρ2 σ2 H2 eK R2' p kp i
        have w1 := z3 H2 U2 p kp
        have w2 := RpAll.pres p ds vs z2
        refine ⟨fun d hd => ?_, fun hi => ⟨vs, .inl w1, by rw [w2.len]; rw [pairsD_len] at hi; exact hi⟩⟩
        obtain ⟨x, hx, rfl⟩ := pairsD_get hd
        obtain ⟨y, hy, ry⟩ := w2.get hx
        refine ⟨⟨vs, y, .inl w1, hy⟩, fun z H3 hz => ?_⟩
        obtain ⟨T, y', rfl, hT, rfl, hz⟩ := hz
        have := hz vs (.inl w1)
        rw [hy] at this; cases this
        refine ⟨ext_new hT, .inr ⟨rfl, T, _, _, rfl, rfl, .inl (.inl upd_same), ?_⟩⟩
        simp only [RpAll, Rp]
        exact ⟨_, _, rfl, rfl, _, _, rfl, Rp.pres (fun a o h n => ⟨ext_new hT a o h, n⟩) x y ry, rfl⟩
end
end L3

set_option Elab.async false
set_option linter.all false
set_option maxRecDepth 100000
namespace L3
open PySem PySem.Spec L2
open PyProof.Rows (b2i)
section
variable {F : Fr} {U U2 U' : US} {ρ ρ' ρ2 ρ3 ρ5 : En} {σ σ2 σ3 : L2.St} {H H' H2 H3 H5 : Hp} {K : PySem.W.Frag}

/-! ### comprehensions -/
def wipeE (ρ : En) : List Nat → En
  | [] => ρ
  | v :: vs => (wipeE ρ vs).set v .emp
def noW (ρ : En) (vs : List Nat) : Bool := vs.all fun v => match ρ[v]? with
  | some .emp => true
  | some (.shr _) => true
  | _ => false
def restE (ρ0 : En) : List Nat → En → En
  | [], ρ => ρ
  | v :: vs, ρ => match ρ0[v]? with
    | some s => (restE ρ0 vs ρ).set v s
    | none => restE ρ0 vs ρ
theorem wipeE_get (ρ : En) : ∀ (vs : List Nat) (j : Nat), (wipeE ρ vs)[j]? = if j ∈ vs then (ρ[j]?).map (fun _ => .emp) else ρ[j]?
  | [], j => by simp [wipeE]
  | v :: vs, j => by
    have hl : (wipeE ρ vs).length = ρ.length := by
      clear j
      induction vs with
      | nil => rfl
      | cons v vs ih => unfold wipeE; rw [List.length_set, ih]
    unfold wipeE
    by_cases e : v = j
    · subst e
      by_cases h : v < ρ.length
      · rw [List.getElem?_set_self (by rw [hl]; exact h)]
        simp [List.getElem?_eq_getElem h]
      · rw [List.getElem?_eq_none (by rw [List.length_set, hl]; omega)]
        simp [List.getElem?_eq_none (Nat.le_of_not_lt h)]
    · rw [List.getElem?_set_ne e, wipeE_get ρ vs j]
      have : (j ∈ v :: vs) = (j ∈ vs) := by simp [Ne.symm e]
      simp only [this]
theorem restE_len {ρ0 : En} : ∀ {vs : List Nat} {ρ : En}, (restE ρ0 vs ρ).length = ρ.length
  | [], _ => rfl
  | v :: vs, ρ => by
    unfold restE
    cases ρ0[v]? with
    | none => exact restE_len
    | some s => show ((restE ρ0 vs ρ).set v s).length = _; rw [List.length_set]; exact restE_len
theorem restE_get {ρ0 : En} : ∀ {vs : List Nat} {ρ : En} {j : Nat}, ρ.length = ρ0.length → (restE ρ0 vs ρ)[j]? = if j ∈ vs then ρ0[j]? else ρ[j]?
  | [], ρ, j, _ => by simp [restE]
  | v :: vs, ρ, j, hl => by
    unfold restE
    cases h : ρ0[v]? with
    | none =>
      show (restE ρ0 vs ρ)[j]? = _
      rw [restE_get hl]
      by_cases e : j = v
      · subst e
        have : ρ[j]? = none := List.getElem?_eq_none (by rw [hl]; exact List.getElem?_eq_none_iff.mp h)
        simp [h, this]
      · simp [e]
    | some s =>
      show ((restE ρ0 vs ρ).set v s)[j]? = _
      by_cases e : v = j
      · subst e
        rw [List.getElem?_set_self (by rw [restE_len, hl]; exact (List.getElem?_eq_some_iff.mp h).1)]
        simp [h]
      · rw [List.getElem?_set_ne e, restE_get hl]
        simp [Ne.symm e]
theorem noW_out {vs : List Nat} (h : noW ρ vs = true) {v : Nat} (hv : v ∈ vs) : ∃ s, ρ[v]? = some s ∧ s.locked = false ∧ s.isW = false ∧ (s = .emp ∨ ∃ d, s = .shr d) := by
  have := List.all_eq_true.mp h v hv
  cases e : ρ[v]? with
  | none => rw [e] at this; cases this
  | some s =>
    rw [e] at this
    cases s with
    | emp => exact ⟨.emp, rfl, rfl, rfl, .inl rfl⟩
    | shr d => exact ⟨.shr d, rfl, rfl, rfl, .inr ⟨d, rfl⟩⟩
    | _ => cases this
theorem wipe_idem {vs : List Nat} : wipe (wipe σ vs) vs = wipe σ vs := by
  apply List.ext_getElem?
  intro j
  rw [wipe_get, wipe_get]
  by_cases h : j ∈ vs
  · rw [if_pos h, if_pos h]
    cases σ[j]? <;> rfl
  · rw [if_neg h, if_neg h]
theorem Rel.wipe (R : Rel F U ρ σ H) : ∀ {vs : List Nat}, noW ρ vs = true → Rel F U (wipeE ρ vs) (L2.wipe σ vs) H
  | [], _ => R
  | v :: vs, h => by
    have h2 : noW ρ vs = true := by
      unfold noW at h ⊢
      rw [List.all_cons, Bool.and_eq_true] at h
      exact h.2
    have R2 := Rel.wipe R h2
    obtain ⟨s, hs, hl, _⟩ := noW_out h (List.mem_cons_self ..)
    have : ∃ s' : Sl, (wipeE ρ vs)[v]? = some s' ∧ s'.locked = false := by
      rw [wipeE_get, hs]
      by_cases e : v ∈ vs
      · rw [if_pos e]; exact ⟨.emp, rfl, rfl⟩
      · rw [if_neg e]; exact ⟨s, rfl, hl⟩
    obtain ⟨s', h3, h4⟩ := this
    exact R2.setEmp h3 h4
theorem Own_wipe {vs : List Nat} {a : Addr} (h : Own (wipeE ρ vs) (L2.wipe σ vs) a) : Own ρ σ a := by
  obtain ⟨j, s, o, h1, h2, h3⟩ := h
  rw [wipeE_get] at h1
  rw [wipe_get] at h2
  by_cases hj : j ∈ vs
  · rw [if_pos hj] at h1
    obtain ⟨s', _, e⟩ := Option.map_eq_some_iff.mp h1
    subst e
    exact absurd h3 (reg_noW rfl)
  · rw [if_neg hj] at h1 h2
    exact ⟨j, s, o, h1, h2, h3⟩
theorem wipe_out {vs : List Nat} (h : L2.wipe σ3 vs = L2.wipe σ vs) {j : Nat} (hj : j ∉ vs) : σ3[j]? = σ[j]? := by
  have := congrArg (·[j]?) h
  simp only [wipe_get, if_neg hj] at this
  exact this
theorem Rel.rest (R : Rel F U ρ σ H) (R5 : Rel F U ρ5 σ3 H5) (P : Pres H U H5 U) {vs : List Nat} (hw : L2.wipe σ3 vs = L2.wipe σ vs) (no : noW ρ vs = true) :
    Rel F U (restE ρ vs ρ5) σ H5 ∧ ∀ a, Own (restE ρ vs ρ5) σ a → Own ρ5 σ3 a := by
  have hl3 : σ3.length = σ.length := by
    have := congrArg List.length hw
    rwa [wipe_length, wipe_length] at this
  have hl : ρ5.length = ρ.length := by rw [R5.len, R.len, hl3]
  have own : ∀ a, Own (restE ρ vs ρ5) σ a → Own ρ5 σ3 a := fun a ⟨j, s, o, h1, h2, h3⟩ => by
    rw [restE_get hl] at h1
    by_cases hj : j ∈ vs
    · rw [if_pos hj] at h1
      obtain ⟨s', k1, _, k3, _⟩ := noW_out no hj
      rw [h1] at k1; cases k1
      exact absurd h3 (reg_noW k3)
    · rw [if_neg hj] at h1
      exact ⟨j, s, o, h1, by rw [wipe_out hw hj]; exact h2, h3⟩
  refine ⟨⟨by rw [restE_len, R5.len, hl3], fun j s o h1 h2 => ?_, fun j d o h1 h2 => ?_, fun i j s t o o' a h1 h2 h5 h6 h3 h4 => ?_, R5.tr, R5.keep, R5.ktr, R5.shar, R5.up, fun a h => R5.new a (own a h), fun j s l h1 h2 => ?_, R.wu, R.b0, R.u0⟩, own⟩
  · rw [restE_get hl] at h1
    by_cases hj : j ∈ vs
    · rw [if_pos hj] at h1
      obtain ⟨s', k1, _, _, k4⟩ := noW_out no hj
      rw [h1] at k1; cases k1
      rcases k4 with rfl | ⟨d, rfl⟩
      · trivial
      · obtain ⟨v, e, r⟩ := R.slot j _ o h1 h2
        exact ⟨v, e, Rp.pres P d v r⟩
    · rw [if_neg hj] at h1
      exact R5.slot j s o h1 (by rw [wipe_out hw hj]; exact h2)
  · rw [restE_get hl] at h1
    by_cases hj : j ∈ vs
    · rw [if_pos hj] at h1
      obtain ⟨s', k1, _, _, k4⟩ := noW_out no hj
      rw [h1] at k1; cases k1
      rcases k4 with k4 | ⟨d, k4⟩ <;> cases k4
    · rw [if_neg hj] at h1
      rcases R5.bor j d o h1 (by rw [wipe_out hw hj]; exact h2) with z | ⟨b, e, t, n⟩
      · exact .inl z
      · exact .inr ⟨b, e, t, fun x hx z => n x hx (own x z)⟩
  · have f : ∀ {j : Nat} {t : Sl}, (restE ρ vs ρ5)[j]? = some t → t.isW = true → ρ5[j]? = some t ∧ j ∉ vs := fun {j t} h1 h2 => by
      rw [restE_get hl] at h1
      by_cases hj : j ∈ vs
      · rw [if_pos hj] at h1
        obtain ⟨s', k1, _, k3, _⟩ := noW_out no hj
        rw [h1] at k1; cases k1
        rw [h2] at k3; cases k3
      · rw [if_neg hj] at h1; exact ⟨h1, hj⟩
    obtain ⟨g1, g2⟩ := f h1 h3.1
    obtain ⟨g3, g4⟩ := f h2 h4.1
    exact R5.inj i j s t o o' a g1 g3 (by rw [wipe_out hw g2]; exact h5) (by rw [wipe_out hw g4]; exact h6) h3 h4
  · rw [restE_get hl] at h1
    by_cases hj : j ∈ vs
    · rw [if_pos hj] at h1
      exact R.lock j s l h1 h2
    · rw [if_neg hj] at h1
      obtain ⟨z1, z2⟩ := R5.lock j s l h1 h2
      exact ⟨z1, by rw [← wipe_out hw hj]; exact z2⟩
def lcL (g : T3G) (tt : T3T) (te : T3E) (vs : List Nat) (Q : List D → En → Prop) : List D → List D → En → Prop
  | [], acc, ρ => Q acc ρ
  | x :: xs, acc, ρ => noW ρ vs = true ∧ g x (wipeE ρ vs) fun ρ2 => tt ρ2 fun b ρ3 =>
    if b = true then te ρ3 fun r ρ4 => match r with
      | .val d => acc.length < sizeLine ∧ lcL g tt te vs Q xs (acc ++ [d]) (restE ρ vs ρ4)
      | _ => False
    else lcL g tt te vs Q xs acc (restE ρ vs ρ3)
def oLc (w : T3I) (g : T3G) (tt : T3T) (te : T3E) (vs : List Nat) : T3O' := fun ρ Q => w ρ fun it ρ1 => lcL g tt te vs (fun ds ρ2 => okL ρ1 it.r ρ2 ∧ Q (.lst ds) (unlockE ρ1 it.r ρ2)) it.items [] (lockE ρ1 it.r)
theorem Own_unlockI {i : Nat} {a : Addr} (h : Own (unlockI ρ i ρ2) σ a) : Own ρ2 σ a ∨ Own ρ σ a := by
  by_cases w : ∃ s, ρ[i]? = some s ∧ s.isW = true
  · obtain ⟨s, h1, w⟩ := w
    rw [unlockI_w h1 w] at h
    obtain ⟨j, t, o, q1, q2, q3⟩ := h
    rcases set_get q1 with ⟨rfl, rfl, _⟩ | ⟨_, q1⟩
    · exact .inr ⟨i, _, o, h1, q2, q3⟩
    · exact .inl ⟨j, t, o, q1, q2, q3⟩
  · rw [unlockI_no fun s e => Bool.eq_false_iff.mpr fun z => w ⟨s, e, z⟩] at h
    exact .inl h
theorem Own_unlock {r : Rs} {a : Addr} (h : Own (unlockE ρ r ρ2) σ a) : Own ρ2 σ a ∨ Own ρ σ a := by
  cases r with
  | val d => exact .inl h
  | sl i => exact Own_unlockI h
  | bx i f b => exact Own_unlockI h
theorem simLc {wk : Bool} {wi : TI} {g : TG} {tt : TT} {te : TE} {vs ix : List Nat} {w3 : T3I} {g3 : T3G} {tt3 : T3T} {te3 : T3E} (hw : SimI K wk wi w3) (hg : SimG K wk g g3 ix) (ht : SimT K tt tt3) (he : SimE K te te3) (hix : ix.all (fun i => vs.contains i) = true) :
    SimEO K (tLc wi g tt te vs) (oLc w3 g3 tt3 te3 vs) := by
  have hix : ∀ i ∈ ix, i ∈ vs := fun i hi => by simpa using List.all_eq_true.mp hix i hi
  intro F U ρ σ H Q3 Q2 e R q k
  refine hw F U ρ σ H _ _ e R q fun J it ρ1 H1 R1 s1 jok h1 => ?_
  intro D hD
  have Rf := loopIn R1 it.r
  have noU1 : ¬ U D := R1.noU hD
  have Rg : Rel (F.at U (lockE ρ1 it.r) σ H1) (fun b => U b ∨ b = D) (lockE ρ1 it.r) σ (upd H1 D (.lst [])) := Rf.grow hD (ext_new hD) upd_same
  have noL : ¬ Own (lockE ρ1 it.r) σ D := fun z => noU1 (Rf.ownU z)
  let Fl : Fr := F.at U (lockE ρ1 it.r) σ H1
  have eK : Fl.K = K := e
  refine ⟨fun i m H' => m = it.items.length - i ∧ i ≤ it.items.length ∧ ∃ ρ' acc dacc, Rel Fl (fun b => U b ∨ b = D) ρ' σ H' ∧ H' D = some (.lst acc) ∧ RpAll F.K H' (fun b => U b ∨ b = D) dacc acc ∧ (∀ a, Own ρ' σ a → Own (lockE ρ1 it.r) σ a) ∧
    lcL g3 tt3 te3 vs (fun ds ρ2 => okL ρ1 it.r ρ2 ∧ Q3 (.lst ds) (unlockE ρ1 it.r ρ2)) (it.items.drop i) dacc ρ', ⟨_, rfl, Nat.zero_le _, lockE ρ1 it.r, [], [], Rg, upd_same, by simp only [RpAll], fun _ h => h, h1⟩, ?_⟩
  rintro i m H' ⟨rfl, hi, ρ', acc, dacc, R', hacc, racc, hown, q'⟩
  have jk := jok Fl (fun b => U b ∨ b = D) ρ' σ H' eK R' R'.pres0 (fun a o h n => R'.keep a o h n) i
  obtain ⟨j1, j2⟩ := jk
  have noD : ¬ Own ρ' σ D := fun z => noL (hown D z)
  by_cases hl : i < it.items.length
  · right
    obtain ⟨d, hd⟩ : ∃ d, it.items[i]? = some d := ⟨_, List.getElem?_eq_getElem hl⟩
    have ed : it.items.drop i = d :: it.items.drop (i + 1) := by
      rw [List.drop_eq_getElem_cons hl]
      congr 1
      rw [List.getElem?_eq_getElem hl] at hd
      exact Option.some.inj hd
    rw [ed] at q'
    obtain ⟨no, q'⟩ := q'
    obtain ⟨g1, g2⟩ := j1 d hd
    refine ⟨g1, fun H2 => ∃ ρ' acc dacc, Rel Fl (fun b => U b ∨ b = D) ρ' σ H2 ∧ H2 D = some (.lst acc) ∧ RpAll F.K H2 (fun b => U b ∨ b = D) dacc acc ∧ (∀ a, Own ρ' σ a → Own (lockE ρ1 it.r) σ a) ∧
      lcL g3 tt3 te3 vs (fun ds ρ2 => okL ρ1 it.r ρ2 ∧ Q3 (.lst ds) (unlockE ρ1 it.r ρ2)) (it.items.drop (i + 1)) dacc ρ', fun H2 z => ⟨it.items.length - (i + 1), by omega, rfl, hl, z⟩, fun x H3 hy => ?_⟩
    obtain ⟨ex, rx⟩ := g2 x H3 hy
    rw [← eK] at rx
    have Rx := R'.ext ex
    have Px : Pres H' (fun b => U b ∨ b = D) H3 (fun b => U b ∨ b = D) := fun a o h n => ⟨ex a o h, n⟩
    refine hg Fl (fun b => U b ∨ b = D) (wipeE ρ' vs) (L2.wipe σ vs) H3 d x _ _ eK (Rx.wipe no) rx q' fun ρ3 σ3 R3 o3 w3 q3 => ?_
    have w3 : L2.wipe σ3 vs = L2.wipe σ vs := (w3 vs hix).trans wipe_idem
    refine ⟨w3, ht Fl _ ρ3 σ3 H3 _ _ eK R3 q3 fun b ρ4 H4 R4 s4 q4 => ?_⟩
    have no3 : ¬ Own ρ3 σ3 D := fun z => noD (Own_wipe (o3 D z))
    have own3 : ∀ a, Own ρ3 σ3 a → Own (lockE ρ1 it.r) σ a := fun a z => hown a (Own_wipe (o3 a z))
    cases b with
    | false =>
      have P4 : Pres H3 (fun b => U b ∨ b = D) H4 (fun b => U b ∨ b = D) := s4.pres R3
      obtain ⟨R6, o6⟩ := Rx.rest R4 P4 w3 no
      exact ⟨_, acc, dacc, R6, s4.keep D _ (ex D _ hacc) no3, RpAll.pres P4 _ _ (RpAll.pres Px _ _ racc), fun a z => own3 a (s4.own a (o6 a z)), q4⟩
    | true =>
      refine he Fl _ ρ4 σ3 H4 _ _ eK R4 q4 fun r y ρ5 H5 R5 s5 q5 h5 => ?_
      have s45 := s4.trans s5
      have P5 : Pres H3 (fun b => U b ∨ b = D) H5 (fun b => U b ∨ b = D) := s45.pres R3
      obtain ⟨R6, o6⟩ := Rx.rest R5 P5 w3 no
      have own6 : ∀ a, Own (restE ρ' vs ρ5) σ a → Own (lockE ρ1 it.r) σ a := fun a z => own3 a (s45.own a (o6 a z))
      have no6 : ¬ Own (restE ρ' vs ρ5) σ D := fun z => noL (own6 D z)
      have racc5 := RpAll.pres P5 _ _ (RpAll.pres Px _ _ racc)
      cases r with
      | sl _ => exact h5.elim
      | bx _ _ _ => exact h5.elim
      | val d' =>
        have Pw : Pres H5 (fun b => U b ∨ b = D) (upd H5 D (.lst (acc ++ [y]))) (fun b => U b ∨ b = D) := fun a o h n => ⟨by rw [upd_ne (fun e => n (.inr e))]; exact h, n⟩
        refine ⟨acc, s45.keep D _ (ex D _ hacc) no3, by rw [racc5.len]; exact h5.1, restE ρ' vs ρ5, acc ++ [y], dacc ++ [d'], R6.poke no6 (.inr rfl) hD, upd_same, ?_, own6, h5.2⟩
        exact RpAll.pres Pw _ _ (racc5.app (.one q5))
  · left
    have e2 : i = it.items.length := by omega
    subst e2
    rw [List.drop_length] at q'
    obtain ⟨ok, q'⟩ := q'
    refine ⟨j2 (Nat.le_refl _), ?_⟩
    have Ro := loopOut R1 it.r R' ok
    refine k (.lst dacc) D _ H' Ro (s1.trans ⟨fun a o h n => R'.keep a o h fun z => n (Own_lockE R1 z), fun a z => ?_, fun a o h => R'.ktr a o h⟩) (back_none s1 hD) ⟨acc, hacc, racc⟩ q'
    rcases Own_unlock z with z | z
    · exact Own_lockE R1 (hown a z)
    · exact z
/-- the test of a comprehension without one -/
def fYes : T3T := fun ρ Q => Q true ρ

/-! ### t.index(x) -/
def tyTup (K : PySem.W.Frag) (x : V) (H : Hp) : Prop := ∃ a xs, x = .ref a ∧ (TupAt H a xs ∨ KT K a xs)
theorem ty_tup {X : Cx} : TyOk X "tuple" (tyTup X.K) := by
  intro pins σ H s x v I r ty
  obtain ⟨a, xs, rfl, h⟩ := ty
  cases r
  rcases h with ⟨o, hd, h⟩ | ⟨o, its, n, h1, h2, h3, h4, h5, h6⟩
  · obtain ⟨z1, z2⟩ := I.hok a _ h
    obtain ⟨_, its, _, ot, h3, h4, n, h5⟩ := z2
    rw [z1] at h3; cases h3
    refine ⟨⟨o, z1, h4⟩, fun b e => ?_⟩
    cases e
    exact ⟨o, z1, hd⟩
  · refine ⟨⟨o, I.kIn a o h1, h2⟩, fun b e => ?_⟩
    cases e
    exact ⟨o, I.kIn _ o h1, h3⟩
def rIndexT (K : PySem.W.Frag) : V → List V → Hp → VK → Prop := fun x xs H Q => ∃ (a : Addr) (y : V) (d : PyData) (ds : List PyData) (j : Nat) (z : PyData), x = V.ref a ∧ xs = [y] ∧ Dp K H (V.ref a) (.tuple ds) ∧ Dp K H y d ∧
  SeqAt.shaped (.tuple ds) = true ∧ SeqAt.shaped d = true ∧ ds[j]? = some z ∧ PyData.eqv z d = true ∧ (∀ (m : Nat) (z' : PyData), m < j → ds[m]? = some z' → PyData.eqv z' d = false) ∧ Q (.int (j : Nat)) H
theorem mt_indexT {X : Cx} (hu : X.A.units + 65 < cLine) : MtR X "tuple.index" (rIndexT X.K) := by
  intro pins s σ H x xs v us Q I rx rxs h
  obtain ⟨a, y, d, ds, j, z, rfl, rfl, hl, hy, sl, sd, hz, hzj, hno, q⟩ := h
  cases rx
  cases rxs with
  | cons ry rt =>
    rename_i uy ut
    cases rt
    obtain ⟨bs, r1⟩ := Dp.reads I d y uy hy ry
    have hxs : PyData.canLayAll0 ds = true := SeqAt.canLay_of_shaped sl
    have hroom : X.A.units + 1 + min (PyData.depthAll ds) d.depth < cLine := PyProof.Rows.room_in_shaped sd hu
    cases hl with
    | tup hs ha =>
      obtain ⟨its, rv, ⟨⟨cls, dd, data, sls⟩, ho, hc, n, hdt⟩, hlen⟩ := I.tuple hs
      simp only at hc hdt
      subst hc hdt
      obtain ⟨as, h4⟩ := Dp.readsAll I ds _ its ha rv
      have hn : its.length = ds.length := SeqAt.ReadsAll.length ds its as h4
      have hmap : its.map (SeqAt.readOf s.heap) = ds := SeqAt.readsAll_map ds its as hxs h4
      have hvl := rv.length
      have hsl := sizeLine_eq
      obtain ⟨hjd, _⟩ := List.getElem?_eq_some_iff.mp hz
      have hjl : j < its.length := by omega
      have hj : j < its.toArray.size := by simpa using hjl
      have at_ : ∀ (m : Nat) (hm : m < its.toArray.size) (z' : PyData), ds[m]? = some z' → SeqAt.readOf s.heap its.toArray[m] = z' := by
        intro m hm z' hz'
        have hml : m < its.length := by simpa using hm
        rw [← hmap, List.getElem?_map, List.getElem?_eq_getElem hml] at hz'
        have e1 : SeqAt.readOf s.heap its[m] = z' := Option.some.inj (show some (SeqAt.readOf s.heap its[m]) = some z' from hz')
        simpa using e1
      refine call_meets PySem.F.slot_tuple_index ⟨_, ho, rfl⟩ PySem.F.entry_tuple_index (PySem.F.args_tuple_index_2 _ _)
        (PySem.SeqAt.tuple_index2_found a its.toArray n dd sls uy (fun m => if h : m < its.toArray.size then PyData.eqv (SeqAt.readOf s.heap its.toArray[m]) d else false) j hj (Nat.zero_le _) hj ?_ ?_) ⟨ho, fun m hm => ?_, ?_⟩
      · show (if h : j < its.toArray.size then _ else _) = true
        rw [dif_pos hj, at_ j hj z hz]
        exact hzj
      · intro m hm _ hmj
        have hmd : m < ds.length := by omega
        have hz' : ds[m]? = some ds[m] := List.getElem?_eq_getElem hmd
        show (if h : m < its.toArray.size then _ else _) = false
        rw [dif_pos hm, at_ m hm _ hz']
        exact hno m _ hmj hz'
      · have := SeqAt.items_eqAt (vs := its.toArray) (show ReadsAll s.heap its.toArray.toList ds as from h4) r1 hxs (SeqAt.canLay_of_shaped sd) hroom _ (Array.getElem_mem hm)
        rw [dif_pos hm]
        exact this
      · exact ⟨.int (j : Nat), H, I.tok _, ⟨_, rfl⟩, q⟩
def eTIdx (f : T3E) (g : T3A) : T3E := fun ρ Q => f ρ fun r ρ1 => wd r ρ1 fun d => match d with
  | .tup ds => g ρ1 fun rs ρ2 => w1 rs ρ2 fun x => ((D.tup ds).shp = true ∧ x.shp = true) ∧ wo (ds.findIdx? fun z => D.eqv z x) fun j => Q (.val (.int (j : Nat))) ρ2
  | _ => False
theorem toPs_get : ∀ {ds : List D} {j : Nat}, (D.toPs ds)[j]? = (ds[j]?).map D.toP
  | [], j => by simp [D.toPs]
  | d :: ds, 0 => by simp [D.toPs]
  | d :: ds, j + 1 => by simp only [D.toPs, List.getElem?_cons_succ]; exact toPs_get
theorem oks_get : ∀ {ds : List D} {j : Nat} {d : D}, D.oks ds = true → ds[j]? = some d → d.ok = true
  | [], j, d, _, h => by simp at h
  | x :: ds, 0, d, h, e => by
    simp only [D.oks, Bool.and_eq_true] at h
    simp at e; subst e; exact h.1
  | x :: ds, j + 1, d, h, e => by
    simp only [D.oks, Bool.and_eq_true] at h
    exact oks_get h.2 (by simpa using e)
theorem tyTup_of {ds : List D} {v : V} (h : Rp K H U (.tup ds) v) : tyTup K v H := by
  simp only [Rp] at h
  obtain ⟨a, vs, rfl, h1, _⟩ := h
  rcases h1 with ⟨h1, _⟩ | h1
  · exact ⟨a, vs, rfl, .inl h1⟩
  · exact ⟨a, vs, rfl, .inr h1⟩
theorem simTIdx {t : TE} {u : TA} {f : T3E} {g : T3A} (h : SimE K t f) (h' : SimA K u g) : SimE K (tMG (tyTup K) (rIndexT K) t u) (eTIdx f g) := by
  intro F U ρ σ H Q3 Q2 e R q k
  refine h F U ρ σ H _ _ e R q fun r v ρ1 H1 R1 s1 q1 h1 => ?_
  obtain ⟨d, ed, h1⟩ := wd_out h1
  cases d <;> first | exact h1.elim | skip
  rename_i ds
  subst e
  obtain ⟨a, ws, rfl, z1, z2, z3⟩ := q1.tup R1 ed
  refine ⟨tyTup_of z3, h' F U ρ1 σ H1 _ _ rfl R1 h1 fun rs vs ρ2 H2 R2 s2 q2 h2 => ?_⟩
  obtain ⟨x, w, dx, rfl, rfl, q3, ex, ⟨o1, o2⟩, h2⟩ := w1_out q2 h2
  obtain ⟨j, ej, h2⟩ := wo_out h2
  have ok1 : (D.tup ds).ok = true := by
    have := o1; unfold D.shp at this; rw [Bool.and_eq_true] at this; exact this.1
  have ok2 : dx.ok = true := by
    have := o2; unfold D.shp at this; rw [Bool.and_eq_true] at this; exact this.1
  have oks : D.oks ds = true := by simpa only [D.ok] using ok1
  have dp1 : Dp F.K H2 (.ref a) (.tuple (D.toPs ds)) := by
    have := Rp.dp (.tup ds) (.ref a) ok1 (Rp.pres (s2.pres R1) _ _ z3)
    simpa only [D.toP] using this
  have dp2 := q3.dp R2 ex ok2
  obtain ⟨hj, hj2⟩ := List.findIdx?_eq_some_iff_getElem.mp ej
  have hg : ds[j]? = some ds[j] := List.getElem?_eq_getElem hj
  refine ⟨a, w, dx.toP, D.toPs ds, j, ds[j].toP, rfl, rfl, dp1, dp2, by simpa only [D.toP] using shp_shaped o1, shp_shaped o2, by rw [toPs_get, hg]; rfl, ?_, fun m z' hm hz => ?_, k (.val _) _ ρ2 H2 R2 (s1.trans s2) rvI h2⟩
  · rw [eqv_toP _ _ (oks_get oks hg) ok2]; exact hj2.1
  · rw [toPs_get] at hz
    obtain ⟨y, hy, rfl⟩ := Option.map_eq_some_iff.mp hz
    rw [eqv_toP _ _ (oks_get oks hy) ok2]
    have := hj2.2 m hm
    have e2 : ds[m]'(by omega) = y := by
      have := (List.getElem?_eq_some_iff.mp hy).2
      exact this
    rw [e2] at this
    exact Bool.not_eq_true _ |>.mp this

/-! ### operators of own classes -/
def rOwnI (K : PySem.W.Frag) (C : Addr) (sp : Sp) : R2 := fun x y H Q => ∃ a dx fs b C' dy gs, x = .ref a ∧ y = .ref b ∧ H a = some (.ins C dx fs) ∧ H b = some (.ins C' dy gs) ∧ PySem.W.notFirst K C (.ref C') = true ∧ sp [x, y] H Q E0
theorem op_ownI {X : Cx} {C g : Addr} {op : CmpOp} {k : Nat} {fd : FuncData} {ps : List Str} {sp : Sp} (hop : ∀ a b, compareOp op a b = richCompare op a b) (hs : PySem.W.findIn X.K (.ref C) (cmpInfo op).2.1 = some (some (.ref g))) (hf : PySem.W.isFn X.K (.ref g) = true)
    (Fn : FnOk X.prog X.w X.K X.mg X.base CX0 k g fd ps sp) (hb : Binds X.K fd ps []) (hr : Room k X.A) : OpR X (compareOp op) (rOwnI X.K C sp) := by
  intro pins s σ H x y v u Q I rx ry h
  obtain ⟨a, dx, fs, b, C', dy, gs, rfl, rfl, ha, hb', hn, q⟩ := h
  cases (show v = Value.ref a from rx)
  cases (show u = Value.ref b from ry)
  obtain ⟨mA, O, _⟩ := ins_get I.hok ha
  obtain ⟨od, J, _⟩ := O.look
  obtain ⟨mB, O', _⟩ := ins_get I.hok hb'
  obtain ⟨od', J', _⟩ := O'.look
  obtain ⟨m, hF⟩ := I.fr
  rw [hop]
  refine PySem.W.cmp_K (op := op) (tb := .ref C') hr.units0 hF I.ok.mod.kin J J'.type hn hs hf ?_
  refine wpAny_mono (run_fn (us := [.ref a, .ref b]) (vs := [.ref a, .ref b]) Fn hr hb .nil pass0 I (.cons rfl (.cons rfl .nil)) q) (fun w s' z => ?_) fun _ _ x => x
  obtain ⟨z', H', I', rz, qz⟩ := z
  exact SlX.cmpback rz ⟨z', H', I', rz, qz⟩
def oOwn (C : Addr) (ms : List Md) (sp : S3) (x y : Rs) (ρ : En) (Q : Rs → En → Prop) : Prop := wd x ρ fun dx => wd y ρ fun dy => match dx, dy with
  | .obj C' _, .obj C'' _ => (C' = C ∧ C'' = C) ∧ apart ms [x, y] = true ∧ wo (argsD ms [x, y] ρ) fun ds => sp ds (fun d ds' => Q (.val d) (updE ms [x, y] ds' ρ)) (fun d ds' => Q (.val d) (updE ms [x, y] ds' ρ))
  | _, _ => False
theorem simOwn {C : Addr} {ms : List Md} {sp : S3} (np : noPab ms = true) : SimR2 K (rOwnI K C (Lift K ms sp)) (oOwn C ms sp) := by
  intro F U ρ1 σ H1 x y rx ry Q3 Q2 e R1 hx hy h k
  obtain ⟨dx, ex, h1⟩ := wd_out h
  obtain ⟨dy, ey, h2⟩ := wd_out h1
  clear h h1
  cases dx <;> first | exact h2.elim | skip
  cases dy <;> first | exact h2.elim | skip
  obtain ⟨⟨e1, e2⟩, ap, h3⟩ := h2
  obtain ⟨ds, ed, h1⟩ := wo_out h3
  obtain ⟨a, da, ga, rfl, z1, z2⟩ := hx.obj R1 ex
  obtain ⟨b, db, gb, rfl, y1, y2⟩ := hy.obj R1 ey
  subst e
  refine ⟨a, da, ga, b, C, db, gb, rfl, rfl, e1 ▸ z1, e2 ▸ y1, by simp [PySem.W.notFirst], ?_⟩
  have q1 : RVs F U σ H1 [rx, ry] [.ref a, .ref b] := .cons hx (.cons hy .nil)
  exact callN np R1 (.refl R1) R1 q1 ap ed h1 k E0
/-- two readings of one operator -/
def rOr (r r' : R2) : R2 := fun x y H Q => r x y H Q ∨ r' x y H Q
theorem simOrL {r r' : R2} {f : Rs → Rs → En → (Rs → En → Prop) → Prop} (h : SimR2 K r f) : SimR2 K (fun x y H Q => r x y H Q ∨ r' x y H Q) f := fun F U ρ σ H x y rx ry Q3 Q2 e R h1 h2 q k => .inl (h F U ρ σ H x y rx ry Q3 Q2 e R h1 h2 q k)
theorem simOrR {r r' : R2} {f : Rs → Rs → En → (Rs → En → Prop) → Prop} (h : SimR2 K r' f) : SimR2 K (fun x y H Q => r x y H Q ∨ r' x y H Q) f := fun F U ρ σ H x y rx ry Q3 Q2 e R h1 h2 q k => .inr (h F U ρ σ H x y rx ry Q3 Q2 e R h1 h2 q k)
/-- isinstance(x, C), x an instance of the class at C itself -/
def cIsC (C : Addr) (rs : List Rs) (ρ : En) (Q : Rs → En → Prop) : Prop := match rs with
  | [x, y] => wd x ρ fun dx => wd y ρ fun dy => match dx, dy with
    | .obj C' _, .cls C'' => (C' = C ∧ C'' = C) ∧ Q (.val (.bl true)) ρ
    | _, _ => False
  | _ => False
theorem simIsC {C : Addr} : SimCR K (fun xs H Q => ∃ a dx fs, xs = [.ref a, .ref C] ∧ H a = some (.ins C dx fs) ∧ Q (.bl true) H) (cIsC C) := by
  intro F U ρ σ H vs rs Q3 Q2 e R q h k
  unfold cIsC at h
  split at h
  · rename_i x y
    cases q with
    | cons q1 qs =>
      cases qs with
      | cons q2 qs =>
        cases qs
        obtain ⟨dx, ex, h1⟩ := wd_out h
        obtain ⟨dy, ey, h2⟩ := wd_out h1
        clear h h1
        cases dx <;> first | exact h2.elim | skip
        cases dy <;> first | exact h2.elim | skip
        obtain ⟨⟨e1, e2⟩, h3⟩ := h2
        obtain ⟨a, da, ga, rfl, z1, z2⟩ := q1.obj R ex
        rcases q2.get R ey with z | ⟨b, _, z⟩
        · simp only [Rp] at z
          subst z
          exact ⟨a, da, ga, by rw [e2], e1 ▸ z1, k (.val _) _ ρ H R (.refl R) rvB h3⟩
        · exact z.elim
  · exact h.elim
theorem rp_cls {C : Addr} : ∀ H U, Rp K H U (.cls C) (.ref C) := fun H U => by simp only [Rp]
end
end L3

set_option Elab.async false
set_option linter.all false
set_option maxRecDepth 100000
namespace L3
open PySem PySem.Spec L2
open PyProof.Rows (b2i)

/-! ### syntax and its reading over data, in a family of contexts -/
structure QE {ι : Type} (K : PySem.W.Frag) (X : ι → Cx) (e : Expr) (f : T3E) : Prop where
  ex : ∃ t, (∀ i, PE (X i) e t) ∧ SimE K t f
structure QO {ι : Type} (K : PySem.W.Frag) (X : ι → Cx) (e : Expr) (f : T3O') : Prop where
  ex : ∃ t, (∀ i, PE (X i) e t) ∧ SimEO K t f
structure QT {ι : Type} (K : PySem.W.Frag) (X : ι → Cx) (e : Expr) (f : T3T) : Prop where
  ex : ∃ t, (∀ i, PT (X i) e t) ∧ SimT K t f
structure QW {ι : Type} (K : PySem.W.Frag) (X : ι → Cx) (e : Expr) (f : T3T) : Prop where
  ex : ∃ t, (∀ i, PW (X i) e t) ∧ SimT K t f
structure QA {ι : Type} (K : PySem.W.Frag) (X : ι → Cx) (es : List Expr) (f : T3A) : Prop where
  ex : ∃ t, (∀ i, PA (X i) es t) ∧ SimA K t f
structure QS {ι : Type} (K : PySem.W.Frag) (X : ι → Cx) (st : Stmt) (f : T3S) : Prop where
  ex : ∃ t, (∀ i, PS (X i) st t) ∧ SimS K t f
structure QB {ι : Type} (K : PySem.W.Frag) (X : ι → Cx) (st : List Stmt) (f : T3S) : Prop where
  ex : ∃ t, (∀ i, PSs (X i) st t) ∧ SimS K t f
structure QI {ι : Type} (K : PySem.W.Frag) (X : ι → Cx) (wk : Bool) (tg iter : Expr) (f : T3I) : Prop where
  ex : ∃ t, (∀ i, PI (X i) tg iter t) ∧ SimI K wk t f
structure QG {ι : Type} (K : PySem.W.Frag) (X : ι → Cx) (wk : Bool) (tg : Expr) (f : T3G) (ix : List Nat) : Prop where
  ex : ∃ t, (∀ i, PG (X i) tg t) ∧ SimG K wk t f ix
structure QGs {ι : Type} (K : PySem.W.Frag) (X : ι → Cx) (n : Nat) (tg : List Expr) (f : List D → En → (En → Prop) → Prop) (ix : List Nat) : Prop where
  ex : ∃ t, (∀ i, PGs (X i) tg t) ∧ SimGs K t f ix
structure QP {ι : Type} (K : PySem.W.Frag) (X : ι → Cx) (e : Option Expr) (f : T3O) : Prop where
  ex : ∃ t, (∀ i, PO (X i) e t) ∧ SimO K t f
structure QTs {ι : Type} (K : PySem.W.Frag) (X : ι → Cx) (es : List Expr) (f : T3T) : Prop where
  ex : ∃ t, (∀ i, PTs (X i) es t) ∧ SimT K t f

section
variable {ι : Type} {X : ι → Cx} {K : PySem.W.Frag} {pos p p2 apos cpos : Pos} {e a b c d' : Expr} {es rest : List Expr} {f g h : T3E} {x : Str}

/-! ### names and constants -/
theorem qv (n : Nat) (hN : ∀ i, (X i).N[n]? = some x := by exact fun _ => rfl) (hv : ∀ i, Vis (X i).env.scope x := by first | exact fun _ => Or.inl rfl | exact fun _ => Or.inr (Or.inl rfl) | exact fun _ => Or.inr (Or.inr rfl))
    (hd : (x == ("__debug__" : Str)) = false := by decide) (hcd : (x == ("__classdict__" : Str)) = false := by decide) : QE K X (.Name x pos) (eVar n) := ⟨_, fun i => pe_var (hN i) (hv i) hd hcd, simVar n⟩
theorem qint {i : Int} {j : Nat} : QE K X (.Constant (.int i) j pos) (eC (.int i)) := ⟨_, fun _ => pe_int, simC fun H U => rp_int⟩
theorem qbl {i : Bool} {j : Nat} : QE K X (.Constant (.bool i) j pos) (eC (.bl i)) := ⟨_, fun _ => pe_bl, simC fun H U => rp_bl⟩
theorem qstr {i : Str} {j : Nat} : QE K X (.Constant (.str i) j pos) (eC (.str i)) := ⟨_, fun _ => pe_str, simC fun H U => rp_str⟩
theorem qnon {j : Nat} : QE K X (.Constant .none j pos) (eC .non) := ⟨_, fun _ => pe_non, simC fun H U => rp_non⟩
/-- a name of the module -/
theorem qglob {v : V} {d : D} (hm : ∀ i, ∃ u, (X i).mg x = some u ∧ RelV v u) (hr : ∀ H U, Rp K H U d v) (hg : ∀ i, Gl (X i) x := by exact fun _ => rfl) (hd : (x == ("__debug__" : Str)) = false := by decide) : QE K X (.Name x pos) (eC d) :=
  ⟨tC v, fun i => let ⟨_, h1, h2⟩ := hm i; pe_glob (hg i) h1 h2 hd, simC hr⟩
/-- a built-in class as a value -/
theorem rp_ty {T : String} : ∀ H U, Rp K H U (.ty T) (.ty T) := fun H U => by simp only [Rp]
theorem qty {T : String} (hm : ∀ i, (X i).mg x = none) (hv : bootBuiltins x = some (.type T) := by decide +kernel) (hg : ∀ i, Gl (X i) x := by exact fun _ => rfl) (hn : x ≠ "__name__" := by decide) (hd : (x == ("__debug__" : Str)) = false := by decide) : QE K X (.Name x pos) (eC (.ty T)) :=
  ⟨tC (.ty T), fun i => pe_bltn (hg i) (hm i) hv rfl hn hd, simC rp_ty⟩

/-! ### operators -/
theorem qop {op : Operator} {r : R2} {r3 : Rs → Rs → En → (Rs → En → Prop) → Prop} (ho : ∀ i, OpR (X i) (binaryOp op) r) (hs : SimR2 K r r3) (ha : QE K X a f) (hb : QE K X b g) : QE K X (.BinOp a op b pos) (eOp r3 f g) :=
  let ⟨_, h1, h2⟩ := ha.ex; let ⟨_, h3, h4⟩ := hb.ex; ⟨_, fun i => pe_op (ho i) (h1 i) (h3 i), simOp hs h2 h4⟩
theorem qadd (ha : QE K X a f) (hb : QE K X b g) (hK : ∀ i, (X i).K = K := by exact fun _ => rfl) : QE K X (.BinOp a .Add b pos) (eOp oAdd f g) := qop (r := r2Add K) (fun i => hK i ▸ op_addP) simAdd ha hb
theorem qsub (ha : QE K X a f) (hb : QE K X b g) : QE K X (.BinOp a .Sub b pos) (eOp (oI0 fun i j => .int (i - j)) f g) := qop (fun _ => op_sub) (simI0 fun _ _ _ _ => rp_int) ha hb
theorem qmul (ha : QE K X a f) (hb : QE K X b g) : QE K X (.BinOp a .Mult b pos) (eOp oMul f g) := qop (fun _ => op_mulP) simMul ha hb
theorem qmod (ha : QE K X a f) (hb : QE K X b g) : QE K X (.BinOp a .Mod b pos) (eOp (oI (fun _ j => 0 < j) fun i j => .int (i % j)) f g) := qop (fun _ => op_mod) (simI fun _ _ _ _ => rp_int) ha hb
theorem qfdiv (ha : QE K X a f) (hb : QE K X b g) : QE K X (.BinOp a .FloorDiv b pos) (eOp (oI CDiv fun i j => .int (i / j)) f g) := qop (fun _ => op_fdiv) (simI fun _ _ _ _ => rp_int) ha hb
theorem qpow (ha : QE K X a f) (hb : QE K X b g) : QE K X (.BinOp a .Pow b pos) (eOp (oI CPow fun i j => .int (i ^ j.toNat)) f g) := qop (fun _ => op_pow) (simI fun _ _ _ _ => rp_int) ha hb
theorem qshr (ha : QE K X a f) (hb : QE K X b g) : QE K X (.BinOp a .RShift b pos) (eOp (oI (fun _ j => 0 ≤ j) fun i j => .int (i / 2 ^ j.toNat)) f g) := qop (fun _ => op_shr) (simI fun _ _ _ _ => rp_int) ha hb
theorem qand (ha : QE K X a f) (hb : QE K X b g) : QE K X (.BinOp a .BitAnd b pos) (eOp (oI0 fun i j => .int (Builtin.bitAnd i j)) f g) := qop (fun _ => op_and) (simI0 fun _ _ _ _ => rp_int) ha hb
/-! ### comparisons -/
theorem qcmp {op : CmpOp} {r : R2} {r3 : Rs → Rs → En → (Rs → En → Prop) → Prop} (ho : ∀ i, OpR (X i) (compareOp op) r) (hs : SimR2 K r r3) (ha : QE K X a f) (hb : QE K X b g) (hm : behindInMarks op b = false) : QE K X (.Compare a [op] [b] pos) (eOp r3 f g) :=
  let ⟨_, h1, h2⟩ := ha.ex; let ⟨_, h3, h4⟩ := hb.ex; ⟨_, fun i => pe_cmpR (ho i) (h1 i) (h3 i) hm, simOp hs h2 h4⟩
theorem tcmp {op : CmpOp} {r : R2} {r3 : Rs → Rs → En → (Rs → En → Prop) → Prop} (ho : ∀ i, OpR (X i) (compareOp op) r) (hs : SimR2 K r r3) (ha : QE K X a f) (hb : QE K X b g) (hm : behindInMarks op b = false) : QT K X (.Compare a [op] [b] pos) (fTst (eOp r3 f g)) :=
  let ⟨_, h1, h2⟩ := ha.ex; let ⟨_, h3, h4⟩ := hb.ex; ⟨_, fun i => pt_cmpR (ho i) (h1 i) (h3 i) hm, simTst (simOp hs h2 h4)⟩
/-- a comparison's operator: its rule and its reading -/
structure QC {ι : Type} (K : PySem.W.Frag) (X : ι → Cx) (op : CmpOp) (r3 : Rs → Rs → En → (Rs → En → Prop) → Prop) : Prop where
  ex : ∃ r, (∀ i, OpR (X i) (compareOp op) r) ∧ SimR2 K r r3
abbrev oLt := oI0 fun i j => .bl (decide (i < j))
abbrev oLe := oI0 fun i j => .bl (decide (i ≤ j))
abbrev oGt := oI0 fun i j => .bl (decide (j < i))
abbrev oGe := oI0 fun i j => .bl (decide (j ≤ i))
theorem cLt : QC K X .Lt oLt := ⟨_, fun _ => op_lt, simI0 fun _ _ _ _ => rp_bl⟩
theorem cLe : QC K X .LtE oLe := ⟨_, fun _ => op_le, simI0 fun _ _ _ _ => rp_bl⟩
theorem cGt : QC K X .Gt oGt := ⟨_, fun _ => op_gt, simI0 fun _ _ _ _ => rp_bl⟩
theorem cGe : QC K X .GtE oGe := ⟨_, fun _ => op_ge, simI0 fun _ _ _ _ => rp_bl⟩
theorem hu65 {A : Around} {k : Nat} (hr : Room k A) : A.units + 65 < cLine := by have := hr.un; omega
theorem cEq {k : Nat} (hR : ∀ i, Room k (X i).A) (hK : ∀ i, (X i).K = K := by exact fun _ => rfl) : QC K X .Eq (oEq false) := ⟨rEqD K, fun i => hK i ▸ op_eqD (hR i).units, simEq⟩
theorem cNe {k : Nat} (hR : ∀ i, Room k (X i).A) (hK : ∀ i, (X i).K = K := by exact fun _ => rfl) : QC K X .NotEq (oEq true) := ⟨rNeD K, fun i => hK i ▸ op_neD (hR i).units, simNe⟩
theorem cIn {k : Nat} (hR : ∀ i, Room k (X i).A) (hK : ∀ i, (X i).K = K := by exact fun _ => rfl) : QC K X .In (oIn false) := ⟨rInS K false, fun i => hK i ▸ op_inS (hu65 (hR i)), simIn false⟩
theorem cNotIn {k : Nat} (hR : ∀ i, Room k (X i).A) (hK : ∀ i, (X i).K = K := by exact fun _ => rfl) : QC K X .NotIn (oIn true) := ⟨rInS K true, fun i => hK i ▸ op_notInS (hu65 (hR i)), simIn true⟩
theorem cInT : QC K X .In (oInT false) := ⟨_, fun _ => op_inT, simInT false⟩
theorem cNotInT : QC K X .NotIn (oInT true) := ⟨_, fun _ => op_notInT, simInT true⟩
theorem cIsN : QC K X .Is (oIsN false) := ⟨_, fun _ => op_isN, simIsN⟩
theorem cNotN : QC K X .IsNot (oIsN true) := ⟨_, fun _ => op_notN, simNotN⟩
theorem q2 {op : CmpOp} {r3 : Rs → Rs → En → (Rs → En → Prop) → Prop} (ho : QC K X op r3) (ha : QE K X a f) (hb : QE K X b g) (hm : behindInMarks op b = false := by first | exact nomark _ | rfl) : QE K X (.Compare a [op] [b] pos) (eOp r3 f g) :=
  let ⟨_, h1, h2⟩ := ho.ex; qcmp h1 h2 ha hb hm
theorem t2 {op : CmpOp} {r3 : Rs → Rs → En → (Rs → En → Prop) → Prop} (ho : QC K X op r3) (ha : QE K X a f) (hb : QE K X b g) (hm : behindInMarks op b = false := by first | exact nomark _ | rfl) : QT K X (.Compare a [op] [b] pos) (fTst (eOp r3 f g)) :=
  let ⟨_, h1, h2⟩ := ho.ex; tcmp h1 h2 ha hb hm
theorem q3c {op op' : CmpOp} {r3 r3' : Rs → Rs → En → (Rs → En → Prop) → Prop} (ho : QC K X op r3) (ho' : QC K X op' r3') (ha : QE K X a f) (hb : QE K X b g) (hc : QE K X c h) (hm : lastMarks [op, op'] [b, c] = false := by with_unfolding_all rfl) :
    QE K X (.Compare a [op, op'] [b, c] pos) (eChain r3 r3' f g h) :=
  let ⟨_, h1, h2⟩ := ho.ex; let ⟨_, h1', h2'⟩ := ho'.ex; let ⟨_, h3, h4⟩ := ha.ex; let ⟨_, h5, h6⟩ := hb.ex; let ⟨_, h7, h8⟩ := hc.ex
  ⟨_, fun i => pe_chain (h1 i) (h1' i) (h3 i) (h5 i) (h7 i) hm, simChain h2 h2' h4 h6 h8⟩
theorem t3c {op op' : CmpOp} {r3 r3' : Rs → Rs → En → (Rs → En → Prop) → Prop} (ho : QC K X op r3) (ho' : QC K X op' r3') (ha : QE K X a f) (hb : QE K X b g) (hc : QE K X c h) (hm : lastMarks [op, op'] [b, c] = false := by with_unfolding_all rfl) :
    QT K X (.Compare a [op, op'] [b, c] pos) (fTst (eChain r3 r3' f g h)) :=
  let ⟨_, h1, h2⟩ := ho.ex; let ⟨_, h1', h2'⟩ := ho'.ex; let ⟨_, h3, h4⟩ := ha.ex; let ⟨_, h5, h6⟩ := hb.ex; let ⟨_, h7, h8⟩ := hc.ex
  ⟨_, fun i => pt_chain (h1 i) (h1' i) (h3 i) (h5 i) (h7 i) hm, simTst (simChain h2 h2' h4 h6 h8)⟩
/-- k in d, d a dict -/
theorem qdin {k : Nat} (hR : ∀ i, Room k (X i).A) (hi : QE K X a f) (ho : QE K X b g) (hm : behindInMarks .In b = false := by rfl) : QE K X (.Compare a [.In] [b] pos) (fDIn false f g) :=
  let ⟨_, h1, h2⟩ := hi.ex; let ⟨_, h3, h4⟩ := ho.ex; ⟨_, fun i => pe_cmp (pc_din (hu_of (hR i)) (h1 i) (h3 i)) hm, simDIn h4 h2⟩
theorem qdnotin {k : Nat} (hR : ∀ i, Room k (X i).A) (hi : QE K X a f) (ho : QE K X b g) (hm : behindInMarks .NotIn b = false := by rfl) : QE K X (.Compare a [.NotIn] [b] pos) (fDIn true f g) :=
  let ⟨_, h1, h2⟩ := hi.ex; let ⟨_, h3, h4⟩ := ho.ex; ⟨_, fun i => pe_cmp (pc_dnotin (hu_of (hR i)) (h1 i) (h3 i)) hm, simDNotIn h4 h2⟩
theorem tdin {k : Nat} (hR : ∀ i, Room k (X i).A) (hi : QE K X a f) (ho : QE K X b g) (hm : behindInMarks .In b = false := by rfl) : QT K X (.Compare a [.In] [b] pos) (fTst (fDIn false f g)) :=
  let ⟨_, h1, h2⟩ := hi.ex; let ⟨_, h3, h4⟩ := ho.ex; ⟨_, fun i => pt_cmp (pc_din (hu_of (hR i)) (h1 i) (h3 i)) hm, simTB (simDIn h4 h2)⟩
theorem tdnotin {k : Nat} (hR : ∀ i, Room k (X i).A) (hi : QE K X a f) (ho : QE K X b g) (hm : behindInMarks .NotIn b = false := by rfl) : QT K X (.Compare a [.NotIn] [b] pos) (fTst (fDIn true f g)) :=
  let ⟨_, h1, h2⟩ := hi.ex; let ⟨_, h3, h4⟩ := ho.ex; ⟨_, fun i => pt_cmp (pc_dnotin (hu_of (hR i)) (h1 i) (h3 i)) hm, simTB (simDNotIn h4 h2)⟩

/-! ### and, or, not, if -/
theorem q1b {op : BoolOp} (ha : QE K X a f) : QE K X (.BoolOp op [a] pos) f := let ⟨_, h1, h2⟩ := ha.ex; ⟨_, fun i => pe_one (h1 i), h2⟩
theorem qAnd (ha : QE K X a f) (hb : QE K X (.BoolOp .And (b :: rest) pos) g) (hK : ∀ i, (X i).K = K := by exact fun _ => rfl) : QE K X (.BoolOp .And (a :: b :: rest) pos) (eAnd f g) :=
  let ⟨t, h1, h2⟩ := ha.ex; let ⟨u, h3, h4⟩ := hb.ex; ⟨tAndT K t u, fun i => hK i ▸ pe_andT (h1 i) (h3 i), simAndV h2 h4⟩
theorem qOr (ha : QE K X a f) (hb : QE K X (.BoolOp .Or (b :: rest) pos) g) (hK : ∀ i, (X i).K = K := by exact fun _ => rfl) : QE K X (.BoolOp .Or (a :: b :: rest) pos) (eOr f g) :=
  let ⟨t, h1, h2⟩ := ha.ex; let ⟨u, h3, h4⟩ := hb.ex; ⟨tOrT K t u, fun i => hK i ▸ pe_orT (h1 i) (h3 i), simOrV h2 h4⟩
theorem qNot (ha : QE K X a f) (hK : ∀ i, (X i).K = K := by exact fun _ => rfl) : QE K X (.UnaryOp .Not a pos) (eNot f) :=
  let ⟨t, h1, h2⟩ := ha.ex; ⟨tNotT K t, fun i => hK i ▸ pe_notT (h1 i), simNotV h2⟩
variable {ft gt : T3T}
/-- a value as a test: True or False; of any kind -/
theorem tval (ha : QE K X a f) (he : ∀ i whole, isTrue a (X i).env whole = (do let v ← whole; standAt a.pos; holding [v] (truthy v)) := by exact fun _ _ => rfl) : QT K X a (fTst f) := let ⟨_, h1, h2⟩ := ha.ex; ⟨_, fun i => pt_val (h1 i) (he i), simTB h2⟩
theorem ttru (ha : QE K X a f) (he : ∀ i whole, isTrue a (X i).env whole = (do let v ← whole; standAt a.pos; holding [v] (truthy v)) := by exact fun _ _ => rfl) (hK : ∀ i, (X i).K = K := by exact fun _ => rfl) : QT K X a (fTru f) :=
  let ⟨t, h1, h2⟩ := ha.ex; ⟨fun σ H Q => t σ H fun x H' => ∃ k, TruV K x H' k ∧ Q k H', fun i => hK i ▸ pt_truth (h1 i) (he i), simTru h2⟩
theorem tNot' (ha : QT K X a ft) : QT K X (.UnaryOp .Not a pos) (fNot ft) := let ⟨_, h1, h2⟩ := ha.ex; ⟨_, fun i => pt_not (h1 i), simNot h2⟩
theorem wa1 (ha : QT K X a ft) : QW K X (.BoolOp .And [a] pos) ft := let ⟨_, h1, h2⟩ := ha.ex; ⟨_, fun i => pw_and1 (h1 i), h2⟩
theorem wo1 (ha : QT K X a ft) : QW K X (.BoolOp .Or [a] pos) ft := let ⟨_, h1, h2⟩ := ha.ex; ⟨_, fun i => pw_or1 (h1 i), h2⟩
theorem wa (ha : QT K X a ft) (hb : QW K X (.BoolOp .And (b :: rest) pos) gt) : QW K X (.BoolOp .And (a :: b :: rest) pos) (fAnd ft gt) := let ⟨_, h1, h2⟩ := ha.ex; let ⟨_, h3, h4⟩ := hb.ex; ⟨_, fun i => pw_and (h1 i) (h3 i), simAnd h2 h4⟩
theorem wor (ha : QT K X a ft) (hb : QW K X (.BoolOp .Or (b :: rest) pos) gt) : QW K X (.BoolOp .Or (a :: b :: rest) pos) (fOr ft gt) := let ⟨_, h1, h2⟩ := ha.ex; let ⟨_, h3, h4⟩ := hb.ex; ⟨_, fun i => pw_or (h1 i) (h3 i), simOr h2 h4⟩
theorem QW.t (h : QW K X e ft) : QT K X e ft := let ⟨_, h1, h2⟩ := h.ex; ⟨_, fun i => (h1 i).pt, h2⟩
theorem qif (hc : QT K X c ft) (ha : QE K X a f) (hb : QE K X b g) : QE K X (.IfExp c a b pos) (eIf ft f g) := let ⟨_, h1, h2⟩ := hc.ex; let ⟨_, h3, h4⟩ := ha.ex; let ⟨_, h5, h6⟩ := hb.ex; ⟨_, fun i => pe_ifExp (h1 i) (h3 i) (h5 i), simIf h2 h4 h6⟩

/-! ### items, slices, displays -/
theorem qix (ha : QE K X a f) (hb : QE K X b g) (hs : PlainIx b := by exact fun _ _ => rfl) (hK : ∀ i, (X i).K = K := by exact fun _ => rfl) : QE K X (.Subscript a b pos) (eOp oIdx f g) :=
  let ⟨t, h1, h2⟩ := ha.ex; let ⟨u, h3, h4⟩ := hb.ex; ⟨tOp (rIx K) t u, fun i => hK i ▸ pe_ix ix_seq (h1 i) (h3 i) hs, simOp simIdx h2 h4⟩
theorem qdget {k : Nat} (hR : ∀ i, Room k (X i).A) (ha : QE K X a f) (hb : QE K X b g) (hs : NoSl b := by exact fun _ _ => rfl) : QE K X (.Subscript a b pos) (eDGet f g) :=
  let ⟨t, h1, h2⟩ := ha.ex; let ⟨u, h3, h4⟩ := hb.ex; ⟨_, fun i => pe_dget (hu_of (hR i)) (h1 i) (h3 i) hs, simDGet h2 h4⟩
theorem qno : QP K X none pNo := ⟨_, fun _ => po_none, simNo⟩
theorem qpart (ha : QE K X a f) : QP K X (some a) (pSo f) := let ⟨_, h1, h2⟩ := ha.ex; ⟨_, fun i => po_some (h1 i), simSo h2⟩
theorem qsl {lo hi : Option Expr} {fl fh : T3O} (ha : QE K X a f) (hl : QP K X lo fl) (hh : QP K X hi fh) (hK : ∀ i, (X i).K = K := by exact fun _ => rfl) : QE K X (.Subscript a (.Slice lo hi none p2) pos) (eSl f fl fh) :=
  let ⟨t, h1, h2⟩ := ha.ex; let ⟨u, h3, h4⟩ := hl.ex; let ⟨w, h5, h6⟩ := hh.ex; ⟨tSl (r2Sl K) t u w, fun i => hK i ▸ pe_slice sl_P (h1 i) (h3 i) (h5 i), simSl h2 h4 h6⟩
variable {fa ga : T3A}
theorem qan : QA K X [] aNil := ⟨_, fun _ => pa_nil, simNil⟩
theorem qac (ha : QE K X e f) (hr : QA K X es fa) (hs : ∀ i, starEach (e :: es) (X i).env = (false, eval e (X i).env) :: starEach es (X i).env := by exact fun _ => rfl) : QA K X (e :: es) (aCons f fa) :=
  let ⟨_, h1, h2⟩ := ha.ex; let ⟨_, h3, h4⟩ := hr.ex; ⟨_, fun i => pa_cons (h1 i) (h3 i) (hs i), simCons h2 h4⟩
theorem qtup {x1 : Nat} (h : QA K X es fa) : QE K X (.Tuple es x1 pos) (eTup fa) := let ⟨_, h1, h2⟩ := h.ex; ⟨_, fun i => pe_tupF (h1 i), simTup h2⟩
theorem qlst (h : QA K X es fa) : QE K X (.List es pos) (eLst fa) := let ⟨_, h1, h2⟩ := h.ex; ⟨_, fun i => pe_lst (h1 i), simLst h2⟩
theorem olst (h : QA K X es fa) : QO K X (.List es pos) (oLst fa) := let ⟨_, h1, h2⟩ := h.ex; ⟨_, fun i => pe_lst (h1 i), simOLst h2⟩
theorem odicE : QO K X (.Dict [] [] pos) oDicE := ⟨_, fun _ => pe_dnewK, simODicE⟩
theorem orev {k : Nat} {p1 p3 : Pos} (h : QE K X e f) (hK : ∀ i, (X i).K = K := by exact fun _ => rfl) : QO K X (.Subscript e (.Slice none none (some (.UnaryOp .USub (.Constant (.int 1) k p1) p2)) p3) pos) (oRev f) :=
  let ⟨t, h1, h2⟩ := h.ex; ⟨tRevL K t, fun i => hK i ▸ pe_revL (h1 i), simORev h2⟩
theorem QO.sh {fo : T3O'} (h : QO K X e fo) : QE K X e (eShr fo) := let ⟨_, h1, h2⟩ := h.ex; ⟨_, h1, simShr h2⟩
/-- the pairs of a dict display -/
structure QD {ι : Type} (K : PySem.W.Frag) (X : ι → Cx) (pos : Pos) (ks : List (Option Expr)) (vs : List Expr) (ps : List (Str × T3E)) : Prop where
  ex : ∃ t, (∀ i, PPs (X i) pos ks vs t) ∧ SimP K t ps
theorem qdn : QD K X pos [] [] [] := ⟨_, fun _ => pps_nil, .nil⟩
theorem qdc {s : Str} {j : Nat} {v : Expr} {ks : List (Option Expr)} {vs : List Expr} {ps : List (Str × T3E)} (hv : QE K X v f) (hr : QD K X pos ks vs ps) : QD K X pos (some (.Constant (.str s) j p) :: ks) (v :: vs) ((s, f) :: ps) :=
  let ⟨_, h1, h2⟩ := hv.ex; let ⟨_, h3, h4⟩ := hr.ex; ⟨_, fun i => pps_cons pe_str (h1 i) (h3 i), .cons h2 h4⟩
theorem odisp {keys : List (Option Expr)} {values : List Expr} {ps : List (Str × T3E)} (h : QD K X pos keys values ps) (hall : keys.all (·.isSome) = true := by rfl) (hl : keys.length = values.length := by rfl) (h0 : keys ≠ [] := by exact fun z => by cases z)
    (h15 : keys.length ≤ 15 := by decide) : QO K X (.Dict keys values pos) (oDisp ps) := let ⟨_, h1, h2⟩ := h.ex; ⟨_, fun i => pe_disp (h1 i) hall hl h0 h15, simODisp h2⟩

/-! ### calls of built-ins -/
theorem qcb {id : String} {r : List V → Hp → VK → Prop} {r3 : List Rs → En → (Rs → En → Prop) → Prop} (hc : ∀ i, CallR (X i) (.builtin id) r) (hs : SimCR K r r3) (hm : ∀ i, (X i).mg x = none) (hv : bootBuiltins x = some (.builtin id)) (ha : QA K X (e :: es) fa)
    (hg : ∀ i, Gl (X i) x := by exact fun _ => rfl) (hn : x ≠ "__name__" := by decide) (hdb : (x == ("__debug__" : Str)) = false := by decide)
    (hst : ∀ i, starEach (e :: es) (X i).env = (false, eval e (X i).env) :: starEach es (X i).env := by exact fun _ => rfl) (hpl : ∀ i, (backTo pos (starEach es (X i).env)).any (·.1) = false := by exact fun _ => rfl) : QE K X (.Call (.Name x p) (e :: es) [] pos) (eCB r3 fa) :=
  let ⟨_, h1, h2⟩ := ha.ex; ⟨_, fun i => pe_callB (hc i) (hg i) (hm i) hv (h1 i) hn hdb (hst i) (hpl i), simCB hs h2⟩
theorem qct {T : String} {r : List V → Hp → VK → Prop} {r3 : List Rs → En → (Rs → En → Prop) → Prop} (hc : ∀ i, CallR (X i) (.type T) r) (hs : SimCR K r r3) (hm : ∀ i, (X i).mg x = none) (hv : bootBuiltins x = some (.type T)) (ha : QA K X (e :: es) fa)
    (hg : ∀ i, Gl (X i) x := by exact fun _ => rfl) (hn : x ≠ "__name__" := by decide) (hdb : (x == ("__debug__" : Str)) = false := by decide)
    (hst : ∀ i, starEach (e :: es) (X i).env = (false, eval e (X i).env) :: starEach es (X i).env := by exact fun _ => rfl) (hpl : ∀ i, (backTo pos (starEach es (X i).env)).any (·.1) = false := by exact fun _ => rfl) : QE K X (.Call (.Name x p) (e :: es) [] pos) (eCB r3 fa) :=
  let ⟨_, h1, h2⟩ := ha.ex; ⟨_, fun i => pe_callTy (hc i) (hg i) (hm i) hv (h1 i) hn hdb (hst i) (hpl i), simCB hs h2⟩
theorem qlen (hm : ∀ i, (X i).mg "len" = none) (ha : QA K X [e] fa) (hg : ∀ i, Gl (X i) "len" := by exact fun _ => rfl) (hK : ∀ i, (X i).K = K := by exact fun _ => rfl)
    (hst : ∀ i, starEach [e] (X i).env = (false, eval e (X i).env) :: starEach [] (X i).env := by exact fun _ => rfl) (hpl : ∀ i, (backTo pos (starEach [] (X i).env)).any (·.1) = false := by exact fun _ => rfl) : QE K X (.Call (.Name "len" p) [e] [] pos) (eCB cLen fa) := qcb (fun i => hK i ▸ call_len) simLen hm boot_len ha hg (by decide) (by decide) hst hpl
theorem qabs (hm : ∀ i, (X i).mg "abs" = none) (ha : QA K X [e] fa) (hg : ∀ i, Gl (X i) "abs" := by exact fun _ => rfl)
    (hst : ∀ i, starEach [e] (X i).env = (false, eval e (X i).env) :: starEach [] (X i).env := by exact fun _ => rfl) (hpl : ∀ i, (backTo pos (starEach [] (X i).env)).any (·.1) = false := by exact fun _ => rfl) : QE K X (.Call (.Name "abs" p) [e] [] pos) (eCB cAbs fa) := qcb (fun i => call_abs) simAbs hm PyProof.Rows.boot_abs ha hg (by decide) (by decide) hst hpl
theorem qint1 (hm : ∀ i, (X i).mg "int" = none) (ha : QA K X [e] fa) (hg : ∀ i, Gl (X i) "int" := by exact fun _ => rfl)
    (hst : ∀ i, starEach [e] (X i).env = (false, eval e (X i).env) :: starEach [] (X i).env := by exact fun _ => rfl) (hpl : ∀ i, (backTo pos (starEach [] (X i).env)).any (·.1) = false := by exact fun _ => rfl) : QE K X (.Call (.Name "int" p) [e] [] pos) (eCB cInt fa) := qct (fun i => call_int1) simInt hm PyProof.Rows.boot_int ha hg (by decide) (by decide) hst hpl
theorem qtupC (hm : ∀ i, (X i).mg "tuple" = none) (ha : QA K X [e] fa) (hg : ∀ i, Gl (X i) "tuple" := by exact fun _ => rfl) (hK : ∀ i, (X i).K = K := by exact fun _ => rfl)
    (hst : ∀ i, starEach [e] (X i).env = (false, eval e (X i).env) :: starEach [] (X i).env := by exact fun _ => rfl) (hpl : ∀ i, (backTo pos (starEach [] (X i).env)).any (·.1) = false := by exact fun _ => rfl) : QE K X (.Call (.Name "tuple" p) [e] [] pos) (eCB cTuple fa) := qct (fun i => hK i ▸ call_tupleF) simTuple hm PyProof.Rows.boot_tuple ha hg (by decide) (by decide) hst hpl
theorem olistC (hm : ∀ i, (X i).mg "list" = none) (ha : QA K X [e] fa) (hg : ∀ i, Gl (X i) "list" := by exact fun _ => rfl) (hK : ∀ i, (X i).K = K := by exact fun _ => rfl)
    (hst : ∀ i, starEach [e] (X i).env = (false, eval e (X i).env) :: starEach [] (X i).env := by exact fun _ => rfl) (hpl : ∀ i, (backTo pos (starEach [] (X i).env)).any (·.1) = false := by exact fun _ => rfl) : QO K X (.Call (.Name "list" p) [e] [] pos) (oListC fa) :=
  let ⟨u, h1, h2⟩ := ha.ex; ⟨tCB (fun xs H Q => ∃ p ys, xs = [.ref p] ∧ (SqL K H p ys ∨ SqT K H p ys) ∧ ∀ l, H l = none → Q (.ref l) (upd H l (.lst ys))) u, fun i => pe_callTy (hK i ▸ call_list_of) (hg i) (hm i) PyProof.Rows.boot_list (h1 i) (by decide) (by decide) (hst i) (hpl i), simOListC h2⟩
theorem qall (hc : ∀ i, (X i).calm = true) (hm : ∀ i, (X i).mg "all" = none) (ha : QA K X [e] fa) (hg : ∀ i, Gl (X i) "all" := by exact fun _ => rfl) (hK : ∀ i, (X i).K = K := by exact fun _ => rfl)
    (hst : ∀ i, starEach [e] (X i).env = (false, eval e (X i).env) :: starEach [] (X i).env := by exact fun _ => rfl) (hpl : ∀ i, (backTo pos (starEach [] (X i).env)).any (·.1) = false := by exact fun _ => rfl) : QE K X (.Call (.Name "all" p) [e] [] pos) (eCB cAll fa) := qcb (fun i => hK i ▸ cr_all (hc i)) simAll hm PyProof.Rows.boot_all ha hg (by decide) (by decide) hst hpl
theorem qisi (hm : ∀ i, (X i).mg "isinstance" = none) (ha : QA K X [a, b] fa) (hg : ∀ i, Gl (X i) "isinstance" := by exact fun _ => rfl) (hK : ∀ i, (X i).K = K := by exact fun _ => rfl)
    (hst : ∀ i, starEach [a, b] (X i).env = (false, eval a (X i).env) :: starEach [b] (X i).env := by exact fun _ => rfl) (hpl : ∀ i, (backTo pos (starEach [b] (X i).env)).any (·.1) = false := by exact fun _ => rfl) : QE K X (.Call (.Name "isinstance" p) [a, b] [] pos) (eCB cIsi fa) := qcb (fun i => hK i ▸ call_isi) simIsi hm PyProof.Rows.boot_isinstance ha hg (by decide) (by decide) hst hpl

/-! ### methods of built-ins -/
theorem qbm {T id : String} {name : Str} {r : V → List V → Hp → VK → Prop} {m3 : M3} (pa : PlainAttrs T) (slot : Slot T name id) (hty : typeOf (.builtin id) = pure (.type "method_descriptor")) (hm : ∀ i, MtR (X i) id r) (hs : SimM K r m3) (ho : QE K X a f) (ha : QA K X (e :: es) fa)
    (hK : ∀ i, (X i).K = K := by exact fun _ => rfl)
    (hbase : ∀ i, attributeBase a name (X i).env (eval a (X i).env) = eval a (X i).env := by exact fun _ => rfl)
    (hfew : ∀ i, ((backTo cpos (starEach (e :: es) (X i).env)).all (fun x => !x.1) && (backToKw cpos (keywordEach [] (X i).env)).all (fun x => x.1.isSome)
      && decide ((e :: es).length + ([] : List Keyword).length + (if ([] : List Keyword).isEmpty then 0 else 1) < 30)) = true := by exact fun _ => rfl)
    (hline : (apos.endLine == cpos.line) = true := by rfl) (hst : ∀ i, starEach (e :: es) (X i).env = (false, eval e (X i).env) :: starEach es (X i).env := by exact fun _ => rfl) (hpl : ∀ i, (backTo cpos (starEach es (X i).env)).any (·.1) = false := by exact fun _ => rfl) :
    QE K X (.Call (.Attribute a name apos) (e :: es) [] cpos) (eBM T m3 f fa) :=
  let ⟨t, h1, h2⟩ := ho.ex; let ⟨u, h3, h4⟩ := ha.ex; ⟨tBM K T r t u, fun i => hK i ▸ pe_bm pa slot hty (hm i) (h1 i) (h3 i) (hbase i) (hfew i) hline (hst i) (hpl i), simBM hs h2 h4⟩
theorem qbm0 {T id : String} {name : Str} {r : V → List V → Hp → VK → Prop} {m3 : M3} (pa : PlainAttrs T) (slot : Slot T name id) (hty : typeOf (.builtin id) = pure (.type "method_descriptor")) (hm : ∀ i, MtR (X i) id r) (hs : SimM K r m3) (ho : QE K X a f)
    (hK : ∀ i, (X i).K = K := by exact fun _ => rfl) (hbase : ∀ i, attributeBase a name (X i).env (eval a (X i).env) = eval a (X i).env := by exact fun _ => rfl) (hline : (apos.endLine == cpos.line) = true := by rfl) :
    QE K X (.Call (.Attribute a name apos) [] [] cpos) (eBM0 T m3 f) :=
  let ⟨t, h1, h2⟩ := ho.ex; ⟨tBM0 K T r t, fun i => hK i ▸ pe_bm0 pa slot hty (hm i) (h1 i) (hbase i) hline, simBM0 hs h2⟩
theorem qtidx {k : Nat} (hR : ∀ i, Room k (X i).A) (ho : QE K X a f) (ha : QA K X [e] fa) (hK : ∀ i, (X i).K = K := by exact fun _ => rfl)
    (hbase : ∀ i, attributeBase a "index" (X i).env (eval a (X i).env) = eval a (X i).env := by exact fun _ => rfl)
    (hfew : ∀ i, ((backTo cpos (starEach [e] (X i).env)).all (fun x => !x.1) && (backToKw cpos (keywordEach [] (X i).env)).all (fun x => x.1.isSome)
      && decide (([e] : List Expr).length + ([] : List Keyword).length + (if ([] : List Keyword).isEmpty then 0 else 1) < 30)) = true := by exact fun _ => rfl)
    (hline : (apos.endLine == cpos.line) = true := by rfl) (hst : ∀ i, starEach [e] (X i).env = (false, eval e (X i).env) :: starEach [] (X i).env := by exact fun _ => rfl) (hpl : ∀ i, (backTo cpos (starEach [] (X i).env)).any (·.1) = false := by exact fun _ => rfl) :
    QE K X (.Call (.Attribute a "index" apos) [e] [] cpos) (eTIdx f fa) :=
  let ⟨t, h1, h2⟩ := ho.ex; let ⟨u, h3, h4⟩ := ha.ex; ⟨tMG (tyTup K) (rIndexT K) t u, fun i => hK i ▸ pe_mG ty_tup PySem.F.plainAttrs_tuple PySem.F.slot_tuple_index PySem.F.type_tuple_index (mt_indexT (hu65 (hR i))) (h1 i) (h3 i) (hbase i) (hfew i) hline (hst i) (hpl i), simTIdx h2 h4⟩

/-! ### own defs, classes -/
structure C3 (P : Program) (w : World) (K : PySem.W.Frag) (mg : Str → Option Value) (base : Heap) (k : Nat) (x : Str) (ms : List Md) (sp : S3) : Prop where
  ex : ∃ (f : Addr) (fd : FuncData) (ps : List Str), FnOk P w K mg base CX0 k f fd ps (Lift K ms sp) ∧ mg x = some (.ref f) ∧ PySem.W.keepIn K (.ref f) = true ∧ Binds K fd ps []
structure Me3 (P : Program) (w : World) (K : PySem.W.Frag) (mg : Str → Option Value) (base : Heap) (k : Nat) (C : Addr) (m : Str) (ms : List Md) (sp : S3) : Prop where
  ex : ∃ (f : Addr) (fd : FuncData) (ps : List Str), Cls K C ∧ Meth K C m f ∧ FnOk P w K mg base CX0 k f fd ps (Lift K ms sp) ∧ Binds K fd ps []
structure Mk3 (P : Program) (w : World) (K : PySem.W.Frag) (mg : Str → Option Value) (base : Heap) (k : Nat) (x : Str) (C : Addr) (ms : List Md) (sp : S3) : Prop where
  ex : ∃ (f : Addr) (fd : FuncData) (ps : List Str), Mk K C f ∧ FnOk P w K mg base CX0 k f fd ps (Lift K (.par :: ms) sp) ∧ mg x = some (.ref C) ∧ Binds K fd ps []
structure Pr3 (P : Program) (w : World) (K : PySem.W.Frag) (mg : Str → Option Value) (base : Heap) (k : Nat) (C : Addr) (f : Str) (md : Md) (sp : S3) : Prop where
  ex : ∃ (p g : Addr) (fd : FuncData) (ps : List Str), Cls K C ∧ PropOf K C f p g ∧ FnOk P w K mg base CX0 k g fd ps (Lift K [md] sp) ∧ Binds K fd ps []
structure Op3 (P : Program) (w : World) (K : PySem.W.Frag) (mg : Str → Option Value) (base : Heap) (k : Nat) (C : Addr) (op : CmpOp) (ms : List Md) (sp : S3) : Prop where
  ex : ∃ (g : Addr) (fd : FuncData) (ps : List Str), PySem.W.findIn K (.ref C) (cmpInfo op).2.1 = some (some (.ref g)) ∧ PySem.W.isFn K (.ref g) = true ∧ FnOk P w K mg base CX0 k g fd ps (Lift K ms sp) ∧ Binds K fd ps []
variable {ms : List Md} {sp : S3} {k j : Nat} {C : Addr} {m : Str}
theorem qcall (cf : ∀ i, C3 (X i).prog (X i).w K (X i).mg (X i).base k x ms sp) (hR : ∀ i, Room j (X i).A) (hk : k ≤ j) (ha : QA K X (e :: es) fa) (hK : ∀ i, (X i).K = K := by exact fun _ => rfl) (hg : ∀ i, Gl (X i) x := by exact fun _ => rfl) (hdb : (x == ("__debug__" : Str)) = false := by decide)
    (he : ∀ i, starEach (e :: es) (X i).env = (false, eval e (X i).env) :: starEach es (X i).env := by exact fun _ => rfl) (hpl : ∀ i, (backTo pos (starEach es (X i).env)).any (·.1) = false := by exact fun _ => rfl) (np : noPab ms = true := by rfl) :
    QE K X (.Call (.Name x p) (e :: es) [] pos) (eCall ms sp fa) :=
  let ⟨u, h1, h2⟩ := ha.ex
  ⟨tCall (Lift K ms sp) [] E0 u, fun i => by
    obtain ⟨f, fd, ps, F, hm, kp, b⟩ := (cf i).ex
    have e := hK i
    subst e
    exact pe_call F ((hR i).mono hk) (hg i) hm kp b .nil pass0 (h1 i) hdb (he i) (hpl i), simCall np h2⟩
theorem ocall (cf : ∀ i, C3 (X i).prog (X i).w K (X i).mg (X i).base k x ms sp) (hR : ∀ i, Room j (X i).A) (hk : k ≤ j) (ha : QA K X (e :: es) fa) (hK : ∀ i, (X i).K = K := by exact fun _ => rfl) (hg : ∀ i, Gl (X i) x := by exact fun _ => rfl) (hdb : (x == ("__debug__" : Str)) = false := by decide)
    (he : ∀ i, starEach (e :: es) (X i).env = (false, eval e (X i).env) :: starEach es (X i).env := by exact fun _ => rfl) (hpl : ∀ i, (backTo pos (starEach es (X i).env)).any (·.1) = false := by exact fun _ => rfl) (np : noPab ms = true := by rfl) :
    QO K X (.Call (.Name x p) (e :: es) [] pos) (oCall ms sp fa) :=
  let ⟨u, h1, h2⟩ := ha.ex
  ⟨tCall (Lift K ms sp) [] E0 u, fun i => by
    obtain ⟨f, fd, ps, F, hm, kp, b⟩ := (cf i).ex
    have e := hK i
    subst e
    exact pe_call F ((hR i).mono hk) (hg i) hm kp b .nil pass0 (h1 i) hdb (he i) (hpl i), simOCall np h2⟩
theorem omake (cf : ∀ i, Mk3 (X i).prog (X i).w K (X i).mg (X i).base k x C ms sp) (hR : ∀ i, Room j (X i).A) (hk : k + 1 ≤ j) (ha : QA K X (e :: es) fa) (hK : ∀ i, (X i).K = K := by exact fun _ => rfl) (hg : ∀ i, Gl (X i) x := by exact fun _ => rfl) (hdb : (x == ("__debug__" : Str)) = false := by decide)
    (he : ∀ i, starEach (e :: es) (X i).env = (false, eval e (X i).env) :: starEach es (X i).env := by exact fun _ => rfl) (hpl : ∀ i, (backTo pos (starEach es (X i).env)).any (·.1) = false := by exact fun _ => rfl) (np : noPab ms = true := by rfl) :
    QO K X (.Call (.Name x p) (e :: es) [] pos) (oMake C ms sp fa) :=
  let ⟨u, h1, h2⟩ := ha.ex
  ⟨tMake C (Lift K (.par :: ms) sp) [] E0 u, fun i => by
    obtain ⟨f, fd, ps, M, F, hm, b⟩ := (cf i).ex
    have e := hK i
    subst e
    exact pe_make M F ((hR i).mono hk) (hg i) hm b .nil pass0 (h1 i) hdb (he i) (hpl i), simOMake np h2⟩
theorem qmeth {pl : ι → Sem Bool} (cf : ∀ i, Me3 (X i).prog (X i).w K (X i).mg (X i).base k C m ms sp) (hR : ∀ i, Room j (X i).A) (hk : k ≤ j) (ho : QE K X a f) (ha : QA K X (e :: es) fa) (hK : ∀ i, (X i).K = K := by exact fun _ => rfl)
    (hst : ∀ i, starEach (e :: es) (X i).env = (false, eval e (X i).env) :: starEach es (X i).env := by exact fun _ => rfl) (hpl : ∀ i, (backTo pos (starEach es (X i).env)).any (·.1) = false := by exact fun _ => rfl)
    (ht : ∀ i, eval (.Call (.Attribute a m apos) (e :: es) [] pos) (X i).env = (do
      let ov ← eval a (X i).env
      standAt apos.atName
      let (f, first) ← holding [ov] (getMethod ov m (pl i))
      callWith pos f first (backTo pos (starEach (e :: es) (X i).env)) (backToKw pos (keywordEach [] (X i).env))) := by exact fun _ => rfl) (np : noPab ms = true := by rfl) :
    QE K X (.Call (.Attribute a m apos) (e :: es) [] pos) (eMeth C m ms sp f fa) :=
  let ⟨t, h1, h2⟩ := ho.ex; let ⟨u, h3, h4⟩ := ha.ex
  ⟨tMeth C m (Lift K ms sp) [] E0 t u, fun i => by
    obtain ⟨g, fd, ps, c, me, F, b⟩ := (cf i).ex
    have e := hK i
    subst e
    exact pe_meth (h1 i) c me F ((hR i).mono hk) b .nil pass0 (h3 i) (hst i) (hpl i) (ht i), simMeth np h2 h4⟩
theorem qprop {md : Md} (cf : ∀ i, Pr3 (X i).prog (X i).w K (X i).mg (X i).base k C m md sp) (hR : ∀ i, Room j (X i).A) (hk : k + 1 ≤ j) (ho : QE K X a f) (hK : ∀ i, (X i).K = K := by exact fun _ => rfl) (hb : ∀ i, attributeBase a m (X i).env (eval a (X i).env) = eval a (X i).env := by exact fun _ => rfl) (np : noPab [md] = true := by rfl) :
    QE K X (.Attribute a m pos) (eProp C md sp f) :=
  let ⟨t, h1, h2⟩ := ho.ex
  ⟨tProp C (Lift K [md] sp) [] E0 t, fun i => by
    obtain ⟨p, g, fd, ps, c, hp, F, b⟩ := (cf i).ex
    have e := hK i
    subst e
    exact pe_prop (h1 i) c hp F ((hR i).mono hk) b .nil pass0 (hb i), simProp np h2⟩
theorem cOwn {op : CmpOp} (cf : ∀ i, Op3 (X i).prog (X i).w K (X i).mg (X i).base k C op ms sp) (hR : ∀ i, Room j (X i).A) (hk : k ≤ j) (hop : ∀ a b, compareOp op a b = richCompare op a b := by exact fun _ _ => rfl) (hK : ∀ i, (X i).K = K := by exact fun _ => rfl) (np : noPab ms = true := by rfl) : QC K X op (oOwn C ms sp) :=
  ⟨rOwnI K C (Lift K ms sp), fun i => by
    obtain ⟨g, fd, ps, hs, hf, F, b⟩ := (cf i).ex
    have e := hK i
    subst e
    exact op_ownI hop hs hf F b ((hR i).mono hk), simOwn np⟩
theorem qfld (hc : Cls K C) (hn : NoAttr K C m) (ho : QE K X a f) (hK : ∀ i, (X i).K = K := by exact fun _ => rfl) (hb : ∀ i, attributeBase a m (X i).env (eval a (X i).env) = eval a (X i).env := by exact fun _ => rfl) : QE K X (.Attribute a m pos) (eFld C m f) :=
  let ⟨t, h1, h2⟩ := ho.ex; ⟨tFld K t m, fun i => hK i ▸ pe_fld (h1 i) (hb i), simFld hc hn h2⟩
theorem qisC (ci : C8.InsC K C) (hm : ∀ i, (X i).mg "isinstance" = none) (ha : QA K X [a, b] fa) (hg : ∀ i, Gl (X i) "isinstance" := by exact fun _ => rfl) (hK : ∀ i, (X i).K = K := by exact fun _ => rfl)
    (hst : ∀ i, starEach [a, b] (X i).env = (false, eval a (X i).env) :: starEach [b] (X i).env := by exact fun _ => rfl) (hpl : ∀ i, (backTo pos (starEach [b] (X i).env)).any (·.1) = false := by exact fun _ => rfl) : QE K X (.Call (.Name "isinstance" p) [a, b] [] pos) (eCB (cIsC C) fa) :=
  qcb (fun i => C8.call_isC (hK i ▸ ci)) simIsC hm PyProof.Rows.boot_isinstance ha hg (by decide) (by decide) hst hpl
end
end L3

set_option Elab.async false
set_option linter.all false
set_option maxRecDepth 100000
namespace L3
open PySem PySem.Spec L2
open PyProof.Rows (b2i envOfC)
section
variable {ι : Type} {X : ι → Cx} {K : PySem.W.Frag} {pos p p2 pos' apos cpos spos : Pos} {e a b c d' tg iter o value : Expr} {es rest ifs : List Expr} {f g h fv fo : T3E} {x y : Str} {st : Stmt} {sts body els : List Stmt} {fs gs : T3S} {ft : T3T} {fa : T3A}

/-! ### statements -/
theorem bn : QB K X [] sNext := ⟨_, fun _ => pss_nil, simNext⟩
theorem bc (h1 : QS K X st fs) (h2 : QB K X sts gs) : QB K X (st :: sts) (sSeq fs gs) := let ⟨_, a1, a2⟩ := h1.ex; let ⟨_, b1, b2⟩ := h2.ex; ⟨_, fun i => pss_cons (a1 i) (b1 i), simSeq a2 b2⟩
theorem b1 (h1 : QS K X st fs) : QB K X [st] fs := let ⟨_, a1, a2⟩ := h1.ex; ⟨_, fun i => pss_one (a1 i), a2⟩
theorem bnever : QB K X sts sNever := ⟨_, fun _ => pss_never, simNever⟩
theorem snever : QS K X st sNever := ⟨_, fun _ => ps_never, simNever⟩
theorem spass : QS K X (.Pass pos) sNext := ⟨_, fun _ => ps_pass, simNext⟩
theorem sbreak : QS K X (.Break pos) sBreak := ⟨_, fun _ => ps_break, simBreak⟩
theorem scont : QS K X (.Continue pos) sCont := ⟨_, fun _ => ps_continue, simCont⟩
theorem sexpr (he : QE K X e f) (hs : ∀ i, swapsWith e none pos.line (X i).env = pure false := by exact fun _ => rfl) : QS K X (.Expr e pos) (sDrop f) := let ⟨_, a1, a2⟩ := he.ex; ⟨_, fun i => ps_expr (a1 i) (hs i), simDrop a2⟩
theorem sret (he : QE K X e f) : QS K X (.Return (some e) pos) (sRet f) := let ⟨_, a1, a2⟩ := he.ex; ⟨_, fun i => ps_ret (a1 i), simRet a2⟩
theorem sretO {f : T3O'} (he : QO K X e f) : QS K X (.Return (some e) pos) (sRetO f) := let ⟨_, a1, a2⟩ := he.ex; ⟨_, fun i => ps_ret (a1 i), simRetO a2⟩
theorem sretN : QS K X (.Return none pos) sRetN := ⟨_, fun _ => ps_retN, simRetN⟩
theorem sif (hc : QT K X c ft) (ha : QB K X body fs) (hb : QB K X els gs) : QS K X (.If c body els pos) (sIf ft fs gs) := let ⟨_, a1, a2⟩ := hc.ex; let ⟨_, b1, b2⟩ := ha.ex; let ⟨_, c1, c2⟩ := hb.ex; ⟨_, fun i => ps_if (a1 i) (b1 i) (c1 i), simIfS a2 b2 c2⟩
/-! ### targets -/
theorem gn (n : Nat) (hN : ∀ i, (X i).N[n]? = some x := by exact fun _ => rfl) (hnd : ∀ i, (X i).N.Nodup := by exact fun _ => by decide) (hx : ∀ i, Loc (X i).env.scope x := by first | exact fun _ => Or.inl rfl | exact fun _ => Or.inr rfl)
    (hf : ∀ i, (X i).fn x = true ∨ (X i).env.scope.names.lookup x = some .local := by first | exact fun _ => Or.inl rfl | exact fun _ => Or.inr rfl) : QG K X false (.Name x pos) (gN n) [n] := ⟨_, fun i => pg_name (hnd i) (hN i) (hx i) (hf i), simGN n⟩
theorem gsn : QGs K X 0 [] (fun xs ρ Q => xs = [] ∧ Q ρ) [] := ⟨_, fun _ => pgs_nil, simGNil⟩
theorem gsc {g1 : T3G} {gr : List D → En → (En → Prop) → Prop} {is js : List Nat} {n : Nat} (h1 : QG K X false e g1 is) (h2 : QGs K X n es gr js) (hs : ∀ i, (assignEach (e :: es) (X i).env).map (·.2) = assign e (X i).env :: (assignEach es (X i).env).map (·.2) := by exact fun _ => rfl) :
    QGs K X (n + 1) (e :: es) (fun xs ρ Q => match xs with | x :: r => g1 x ρ fun ρ1 => gr r ρ1 Q | [] => False) (is ++ js) := let ⟨_, a1, a2⟩ := h1.ex; let ⟨_, b1, b2⟩ := h2.ex; ⟨_, fun i => pgs_cons (a1 i) (b1 i) (hs i), simGCons a2 b2⟩
theorem gtup {wk : Bool} {kk n : Nat} {gr : List D → En → (En → Prop) → Prop} {is : List Nat} (h : QGs K X n es gr is) (hc : ∀ i, (X i).calm = true := by exact fun _ => rfl) (hK : ∀ i, (X i).K = K := by exact fun _ => rfl)
    (hn : ∀ i, (assignEach es (X i).env).length = n := by exact fun _ => rfl) (hst : ∀ i, (assignEach es (X i).env).findIdx? (·.1) = none := by exact fun _ => rfl) : QG K X wk (.Tuple es kk pos) (gT n gr) is :=
  let ⟨t, a1, a2⟩ := h.ex; ⟨gTup K n t, fun i => hK i ▸ pg_tup (hc i) (a1 i) (hn i) (hst i), simGT a2⟩
/-! ### assignments -/
theorem sset (n : Nat) (he : QE K X e f) (hN : ∀ i, (X i).N[n]? = some x := by exact fun _ => rfl) (hnd : ∀ i, (X i).N.Nodup := by exact fun _ => by decide) (hx : ∀ i, Loc (X i).env.scope x := by first | exact fun _ => Or.inl rfl | exact fun _ => Or.inr rfl)
    (hs : ∀ i, swapsWith e (some (.Name x pos')) pos.line (X i).env = pure false := by exact fun _ => rfl) (hf : ∀ i, (X i).fn x = true ∨ (X i).env.scope.names.lookup x = some .local := by first | exact fun _ => Or.inl rfl | exact fun _ => Or.inr rfl) :
    QS K X (.Assign [.Name x pos'] e pos) (sAsg f (gN n)) := let ⟨_, a1, a2⟩ := he.ex; ⟨_, fun i => ps_set (hnd i) (hN i) (hx i) (a1 i) (hs i) (hf i), simAsg a2 (simGN n)⟩
theorem ssetO (n : Nat) {f : T3O'} (he : QO K X e f) (hN : ∀ i, (X i).N[n]? = some x := by exact fun _ => rfl) (hnd : ∀ i, (X i).N.Nodup := by exact fun _ => by decide) (hx : ∀ i, Loc (X i).env.scope x := by first | exact fun _ => Or.inl rfl | exact fun _ => Or.inr rfl)
    (hs : ∀ i, swapsWith e (some (.Name x pos')) pos.line (X i).env = pure false := by exact fun _ => rfl) (hf : ∀ i, (X i).fn x = true ∨ (X i).env.scope.names.lookup x = some .local := by first | exact fun _ => Or.inl rfl | exact fun _ => Or.inr rfl) :
    QS K X (.Assign [.Name x pos'] e pos) (sAsgO f n) := let ⟨_, a1, a2⟩ := he.ex; ⟨_, fun i => ps_set (hnd i) (hN i) (hx i) (a1 i) (hs i) (hf i), simAsgO a2 n⟩
theorem sasg {g3 : T3G} {is : List Nat} (he : QE K X e f) (hg : QG K X false tg g3 is) (hs : ∀ i, swapsWithSole [tg] e pos.line (X i).env = pure false := by exact fun _ => rfl) (hw : ∀ i, swappedStores [tg] e (X i).env = pure none := by exact fun _ => rfl)
    (h1 : ∀ i, (assignEach [tg] (X i).env).map (·.2) = [assign tg (X i).env] := by exact fun _ => rfl) : QS K X (.Assign [tg] e pos) (sAsg f g3) := let ⟨_, a1, a2⟩ := he.ex; let ⟨_, b1, b2⟩ := hg.ex; ⟨_, fun i => ps_asg (a1 i) (b1 i) (hs i) (hw i) (h1 i), simAsg a2 b2⟩
/-- xs[i] = e -/
theorem sput {i' : Expr} (he : QE K X e f) (ho : QE K X o fo) (hi : QE K X i' h) (hs : ∀ i, swapsWithSole [.Subscript o i' p] e pos.line (X i).env = pure false := by exact fun _ => rfl) (hw : ∀ i, swappedStores [.Subscript o i' p] e (X i).env = pure none := by exact fun _ => rfl)
    (h1 : ∀ i, (assignEach [.Subscript o i' p] (X i).env).map (·.2) = [assign (.Subscript o i' p) (X i).env] := by exact fun _ => rfl)
    (hp : ∀ i v, assign (.Subscript o i' p) (X i).env v = (do
      let ov ← holding [v] (eval o (X i).env)
      let iv ← holding [v, ov] (eval i' (X i).env)
      standAt p
      holding [v, ov, iv] (setItem ov iv v)
      release [v, ov, iv] []) := by exact fun _ _ => rfl) : QS K X (.Assign [.Subscript o i' p] e pos) (sPut f fo h) :=
  let ⟨_, a1, a2⟩ := he.ex; let ⟨_, b1, b2⟩ := ho.ex; let ⟨_, c1, c2⟩ := hi.ex; ⟨_, fun i => ps_asg (a1 i) (pg_sub (b1 i) (c1 i) set_list (hp i)) (hs i) (hw i) (h1 i), simPut a2 b2 c2⟩
theorem sdput {k : Nat} {i' : Expr} (hR : ∀ i, Room k (X i).A) (he : QE K X e f) (ho : QE K X o fo) (hi : QE K X i' h) (hs : ∀ i, swapsWith e (some (.Subscript o i' pos')) pos.line (X i).env = pure false := by exact fun _ => rfl) : QS K X (.Assign [.Subscript o i' pos'] e pos) (sDPutD f fo h) :=
  let ⟨_, a1, a2⟩ := he.ex; let ⟨_, b1, b2⟩ := ho.ex; let ⟨_, c1, c2⟩ := hi.ex; ⟨_, fun i => ps_dput (hu_of (hR i)) (b1 i) (c1 i) (a1 i) (hs i), simDPut a2 b2 c2⟩
theorem sfld {C : Addr} {m : Str} (hc : Cls K C) (hn : NoAttr K C m) (ho : QE K X o fo) (hv : QE K X value fv) (hK : ∀ i, (X i).K = K := by exact fun _ => rfl) (hs : ∀ i, swapsWith value (some (.Attribute o m pos')) pos.line (X i).env = pure false := by exact fun _ => rfl) : QS K X (.Assign [.Attribute o m pos'] value pos) (sFldP C m fv fo) :=
  let ⟨t, a1, a2⟩ := ho.ex; let ⟨u, b1, b2⟩ := hv.ex; ⟨sFld K t u m, fun i => hK i ▸ ps_fld (a1 i) (b1 i) (hs i), simFldP hc hn b2 a2⟩
/-! ### walks -/
theorem iseq (he : QE K X e f) (hK : ∀ i, (X i).K = K := by exact fun _ => rfl) : QI K X false tg e (iS f) := let ⟨t, a1, a2⟩ := he.ex; ⟨iSeq K t, fun i => hK i ▸ pi_seq (a1 i), simIS a2⟩
theorem irng1 (hm : ∀ i, (X i).mg "range" = none) (ha : QA K X [a] fa) (hg : ∀ i, Gl (X i) "range" := by exact fun _ => rfl) (hs : ∀ i, starEach [a] (X i).env = [(false, eval a (X i).env)] := by exact fun _ => rfl) : QI K X false tg (.Call (.Name "range" p) [a] [] pos) (iR1 fa) :=
  let ⟨_, a1, a2⟩ := ha.ex; ⟨_, fun i => pi_range1 (hg i) (hm i) (a1 i) (hs i), simIR1 a2⟩
theorem irng2 (hm : ∀ i, (X i).mg "range" = none) (ha : QA K X [a, b] fa) (hg : ∀ i, Gl (X i) "range" := by exact fun _ => rfl) (hs : ∀ i, starEach [a, b] (X i).env = [(false, eval a (X i).env), (false, eval b (X i).env)] := by exact fun _ => rfl) (hs2 : ∀ i, starEach [b] (X i).env = [(false, eval b (X i).env)] := by exact fun _ => rfl) :
    QI K X false tg (.Call (.Name "range" p) [a, b] [] pos) (iR2 fa) := let ⟨_, a1, a2⟩ := ha.ex; ⟨_, fun i => pi_range2 (hg i) (hm i) (a1 i) (hs i) (hs2 i), simIR2 a2⟩
theorem irng3 (hm : ∀ i, (X i).mg "range" = none) (ha : QA K X [a, b, c] fa) (hg : ∀ i, Gl (X i) "range" := by exact fun _ => rfl) (hs : ∀ i, starEach [a, b, c] (X i).env = (false, eval a (X i).env) :: starEach [b, c] (X i).env := by exact fun _ => rfl) (hpl : ∀ i, (backTo pos (starEach [b, c] (X i).env)).any (·.1) = false := by exact fun _ => rfl) :
    QI K X false tg (.Call (.Name "range" p) [a, b, c] [] pos) (iRm fa) := let ⟨_, a1, a2⟩ := ha.ex; ⟨_, fun i => pi_range3 (hg i) (hm i) (a1 i) (hs i) (hpl i), simIRm a2⟩
theorem ienum {elts : List Expr} {kk : Nat} {tpos : Pos} (hm : ∀ i, (X i).mg "enumerate" = none) (ha : QA K X [e] fa) (hg : ∀ i, Gl (X i) "enumerate" := by exact fun _ => rfl) (hs : ∀ i, starEach [e] (X i).env = [(false, eval e (X i).env)] := by exact fun _ => rfl) (hK : ∀ i, (X i).K = K := by exact fun _ => rfl) :
    QI K X true (.Tuple elts kk tpos) (.Call (.Name "enumerate" p) [e] [] pos) (iEP fa) := let ⟨t, a1, a2⟩ := ha.ex; ⟨iEnumP K t, fun i => hK i ▸ pi_enumP (hg i) (hm i) (a1 i) (hs i), simIEP a2⟩
theorem sfor {wk : Bool} {w : T3I} {g3 : T3G} {ix : List Nat} (hi : QI K X wk tg iter w) (hg : QG K X wk tg g3 ix) (hb : QB K X body fs) (hp : ∀ i, PassesOwn (model (X i).prog (X i).w) (X i).A (X i).env (X i).xe := by exact fun _ => PassesOwn.never) (hc : ∀ i, (X i).calm = true := by exact fun _ => rfl)
    (hs : ∀ i x, foldedSetIterable iter (X i).env x = pure x := by exact fun _ _ => rfl) : QS K X (.For tg iter body [] pos) (sFor w g3 fs) :=
  let ⟨_, a1, a2⟩ := hi.ex; let ⟨_, b1, b2⟩ := hg.ex; let ⟨_, c1, c2⟩ := hb.ex; ⟨_, fun i => ps_for (hp i) (hc i) (a1 i) (b1 i) (c1 i) (hs i), simFor a2 b2 c2⟩
theorem swhile (hc : QT K X c ft) (hb : QB K X body fs) (hp : ∀ i, PassesOwn (model (X i).prog (X i).w) (X i).A (X i).env (X i).xe := by exact fun _ => PassesOwn.never) : QS K X (.While c body [] pos) (sWhile ft fs) :=
  let ⟨_, a1, a2⟩ := hc.ex; let ⟨_, b1, b2⟩ := hb.ex; ⟨_, fun i => ps_while (hp i) (a1 i) (b1 i), simWhile a2 b2⟩
/-! ### comprehensions -/
theorem tsn : QTs K X [] fYes := ⟨_, fun _ => pts_nil, fun F U ρ σ H Q3 Q2 e R q k => k true ρ H R (.refl R) q⟩
theorem ts1 (h : QT K X c ft) : QTs K X [c] ft := let ⟨_, a1, a2⟩ := h.ex; ⟨_, fun i => pts_one (a1 i), a2⟩
/-- the contexts of a comprehension's block -/
abbrev Blk (X : ι → Cx) (scope : Scope) : (ι × Shared × Hp × Addr × List (Str × Addr) × List Addr) → Cx := fun z => (X z.1).blk z.2.1 z.2.2.1 scope (compEnvC scope z.2.2.2.2.1 z.2.2.2.1 (X z.1).env) z.2.2.2.2.2
theorem olc {wk : Bool} {elt : Expr} {scope : Scope} {w : T3I} {g3 : T3G} {te : T3E} {ix : List Nat} (own : List (Str × Nat)) (hi : QI K X wk tg iter w) (hg : QG K (Blk X scope) wk tg g3 ix) (ht : QTs K (Blk X scope) ifs ft) (he : QE K (Blk X scope) elt te)
    (ok : ∀ i, BlkOk (X i).N (X i).env.scope scope own) (hc : ∀ i, (X i).calm = true := by exact fun _ => rfl) (hnd : ∀ i, (X i).N.Nodup := by exact fun _ => by decide)
    (hix : ix.all (fun i => (own.map (·.2)).contains i) = true := by rfl) (hs : ∀ i x, foldedSetIterable iter (X i).env x = pure x := by exact fun _ _ => rfl) :
    QO K X (.ListComp elt [⟨tg, iter, ifs, 0⟩] scope pos) (oLc w g3 ft te (own.map (·.2))) :=
  let ⟨_, a1, a2⟩ := hi.ex; let ⟨_, b1, b2⟩ := hg.ex; let ⟨_, c1, c2⟩ := ht.ex; let ⟨_, d1, d2⟩ := he.ex
  ⟨_, fun i => pe_lc (hc i) (hnd i) (a1 i) (ok i) (fun s H C cl fp => b1 (i, s, H, C, cl, fp)) (fun s H C cl fp => c1 (i, s, H, C, cl, fp)) (fun s H C cl fp => d1 (i, s, H, C, cl, fp)) (hs i), simLc a2 b2 c2 d2 hix⟩
/-- y = [..] -/
theorem slcG {wk : Bool} {elt : Expr} {scope : Scope} {py : Pos} {w : T3I} {g3 : T3G} {te : T3E} {ix : List Nat} (n : Nat) (own : List (Str × Nat)) (hi : QI K X wk tg iter w) (hg : QG K (Blk X scope) wk tg g3 ix) (ht : QTs K (Blk X scope) ifs ft) (he : QE K (Blk X scope) elt te)
    (ok : ∀ i, BlkOk (X i).N (X i).env.scope scope own) (hN : ∀ i, (X i).N[n]? = some y) (hyl : ∀ i, (X i).env.scope.names.lookup y = some .local)
    (hsw : ∀ i, swapsWith (.ListComp elt [⟨tg, iter, ifs, 0⟩] scope pos) (some (.Name y py)) spos.line (X i).env = pure true) (hc : ∀ i, (X i).calm = true) (hnd : ∀ i, (X i).N.Nodup)
    (hix : ix.all (fun i => (own.map (·.2)).contains i) = true) (hs : ∀ i x, foldedSetIterable iter (X i).env x = pure x) :
    ∃ t, (∀ i, PS (X i) (.Assign [.Name y py] (.ListComp elt [⟨tg, iter, ifs, 0⟩] scope pos) spos) (tAsg t (gName n))) ∧ SimEO K t (oLc w g3 ft te (own.map (·.2))) :=
  let ⟨_, a1, a2⟩ := hi.ex; let ⟨_, b1, b2⟩ := hg.ex; let ⟨_, c1, c2⟩ := ht.ex; let ⟨_, d1, d2⟩ := he.ex
  ⟨_, fun i => ps_setLc (hc i) (hnd i) (hN i) (hyl i) (hsw i) (a1 i) (ok i) (fun s H C cl fp => b1 (i, s, H, C, cl, fp)) (fun s H C cl fp => c1 (i, s, H, C, cl, fp)) (fun s H C cl fp => d1 (i, s, H, C, cl, fp)) (hs i), simLc a2 b2 c2 d2 hix⟩
theorem slcO {wk : Bool} {elt : Expr} {scope : Scope} {py : Pos} {w : T3I} {g3 : T3G} {te : T3E} {ix : List Nat} (n : Nat) (own : List (Str × Nat)) (hi : QI K X wk tg iter w) (hg : QG K (Blk X scope) wk tg g3 ix) (ht : QTs K (Blk X scope) ifs ft) (he : QE K (Blk X scope) elt te)
    (ok : ∀ i, BlkOk (X i).N (X i).env.scope scope own) (hsw : ∀ i, swapsWith (.ListComp elt [⟨tg, iter, ifs, 0⟩] scope pos) (some (.Name y py)) spos.line (X i).env = pure true) (hN : ∀ i, (X i).N[n]? = some y := by exact fun _ => rfl) (hyl : ∀ i, (X i).env.scope.names.lookup y = some .local := by exact fun _ => rfl)
    (hc : ∀ i, (X i).calm = true := by exact fun _ => rfl) (hnd : ∀ i, (X i).N.Nodup := by exact fun _ => by decide)
    (hix : ix.all (fun i => (own.map (·.2)).contains i) = true := by rfl) (hs : ∀ i x, foldedSetIterable iter (X i).env x = pure x := by exact fun _ _ => rfl) :
    QS K X (.Assign [.Name y py] (.ListComp elt [⟨tg, iter, ifs, 0⟩] scope pos) spos) (sAsgO (oLc w g3 ft te (own.map (·.2))) n) :=
  let ⟨_, h1, h2⟩ := slcG n own hi hg ht he ok hN hyl hsw hc hnd hix hs; ⟨_, h1, simAsgO h2 n⟩
theorem slc {wk : Bool} {elt : Expr} {scope : Scope} {py : Pos} {w : T3I} {g3 : T3G} {te : T3E} {ix : List Nat} (n : Nat) (own : List (Str × Nat)) (hi : QI K X wk tg iter w) (hg : QG K (Blk X scope) wk tg g3 ix) (ht : QTs K (Blk X scope) ifs ft) (he : QE K (Blk X scope) elt te)
    (ok : ∀ i, BlkOk (X i).N (X i).env.scope scope own) (hsw : ∀ i, swapsWith (.ListComp elt [⟨tg, iter, ifs, 0⟩] scope pos) (some (.Name y py)) spos.line (X i).env = pure true) (hN : ∀ i, (X i).N[n]? = some y := by exact fun _ => rfl) (hyl : ∀ i, (X i).env.scope.names.lookup y = some .local := by exact fun _ => rfl)
    (hc : ∀ i, (X i).calm = true := by exact fun _ => rfl) (hnd : ∀ i, (X i).N.Nodup := by exact fun _ => by decide)
    (hix : ix.all (fun i => (own.map (·.2)).contains i) = true := by rfl) (hs : ∀ i x, foldedSetIterable iter (X i).env x = pure x := by exact fun _ _ => rfl) :
    QS K X (.Assign [.Name y py] (.ListComp elt [⟨tg, iter, ifs, 0⟩] scope pos) spos) (sAsg (eShr (oLc w g3 ft te (own.map (·.2)))) (gN n)) :=
  let ⟨_, h1, h2⟩ := slcG n own hi hg ht he ok hN hyl hsw hc hnd hix hs; ⟨_, h1, simAsg (simShr h2) (simGN n)⟩
end

/-! ### defs -/
section
variable {P : Program} {w : World} {K : PySem.W.Frag} {mg : Str → Option Value} {base : Heap} {x qual : Str} {params : Arguments} {body : List Stmt} {scope : Scope} {f : Addr} {fd : FuncData} {N ps : List Str} {k n : Nat} {ms : List Md} {sp : S3} {t3 : T3S}
/-- the context of a def's body -/
abbrev CxD (P : Program) (w : World) (K : PySem.W.Frag) (mg : Str → Option Value) (base : Heap) (N : List Str) (qual : Str) (scope : Scope) (f : Addr) : (Value × Around × List Env × Shared × Hp × XK) → Cx :=
  fun z => (cxOf CX0 P w K mg base N qual scope f z.1 z.2.1 z.2.2.1 z.2.2.2.1 z.2.2.2.2.1 z.2.2.2.2.2).nox
/-- .. where there is room for k calls more -/
abbrev CxR (k : Nat) (P : Program) (w : World) (K : PySem.W.Frag) (mg : Str → Option Value) (base : Heap) (N : List Str) (qual : Str) (scope : Scope) (f : Addr) : {z : Value × Around × List Env × Shared × Hp × XK // Room k (z.2.1.deeper (envOfC qual scope z.2.2.2.1.heap.objs.size f z.1))} → Cx :=
  fun z => CxD P w K mg base N qual scope f z.1
theorem fn3 {dvs : List V} {kws : List (Str × V)} (F : FunD K x qual params body scope dvs kws f fd) (S : FnScope N ps scope) (hl : ps.length = ms.length) (hN : N.length = ms.length + n) (hw : QB K (CxR k P w K mg base N qual scope f) body t3)
    (hsp : ∀ ds QR QO, sp ds QR QO → ds.length = ms.length → t3 (endE ms ds QR QO) (startE n ms ds)) : FnOk P w K mg base CX0 (k + 1) f fd ps (Lift K ms sp) := by
  obtain ⟨t, h1, h2⟩ := hw.ex
  refine funD_ok F S (fun vs H Q E h => ?_) fun cdv A outer s H vs Q E hr h => ⟨t, PSs.nox (h1 ⟨(cdv, A, outer, s, H, E), hr⟩), body3 h2 hN hsp vs H Q E h⟩
  obtain ⟨U, ds, QR, QO, A, _⟩ := h
  rw [hl]; exact A.l1.symm
theorem c3 (F : FunD K x qual params body scope [] [] f fd) (hm : mg x = some (.ref f)) (hb : Binds K fd ps []) (S : FnScope N ps scope) (hl : ps.length = ms.length) (hN : N.length = ms.length + n) (hw : QB K (CxR k P w K mg base N qual scope f) body t3)
    (hsp : ∀ ds QR QO, sp ds QR QO → ds.length = ms.length → t3 (endE ms ds QR QO) (startE n ms ds)) : C3 P w K mg base (k + 1) x ms sp :=
  ⟨f, fd, ps, fn3 F S hl hN hw hsp, hm, F.kp, hb⟩
theorem C3.mono {j : Nat} (c : C3 P w K mg base j x ms sp) (h : j ≤ k) : C3 P w K mg base k x ms sp := let ⟨f, fd, ps, F, h1, h2, h3⟩ := c.ex; ⟨f, fd, ps, F.mono h, h1, h2, h3⟩
theorem C3.imp {sp' : S3} (c : C3 P w K mg base k x ms sp) (h : ∀ ds QR QO, sp' ds QR QO → sp ds QR QO) : C3 P w K mg base k x ms sp' :=
  let ⟨f, fd, ps, F, h1, h2, h3⟩ := c.ex
  ⟨f, fd, ps, F.imp fun vs H Q E ⟨U, ds, QR, QO, A, q, r⟩ => ⟨U, ds, QR, QO, A, h _ _ _ q, r⟩, h1, h2, h3⟩
end
end L3

set_option Elab.async false
set_option linter.all false
set_option maxRecDepth 100000
namespace L3
open PySem PySem.Spec L2
open PyProof.Rows (b2i envOfC)
section
variable {F : Fr} {U U2 : US} {ρ ρ' ρ2 : En} {σ σ2 : L2.St} {H H' H2 : Hp} {K : PySem.W.Frag}
/-! ### - e -/
def eNeg (f : T3E) : T3E := fun ρ Q => f ρ fun r ρ1 => wd r ρ1 fun d => match d with
  | .int i => Q (.val (.int (-i))) ρ1
  | _ => False
theorem simNeg {t : TE} {f : T3E} (h : SimE K t f) : SimE K (tUn (rU fun i => .int (-i)) t) (eNeg f) := by
  intro F U ρ σ H Q3 Q2 e R q k
  refine h F U ρ σ H _ _ e R q fun r v ρ1 H1 R1 s1 q1 h1 => ?_
  obtain ⟨d, ed, h1⟩ := wd_out h1
  cases d <;> first | exact h1.elim | skip
  exact ⟨_, q1.int R1 ed, k (.val _) _ ρ1 H1 R1 s1 rvI h1⟩
/-! ### d.get(k, x) -/
def eDG2 (fd fy fx : T3E) : T3E := fun ρ Q => fd ρ fun x ρ1 => wd x ρ1 fun dx => match dx with
  | .dic _ => fy ρ1 fun y ρ2 => fx ρ2 fun z ρ3 => match z with
    | .val dz => wdk x y ρ3 fun kvs k => Q (.val ((getD' kvs k).getD dz)) ρ3
    | _ => False
  | _ => False
theorem simDG2 {td ty tx : TE} {fd fy fx : T3E} (h : SimE K td fd) (hy : SimE K ty fy) (hx : SimE K tx fx) : SimE K (tDGet2 td ty tx) (eDG2 fd fy fx) := by
  intro F U ρ σ H Q3 Q2 e R q k
  refine h F U ρ σ H _ _ e R q fun x v ρ1 H1 R1 s1 q1 h1 => ?_
  obtain ⟨d, ed, h1⟩ := wd_out h1
  cases d <;> first | exact h1.elim | skip
  obtain ⟨a, vs, rfl, z1, z2⟩ := q1.dic R1 ed
  refine ⟨a, rfl, .inl ⟨vs, z1⟩, hy F U ρ1 σ H1 _ _ e R1 h1 fun y w ρ2 H2 R2 s2 q2 h2 => ?_⟩
  refine hx F U ρ2 σ H2 _ _ e R2 h2 fun z u ρ3 H3 R3 s3 q3 h3 => ?_
  cases z with
  | sl _ => exact h3.elim
  | bx _ _ _ => exact h3.elim
  | val dz =>
    have q1' : RV F U σ H3 x (.ref a) := (q1.pres (s2.pres R1)).pres (s3.pres R2)
    obtain ⟨a', kvs, ws, j, ea, y1, y2, rfl, h4⟩ := wdk_out R3 q1' (q2.pres (s3.pres R2)) h3
    cases ea
    refine ⟨valV ws j, .inl ⟨ws, j, y1, rfl, rfl⟩, ?_⟩
    rcases y2.get j with ⟨n, n'⟩ | ⟨d', v', n, ev, rv⟩
    · rw [n'] ; rw [n] at h4
      exact k (.val dz) u ρ3 H3 R3 ((s1.trans s2).trans s3) q3 h4
    · rw [ev]; rw [n] at h4
      exact k (.val d') v' ρ3 H3 R3 ((s1.trans s2).trans s3) rv h4
/-! ### a text, sign by sign -/
def signs (z : Str) : List D := z.cps.toList.map fun c => .str ⟨#[c]⟩
def iSt (f : T3E) : T3I := fun ρ Q => f ρ fun r ρ1 => wd r ρ1 fun d => match d with
  | .str z => Q ⟨signs z, .val .non⟩ ρ1
  | _ => False
theorem simISt {t : TE} {f : T3E} (h : SimE K t f) : SimI K false (iStr t) (iSt f) := by
  intro F U ρ σ H Q3 R2 e R q k
  refine h F U ρ σ H _ _ e R q fun r v ρ1 H1 R1 s1 q1 h1 => ?_
  obtain ⟨d, ed, h1⟩ := wd_out h1
  cases d <;> first | exact h1.elim | skip
  rename_i z
  refine ⟨z, q1.str R1 ed, k _ ⟨signs z, .val .non⟩ ρ1 H1 R1 s1 ?_ h1⟩
  intro F2 U2 ρ2 σ2 H2 eK R2' p kp i
  refine ⟨fun d hd => ?_, fun hi => by
    have hi : z.cps.size ≤ i := by simpa [signs] using hi
    exact hi⟩
  unfold signs at hd
  rw [List.getElem?_map] at hd
  obtain ⟨c, hc, rfl⟩ := Option.map_eq_some_iff.mp hd
  have hc2 : z.cps[i]? = some c := by simpa using hc
  refine ⟨(Array.getElem?_eq_some_iff.mp hc2).1, fun x H3 hy => ?_⟩
  obtain ⟨rfl, c', hc', rfl⟩ := hy
  rw [hc2] at hc'; cases hc'
  exact ⟨fun _ _ h => h, .inl rp_str⟩
/-! ### a written dict with text keys -/
structure KD3 (K : PySem.W.Frag) (w : World) (d : Addr) (tbl : List (Str × Int)) : Prop where
  ex : ∃ es n, KDict K w d es n ∧ ∀ z i, tbl.lookup z = some i → ∃ u, PySem.W.nsIn K d z = some (some u) ∧ RelV (.int i) u
def rKIn (K : PySem.W.Frag) (w : World) (neg : Bool) (d : Addr) (tbl : List (Str × Int)) : R2 := fun x y H Q => ∃ z i, x = .str z ∧ y = .ref d ∧ tbl.lookup z = some i ∧ Q (.bl (!neg)) H
theorem op_kin {X : Cx} {d : Addr} {tbl : List (Str × Int)} (D : KD3 X.K X.w d tbl) : OpR X (compareOp .In) (rKIn X.K X.w false d tbl) := by
  intro pins s σ H x y v u Q I rx ry h
  obtain ⟨z, i, rfl, rfl, e, q⟩ := h
  obtain ⟨es, n, D, g⟩ := D.ex
  obtain ⟨u0, h1, h2⟩ := g z i e
  exact op_in_kd D pins s σ H _ _ v u Q I rx ry ⟨z, some u0, rfl, rfl, h1, q⟩
theorem op_knin {X : Cx} {d : Addr} {tbl : List (Str × Int)} (D : KD3 X.K X.w d tbl) : OpR X (compareOp .NotIn) (rKIn X.K X.w true d tbl) := by
  intro pins s σ H x y v u Q I rx ry h
  obtain ⟨z, i, rfl, rfl, e, q⟩ := h
  obtain ⟨es, n, D, g⟩ := D.ex
  obtain ⟨u0, h1, h2⟩ := g z i e
  exact op_notIn_kd D pins s σ H _ _ v u Q I rx ry ⟨z, some u0, rfl, rfl, h1, q⟩
def oKIn (neg : Bool) (dC : Addr) (tbl : List (Str × Int)) (x y : Rs) (ρ : En) (Q : Rs → En → Prop) : Prop := wd x ρ fun dx => wd y ρ fun dy => match dx, dy with
  | .str z, .cls C => C = dC ∧ wo (tbl.lookup z) fun _ => Q (.val (.bl (!neg))) ρ
  | _, _ => False
theorem RV.cls (R : Rel F U ρ σ H) {r : Rs} {v : V} {C : Addr} (h : RV F U σ H r v) (e : r.dat ρ = some (.cls C)) : v = .ref C := by
  rcases h.get R e with q | ⟨a, _, q⟩
  · simpa only [Rp] using q
  · exact q.elim
theorem simKIn {w : World} {neg : Bool} {dC : Addr} {tbl : List (Str × Int)} : SimR2 K (rKIn K w neg dC tbl) (oKIn neg dC tbl) := by
  intro F U ρ σ H x y rx ry Q3 Q2 e R hx hy h k
  obtain ⟨dx, ex, h1⟩ := wd_out h
  obtain ⟨dy, ey, h2⟩ := wd_out h1
  clear h h1
  cases dx <;> first | exact h2.elim | skip
  cases dy <;> first | exact h2.elim | skip
  obtain ⟨e1, h3⟩ := h2
  obtain ⟨i, ei, h3⟩ := wo_out h3
  exact ⟨_, i, hx.str R ex, by rw [hy.cls R ey, e1], ei, k (.val _) _ ρ H R (.refl R) rvB h3⟩
def rKGet (K : PySem.W.Frag) (w : World) (d : Addr) (tbl : List (Str × Int)) : R2 := fun x y H Q => ∃ z i, x = .ref d ∧ y = .str z ∧ tbl.lookup z = some i ∧ Q (.int i) H
theorem ix_kget {X : Cx} {d : Addr} {tbl : List (Str × Int)} (D : KD3 X.K X.w d tbl) : IxR X (rKGet X.K X.w d tbl) := by
  intro value slice pins s σ H x y v u Q I rx ry h hs
  obtain ⟨z, i, rfl, rfl, e, q⟩ := h
  obtain ⟨es, n, D, g⟩ := D.ex
  obtain ⟨u0, h1, h2⟩ := g z i e
  exact ix_kdict value slice pins s σ H _ _ v u Q I rx ry ⟨d, z, .int i, rfl, rfl, ⟨es, n, u0, D.at_, D.lit, h1, h2⟩, q⟩ hs
def oKGet (dC : Addr) (tbl : List (Str × Int)) (x y : Rs) (ρ : En) (Q : Rs → En → Prop) : Prop := wd x ρ fun dx => wd y ρ fun dy => match dx, dy with
  | .cls C, .str z => C = dC ∧ wo (tbl.lookup z) fun i => Q (.val (.int i)) ρ
  | _, _ => False
theorem simKGet {w : World} {dC : Addr} {tbl : List (Str × Int)} : SimR2 K (rKGet K w dC tbl) (oKGet dC tbl) := by
  intro F U ρ σ H x y rx ry Q3 Q2 e R hx hy h k
  obtain ⟨dx, ex, h1⟩ := wd_out h
  obtain ⟨dy, ey, h2⟩ := wd_out h1
  clear h h1
  cases dx <;> first | exact h2.elim | skip
  cases dy <;> first | exact h2.elim | skip
  obtain ⟨e1, h3⟩ := h2
  obtain ⟨i, ei, h3⟩ := wo_out h3
  exact ⟨_, i, by rw [hx.cls R ex, e1], hy.str R ey, ei, k (.val _) _ ρ H R (.refl R) rvI h3⟩
end
section
variable {ι : Type} {X : ι → Cx} {K : PySem.W.Frag} {pos p p2 apos cpos : Pos} {e a b c o : Expr} {f g h : T3E} {x : Str}
theorem istr {tg : Expr} (ha : QE K X e f) : QI K X false tg e (iSt f) := let ⟨_, h1, h2⟩ := ha.ex; ⟨_, fun i => pi_str (h1 i), simISt h2⟩
theorem qneg (ha : QE K X a f) : QE K X (.UnaryOp .USub a pos) (eNeg f) := let ⟨_, h1, h2⟩ := ha.ex; ⟨_, fun i => pe_un un_neg (h1 i), simNeg h2⟩
theorem qdg2 {k : Nat} (hR : ∀ i, Room k (X i).A) (ho : QE K X o f) (he : QE K X a g) (hf : QE K X b h) (m : ∀ i, M2 (X i) o "get" apos a b cpos := by exact fun _ => ⟨rfl, rfl, rfl, rfl⟩) : QE K X (.Call (.Attribute o "get" apos) [a, b] [] cpos) (eDG2 f g h) :=
  let ⟨_, a1, a2⟩ := ho.ex; let ⟨_, b1, b2⟩ := he.ex; let ⟨_, c1, c2⟩ := hf.ex; ⟨_, fun i => pe_dget2 (hu_of (hR i)) (a1 i) (b1 i) (c1 i) (m i), simDG2 a2 b2 c2⟩
theorem cKIn {w : World} {d : Addr} {tbl : List (Str × Int)} (D : ∀ i, KD3 K (X i).w d tbl) (hw : ∀ i, (X i).w = w := by exact fun _ => rfl) (hK : ∀ i, (X i).K = K := by exact fun _ => rfl) : QC K X .In (oKIn false d tbl) :=
  ⟨rKIn K w false d tbl, fun i => by
    have e := hK i; have e2 := hw i; have D := D i; subst e2; subst e; exact op_kin D, simKIn⟩
theorem cKNotIn {w : World} {d : Addr} {tbl : List (Str × Int)} (D : ∀ i, KD3 K (X i).w d tbl) (hw : ∀ i, (X i).w = w := by exact fun _ => rfl) (hK : ∀ i, (X i).K = K := by exact fun _ => rfl) : QC K X .NotIn (oKIn true d tbl) :=
  ⟨rKIn K w true d tbl, fun i => by
    have e := hK i; have e2 := hw i; have D := D i; subst e2; subst e; exact op_knin D, simKIn⟩
theorem qkget {w : World} {d : Addr} {tbl : List (Str × Int)} (D : ∀ i, KD3 K (X i).w d tbl) (ha : QE K X a f) (hb : QE K X b g) (hs : PlainIx b := by exact fun _ _ => rfl) (hw : ∀ i, (X i).w = w := by exact fun _ => rfl) (hK : ∀ i, (X i).K = K := by exact fun _ => rfl) : QE K X (.Subscript a b pos) (eOp (oKGet d tbl) f g) :=
  let ⟨t, h1, h2⟩ := ha.ex; let ⟨u, h3, h4⟩ := hb.ex
  ⟨tOp (rKGet K w d tbl) t u, fun i => by
    have e := hK i; have e2 := hw i; have D := D i; subst e2; subst e; exact pe_ix (ix_kget D) (h1 i) (h3 i) hs, simOp simKGet h2 h4⟩
end
end L3

set_option Elab.async false
set_option linter.all false
set_option maxRecDepth 100000
namespace L3
open PySem PySem.Spec L2
/-! ### a def of the top: its facts, and what a walk makes of them -/
/-- a def as the top has made it, without defaults -/
structure Df (K : PySem.W.Frag) (x qual : Str) (st : Stmt) (f : Addr) : Prop where
  ex : ∃ fd : FuncData, FunD K x qual (defArgs st) (defBody st) (defScope st) [] [] f fd
/-- the parameters take the values one by one -/
def BindN (x qual : Str) (st : Stmt) (ps : List Str) : Prop := ∀ (kV doc pm : Value) (an : Option Addr) (cdv ct : Value) (us : List Value), us.length = ps.length → bindArgs (PySem.W.fnOf x qual (defArgs st) (defBody st) (defScope st) .none kV doc pm an cdv ct) ⟨us, []⟩ = pure (ps.zip us)
section
variable {P : Program} {w : World} {K : PySem.W.Frag} {mg : Str → Option Value} {base : Heap} {x gx qual : Str} {st : Stmt} {f : Addr} {N ps : List Str} {k n : Nat} {ms : List Md} {sp : S3} {t3 : T3S}
theorem df_mk {oc kV doc pm cdv ct : Value} {od an : Option Addr} {sl : Array (Option Value)} (l : K.lookup f = some ⟨oc, od, .func (PySem.W.fnOf x qual (defArgs st) (defBody st) (defScope st) .none kV doc pm an cdv ct), sl⟩) (c : PySem.W.codeIn K cdv qual = true) (kp : PySem.W.keepIn K (.ref f) = true) : Df K x qual st f :=
  ⟨_, ⟨oc, od, .none, kV, doc, pm, an, cdv, ct, sl, rfl, l, c, .inl ⟨rfl, rfl⟩, .inl rfl⟩, kp⟩
theorem fk (F : Df K x qual st f) (hb : BindN x qual st ps) (S : FnScope N ps (defScope st)) (hl : ps.length = ms.length) (hN : N.length = ms.length + n) (hw : QB K (CxR k P w K mg base N qual (defScope st) f) (defBody st) t3)
    (hsp : ∀ ds QR QO, sp ds QR QO → ds.length = ms.length → t3 (endE ms ds QR QO) (startE n ms ds)) : ∃ fd, FnOk P w K mg base CX0 (k + 1) f fd ps (Lift K ms sp) ∧ Binds K fd ps [] := by
  obtain ⟨fd, F⟩ := F.ex
  exact ⟨fd, fn3 F S hl hN hw hsp, F.bindsN hb⟩
theorem ck (F : ∃ f, Df K x qual st f ∧ mg gx = some (.ref f)) (hb : BindN x qual st ps) (S : FnScope N ps (defScope st)) (hl : ps.length = ms.length) (hN : N.length = ms.length + n) (hw : ∀ f, QB K (CxR k P w K mg base N qual (defScope st) f) (defBody st) t3)
    (hsp : ∀ ds QR QO, sp ds QR QO → ds.length = ms.length → t3 (endE ms ds QR QO) (startE n ms ds)) : C3 P w K mg base (k + 1) gx ms sp := by
  obtain ⟨f, F, hm⟩ := F
  obtain ⟨fd, h1, h2⟩ := fk F hb S hl hN (hw f) hsp
  obtain ⟨_, F⟩ := F.ex
  exact ⟨f, fd, ps, h1, hm, F.kp, h2⟩
/-- a promise that is never asked -/
theorem ck0 (F : ∃ f, Df K x qual st f ∧ mg gx = some (.ref f)) (hb : BindN x qual st ps) (S : FnScope N ps (defScope st)) (h0 : ∀ ds QR QO, ¬ sp ds QR QO) : C3 P w K mg base (k + 1) gx ms sp := by
  obtain ⟨f, F, hm⟩ := F
  obtain ⟨fd, F⟩ := F.ex
  refine ⟨f, fd, ps, funD_ok F S (fun vs H Q E h => ?_) (fun cdv A outer s H vs Q E hr h => ?_), hm, F.kp, F.bindsN hb⟩
  all_goals
    obtain ⟨U, ds, QR, QO, A, h, _⟩ := h
    exact (h0 _ _ _ h).elim
variable {C : Addr} {m : Str}
theorem mk3 (F : ∃ f, Df K x qual st f ∧ Mk K C f ∧ mg gx = some (.ref C)) (hb : BindN x qual st ps) (S : FnScope N ps (defScope st)) (hl : ps.length = ms.length + 1) (hN : N.length = ms.length + 1 + n) (hw : ∀ f, QB K (CxR k P w K mg base N qual (defScope st) f) (defBody st) t3)
    (hsp : ∀ ds QR QO, sp ds QR QO → ds.length = ms.length + 1 → t3 (endE (.par :: ms) ds QR QO) (startE n (.par :: ms) ds)) : Mk3 P w K mg base (k + 1) gx C ms sp := by
  obtain ⟨f, F, M, hm⟩ := F
  obtain ⟨fd, h1, h2⟩ := fk (ms := .par :: ms) F hb S hl hN (hw f) hsp
  exact ⟨f, fd, ps, M, h1, hm, h2⟩
theorem me3 (c : Cls K C) (F : ∃ f, Df K x qual st f ∧ Meth K C m f) (hb : BindN x qual st ps) (S : FnScope N ps (defScope st)) (hl : ps.length = ms.length) (hN : N.length = ms.length + n) (hw : ∀ f, QB K (CxR k P w K mg base N qual (defScope st) f) (defBody st) t3)
    (hsp : ∀ ds QR QO, sp ds QR QO → ds.length = ms.length → t3 (endE ms ds QR QO) (startE n ms ds)) : Me3 P w K mg base (k + 1) C m ms sp := by
  obtain ⟨f, F, M⟩ := F
  obtain ⟨fd, h1, h2⟩ := fk F hb S hl hN (hw f) hsp
  exact ⟨f, fd, ps, c, M, h1, h2⟩
theorem pr3 {md : Md} (c : Cls K C) (F : ∃ p f, Df K x qual st f ∧ PropOf K C m p f) (hb : BindN x qual st ps) (S : FnScope N ps (defScope st)) (hl : ps.length = 1) (hN : N.length = 1 + n) (hw : ∀ f, QB K (CxR k P w K mg base N qual (defScope st) f) (defBody st) t3)
    (hsp : ∀ ds QR QO, sp ds QR QO → ds.length = 1 → t3 (endE [md] ds QR QO) (startE n [md] ds)) : Pr3 P w K mg base (k + 1) C m md sp := by
  obtain ⟨p, f, F, M⟩ := F
  obtain ⟨fd, h1, h2⟩ := fk (ms := [md]) F hb S hl hN (hw f) hsp
  exact ⟨p, f, fd, ps, c, M, h1, h2⟩
theorem op3 {op : CmpOp} (F : ∃ f, Df K x qual st f ∧ PySem.W.findIn K (.ref C) (cmpInfo op).2.1 = some (some (.ref f)) ∧ PySem.W.isFn K (.ref f) = true) (hb : BindN x qual st ps) (S : FnScope N ps (defScope st)) (hl : ps.length = ms.length) (hN : N.length = ms.length + n) (hw : ∀ f, QB K (CxR k P w K mg base N qual (defScope st) f) (defBody st) t3)
    (hsp : ∀ ds QR QO, sp ds QR QO → ds.length = ms.length → t3 (endE ms ds QR QO) (startE n ms ds)) : Op3 P w K mg base (k + 1) C op ms sp := by
  obtain ⟨f, F, M1, M2⟩ := F
  obtain ⟨fd, h1, h2⟩ := fk F hb S hl hN (hw f) hsp
  exact ⟨f, fd, ps, M1, M2, h1, h2⟩
theorem kit_self : PySem.W.kitOne K (.ref C) (.ref C) = some true := by
  unfold PySem.W.kitOne
  exact if_pos (beq_self_eq_true _)
/-- the law's end: the script as the run hands it in -/
theorem hsp3 {q : Nat} (h : ∀ ns : List Int, ns.length ≤ q → ∀ QO, (∀ d ds, ¬ QO d ds) → sp [.scr ns] (fun d _ => d = .bl true) QO) (H : Hp) (a : Addr) (ns : List Int) (hl : ns.length ≤ q) (hO : Only H) (hS : SqL K H a (ns.map V.int)) :
    Lift K [.shr] sp [.ref a] H (fun v _ => v = .bl true) fun _ _ _ => False := by
  refine ⟨fun _ => False, [.scr ns], fun d _ => d = .bl true, fun _ _ => False, ⟨rfl, rfl, ?_, ?_, fun a z => z.elim⟩, h ns hl _ (fun _ _ z => z), ?_, fun _ _ _ _ _ _ _ _ _ z => z.elim⟩
  · intro i m d v h1 h2 h3
    match i, h1, h2, h3 with
    | 0, h1, h2, h3 =>
      cases h1; cases h2; cases h3
      refine ⟨a, rfl, ?_⟩
      rcases hS with (z | z) | z
      · rcases hO a with y | ⟨o, xs, y⟩
        · rw [y] at z; cases z
        · rw [y] at z; cases z
      · obtain ⟨o, z⟩ := z
        exact .inr ⟨o, z, fun z => z⟩
      · exact .inl z
    | i + 1, h1, _, _ => cases h1
  · intro i j m m' d d' v v' x h1 h2 h3 h4 h5 h6 h7 h8
    match i, h1 with
    | 0, h1 => cases h1; exact absurd h7 (reg_noW rfl)
    | i + 1, h1 => cases h1
  · intro v H' U' d ds' _ r e
    subst e
    exact r
end
/-! ### the facts that the head answers -/
section
variable {K : PySem.W.Frag} {h : Heap} {mg : Str → Option Value} {x qual : Str} {st : Stmt} {f C p : Addr} {oc kV doc pm cdv ct : Value} {od an : Option Addr} {sl : Array (Option Value)} {m : Str} {w : World}
theorem dg_mk (X : K.In h) (G : h.Ns mainGlobals mg) (a : PySem.W.nsIn K mainGlobals x = some (some (.ref f))) (l : K.lookup f = some ⟨oc, od, .func (PySem.W.fnOf x qual (defArgs st) (defBody st) (defScope st) .none kV doc pm an cdv ct), sl⟩) (c : PySem.W.codeIn K cdv qual = true) (k : PySem.W.keepIn K (.ref f) = true) :
    ∃ f, Df K x qual st f ∧ mg x = some (.ref f) := ⟨f, df_mk l c k, PySem.W.mg_of X G a⟩
theorem dm_mk {gx : Str} (a : PySem.W.findIn K (.ref C) "__init__" = some (some (.ref f))) (l : K.lookup f = some ⟨oc, od, .func (PySem.W.fnOf x qual (defArgs st) (defBody st) (defScope st) .none kV doc pm an cdv ct), sl⟩) (c : PySem.W.codeIn K cdv qual = true) (k : PySem.W.keepIn K (.ref f) = true)
    (i : PySem.W.isFn K (.ref f) = true) (mk : PySem.W.makesIn K C = true) (kp : PySem.W.keepIn K (.ref C) = true) (g : mg gx = some (.ref C)) : ∃ f, Df K x qual st f ∧ Mk K C f ∧ mg gx = some (.ref C) := ⟨f, df_mk l c k, ⟨mk, a, i, kp⟩, g⟩
theorem de_mk (a : PySem.W.findIn K (.ref C) m = some (some (.ref f))) (l : K.lookup f = some ⟨oc, od, .func (PySem.W.fnOf x qual (defArgs st) (defBody st) (defScope st) .none kV doc pm an cdv ct), sl⟩) (c : PySem.W.codeIn K cdv qual = true) (k : PySem.W.keepIn K (.ref f) = true)
    (i : PySem.W.isFn K (.ref f) = true) : ∃ f, Df K x qual st f ∧ Meth K C m f := ⟨f, df_mk l c k, ⟨a, i, k⟩⟩
theorem do_mk (a : PySem.W.findIn K (.ref C) m = some (some (.ref f))) (l : K.lookup f = some ⟨oc, od, .func (PySem.W.fnOf x qual (defArgs st) (defBody st) (defScope st) .none kV doc pm an cdv ct), sl⟩) (c : PySem.W.codeIn K cdv qual = true) (k : PySem.W.keepIn K (.ref f) = true)
    (i : PySem.W.isFn K (.ref f) = true) : ∃ f, Df K x qual st f ∧ PySem.W.findIn K (.ref C) m = some (some (.ref f)) ∧ PySem.W.isFn K (.ref f) = true := ⟨f, df_mk l c k, a, i⟩
theorem dp_mk {rest : List Value} (a : PySem.W.findIn K (.ref C) m = some (some (.ref p))) (r : PySem.W.recIn K p "property" = some (.ref f :: rest)) (g : PySem.W.specialIn K (.ref p) "__get__" = some (some (.builtin "property.__get__"))) (t : PySem.W.takesIn K (.ref p) = some true)
    (l : K.lookup f = some ⟨oc, od, .func (PySem.W.fnOf x qual (defArgs st) (defBody st) (defScope st) .none kV doc pm an cdv ct), sl⟩) (c : PySem.W.codeIn K cdv qual = true) (k : PySem.W.keepIn K (.ref f) = true) : ∃ p f, Df K x qual st f ∧ PropOf K C m p f :=
  ⟨p, f, df_mk l c k, ⟨a, g, t, rest, r⟩⟩
theorem gl_mk {v : V} {u : Value} (X : K.In h) (G : h.Ns mainGlobals mg) (a : PySem.W.nsIn K mainGlobals x = some (some u)) (r : RelV v u) : ∃ u, mg x = some u ∧ RelV v u := ⟨u, PySem.W.mg_of X G a, r⟩
def TblOk (K : PySem.W.Frag) (d : Addr) : List (Str × Int) → Prop
  | [] => True
  | (z, i) :: r => (∃ u, PySem.W.nsIn K d z = some (some u) ∧ RelV (.int i) u) ∧ TblOk K d r
theorem tb_mk {d : Addr} {z : Str} {i : Int} {u : Value} {r : List (Str × Int)} (a : PySem.W.nsIn K d z = some (some u)) (e : RelV (.int i) u) (n : TblOk K d r) : TblOk K d ((z, i) :: r) := ⟨⟨u, a, e⟩, n⟩
theorem TblOk.get {d : Addr} : ∀ {tbl : List (Str × Int)}, TblOk K d tbl → ∀ z i, tbl.lookup z = some i → ∃ u, PySem.W.nsIn K d z = some (some u) ∧ RelV (.int i) u
  | [], _, z, i, e => by cases e
  | (y, j) :: r, T, z, i, e => by
    rw [List.lookup_cons] at e
    split at e
    · rename_i q
      cases e
      have : z = y := by simpa using q
      subst this
      exact T.1
    · exact TblOk.get T.2 z i e
theorem kd_mk {d : Addr} {es : Array DictEntry} {n : Nat} {tbl : List (Str × Int)} (l : K.lookup d = some ⟨.type "dict", none, .dict es n, #[]⟩) (lit : PySem.W.KeysLit w.params es.toList) (low : (d == sysModules) = false) (T : TblOk K d tbl) : KD3 K w d tbl := ⟨es, n, ⟨l, lit, low⟩, T.get⟩
end
end L3

set_option Elab.async false
set_option linter.all false
set_option maxRecDepth 100000
namespace L3
open PySem PySem.Spec L2
open PyProof.Rows (b2i envOfC)
section
variable {F : Fr} {U U2 : US} {ρ ρ' ρ2 : En} {σ σ2 : L2.St} {H H' H2 : Hp} {K : PySem.W.Frag}
/-! ### an owned slot is frozen: from here on it is shared -/
theorem Rel.freeze (R : Rel F U ρ σ H) {i : Nat} {d : D} (h : ρ[i]? = some (.own d)) : ∃ U', Rel F U' (ρ.set i (.shr d)) σ H := by
  have hi : i < σ.length := by rw [← R.len]; exact (List.getElem?_eq_some_iff.mp h).1
  have hσ : σ[i]? = some σ[i] := List.getElem?_eq_getElem hi
  obtain ⟨a, ea, u, t⟩ := R.slot i _ _ h hσ
  have e3 : σ[i]? = some (some (.ref a)) := hσ.trans (by rw [ea])
  have oa : Own ρ σ a := Own.root h rfl e3
  have P : Pres H U H (fun x => U x ∧ x ≠ a) := fun x o h n => ⟨h, fun z => n z.1⟩
  have own' : ∀ x, Own (ρ.set i (.shr d)) σ x → Own ρ σ x ∧ x ≠ a := fun x ⟨j, s, o, q1, q2, q3⟩ => by
    rcases set_get q1 with ⟨e, rfl, _⟩ | ⟨ne, q1⟩
    · exact absurd q3 (reg_noW rfl)
    · exact ⟨⟨j, s, o, q1, q2, q3⟩, fun e => ne (R.inj i j _ _ _ _ a h q1 e3 q2 ⟨rfl, .inl rfl⟩ (e ▸ q3))⟩
  refine ⟨fun x => U x ∧ x ≠ a, by rw [List.length_set]; exact R.len, fun j s o q1 q2 => ?_, fun j e o q1 q2 => ?_, fun j k s t o o' x q1 q2 q3 q4 q5 q6 => ?_, fun x z => R.tr x z.1, R.keep, R.ktr, fun x o h n z => R.shar x o h n z.1, fun x z n => ⟨R.up x z n, fun e => n (R.own0 (e ▸ oa) z)⟩, fun x z => R.new x (own' x z).1, fun j s l q1 q2 => ?_, R.wu, R.b0, R.u0⟩
  · rcases set_get q1 with ⟨e, rfl, _⟩ | ⟨ne, q1⟩
    · subst e
      rw [e3] at q2; cases q2
      exact ⟨_, rfl, rp_of_top (t.pres P fun _ h => h) fun z => z.2 rfl⟩
    · refine (R.slot j s o q1 q2).pres P fun x hx ux => ⟨⟨ux, fun e => ?_⟩, fun _ h => h⟩
      subst e
      exact ne (R.inj i j _ _ _ _ x h q1 e3 q2 ⟨rfl, .inl rfl⟩ hx)
  · rcases set_get q1 with ⟨e1, e2, _⟩ | ⟨ne, q1⟩
    · cases e2
    · rcases R.bor j e o q1 q2 with ⟨v, e1, q⟩ | ⟨b, e1, q, n⟩
      · exact .inl ⟨v, e1, Rp.pres P e v q⟩
      · exact .inr ⟨b, e1, q.pres P fun _ _ _ h => h, fun x hx z => n x hx (own' x z).1⟩
  · rcases set_get q1 with ⟨e, rfl, _⟩ | ⟨ne, q1'⟩
    · exact absurd q5 (reg_noW rfl)
    · rcases set_get q2 with ⟨e, rfl, _⟩ | ⟨ne2, q2'⟩
      · exact absurd q6 (reg_noW rfl)
      · exact R.inj j k s t o o' x q1' q2' q3 q4 q5 q6
  · rcases set_get q1 with ⟨e, rfl, _⟩ | ⟨ne, q1⟩
    · cases q2
    · exact R.lock j s l q1 q2
def sFrz (i : Nat) (f : T3S) : T3S := fun E ρ => match ρ[i]? with
  | some (.own d) => f E (ρ.set i (.shr d))
  | _ => False
theorem simFrz {t : TS} {f : T3S} (i : Nat) (h : SimS K t f) : SimS K t (sFrz i f) := by
  intro F U ρ σ H D3 D2 e R q k
  have q : (match ρ[i]? with | some (.own d) => f D3 (ρ.set i (.shr d)) | _ => False) := q
  cases hs : ρ[i]? with
  | none => rw [hs] at q; exact q.elim
  | some s =>
    rw [hs] at q
    cases s with
    | own d =>
      obtain ⟨U', R'⟩ := R.freeze hs
      exact h F U' _ σ H D3 D2 e R' q k
    | _ => exact q.elim

/-! ### an instance with boxes: its fields -/
theorem ov_of_rp {d : D} {v : V} (h : Rp K H U d v) : Ov K H U d v := by
  cases d <;> first | exact h | exact (noBx h).elim
theorem OvF.put {f : Str} {d : D} {v : V} : ∀ {ds : List (Str × D)} {vs : List (Str × V)}, OvF K H U ds vs → Ov K H U d v → OvF K H U (putF' f d ds) (putF f v vs)
  | [], _, h, q => by simp only [OvF] at h; subst h; exact ⟨v, [], rfl, q, rfl⟩
  | (k, d') :: ds, _, h, q => by
    simp only [OvF] at h
    obtain ⟨v', r, rfl, h1, h2⟩ := h
    by_cases e : k = f
    · simp only [putF', putF, if_pos e]; exact ⟨v, r, rfl, q, h2⟩
    · simp only [putF', putF, if_neg e]; exact ⟨v', _, rfl, h1, OvF.put h2 q⟩
theorem OvF.len : ∀ {ds : List (Str × D)} {vs : List (Str × V)}, OvF K H U ds vs → vs.length = ds.length
  | [], _, h => by simp only [OvF] at h; rw [h]; rfl
  | (k, d) :: ds, _, h => by
    simp only [OvF] at h
    obtain ⟨v, r, rfl, _, h2⟩ := h
    rw [List.length_cons, List.length_cons, OvF.len h2]
theorem bxsF_cons_sub {k : Str} {d : D} {fs : List (Str × D)} {x : Addr} (h : x ∈ bxsF fs) : x ∈ bxsF ((k, d) :: fs) := by
  cases d <;> first | exact h | exact List.mem_cons_of_mem _ h
theorem bxsF_put_sub {f : Str} {d : D} {x : Addr} : ∀ {fs : List (Str × D)}, x ∈ bxsF (putF' f d fs) → x ∈ bxsF fs ∨ x ∈ bxsF [(f, d)]
  | [], h => .inr h
  | (k, d') :: fs, h => by
    by_cases e : k = f
    · rw [putF', if_pos e] at h
      have h : x ∈ bxsF [(k, d)] ∨ x ∈ bxsF fs := by
        cases d <;> first | exact .inr h | (rcases List.mem_cons.mp h with h | h; exact .inl (by rw [h]; exact List.mem_cons_self ..); exact .inr h)
      rcases h with h | h
      · exact .inr (by rw [← e]; exact h)
      · exact .inl (bxsF_cons_sub h)
    · rw [putF', if_neg e] at h
      have h : x ∈ bxsF [(k, d')] ∨ x ∈ bxsF (putF' f d fs) := by
        cases d' <;> first | exact .inr h | (rcases List.mem_cons.mp h with h | h; exact .inl (by rw [h]; exact List.mem_cons_self ..); exact .inr h)
      rcases h with h | h
      · refine .inl ?_
        cases d' <;> first | (cases h; done) | (rcases List.mem_cons.mp h with h | h; (rw [h]; exact List.mem_cons_self ..); cases h)
      · exact (bxsF_put_sub h).imp bxsF_cons_sub id
theorem bxsF_put_nodup {f : Str} {d : D} (hd : ∀ x, x ∈ bxsF [(f, d)] → True) : ∀ {fs : List (Str × D)}, (bxsF fs).Nodup → (∀ x, x ∈ bxsF [(f, d)] → x ∉ bxsF fs) → (bxsF [(f, d)]).Nodup → (bxsF (putF' f d fs)).Nodup
  | [], _, _, h => h
  | (k, d') :: fs, h, ha, h1 => by
    have tl : (bxsF fs).Nodup := by cases d' <;> first | exact h | exact (List.nodup_cons.mp h).2
    by_cases e : k = f
    · rw [putF', if_pos e]
      cases d <;> first | exact tl | skip
      rename_i b d2
      refine List.nodup_cons.mpr ⟨fun z => ha b (List.mem_cons_self ..) (bxsF_cons_sub z), tl⟩
    · rw [putF', if_neg e]
      have ih := bxsF_put_nodup hd tl (fun x hx z => ha x hx (bxsF_cons_sub z)) h1
      cases d' <;> first | exact ih | skip
      rename_i b d2
      refine List.nodup_cons.mpr ⟨fun z => ?_, ih⟩
      rcases bxsF_put_sub z with z | z
      · exact (List.nodup_cons.mp h).1 z
      · exact ha b z (List.mem_cons_self ..)
/-- the root of an instance with boxes is written; it may have a new box -/
theorem Rel.writeN (R : Rel F U ρ σ H) {i : Nat} {s : Sl} {a : Addr} {d' : D} {o' : HO} (h1 : ρ[i]? = some s) (h2 : s.isW = true) (h3 : σ[i]? = some (some (.ref a)))
    (hb : ∀ y, y ∈ (s.upd d').bxs → y ∈ s.bxs ∨ ((F.W0 y ∨ F.H0 y = none) ∧ ¬ Own ρ σ y ∧ ∀ (j : Nat) (e : D) (b : Addr), ρ[j]? = some (.brw e) → σ[j]? = some (some (.ref b)) → e.reg b y → Rp F.K H U e (.ref b)))
    (new : SlotOk F.K (upd H a o') U (s.upd d') (some (.ref a))) : Rel F U (ρ.set i (s.upd d')) σ (upd H a o') := by
  have hoa : Own ρ σ a := Own.root h1 h2 h3
  have hu : U a := R.ownU hoa
  have p : Pres H U (upd H a o') U := fun y o h n => ⟨by rw [upd_ne (fun e => n (by rw [e]; exact hu))]; exact h, n⟩
  have own' : ∀ y, Own (ρ.set i (s.upd d')) σ y → Own ρ σ y ∨ ((F.W0 y ∨ F.H0 y = none) ∧ ¬ Own ρ σ y ∧ ∀ (j : Nat) (e : D) (b : Addr), ρ[j]? = some (.brw e) → σ[j]? = some (some (.ref b)) → e.reg b y → Rp F.K H U e (.ref b)) := fun y ⟨j, t, o, q1, q2, q3⟩ => by
    rcases set_get q1 with ⟨e, rfl, _⟩ | ⟨_, q1⟩
    · subst e
      rcases q3.2 with z | z
      · exact .inl ⟨i, s, o, h1, q2, h2, .inl z⟩
      · rcases hb y z with z | z
        · exact .inl ⟨i, s, o, h1, q2, h2, .inr z⟩
        · exact .inr z
    · exact .inl ⟨j, t, o, q1, q2, q3⟩
  refine ⟨by rw [List.length_set]; exact R.len, fun j t o q1 q2 => ?_, fun j d o q1 q2 => ?_, fun j k t u o o2 b q1 q2 q3 q4 q5 q6 => ?_, fun y u => ?_, fun y o q n => ?_, fun y o q => ?_, R.shar, R.up, fun y q => ?_, fun j t l q1 q2 => ?_, R.wu, R.b0, R.u0⟩
  · rcases set_get q1 with ⟨e, rfl, _⟩ | ⟨ne, q1⟩
    · subst e
      rw [h3] at q2; cases q2
      exact new
    · refine (R.slot j t o q1 q2).pres p fun y hy u => ⟨u, fun w hw => ?_⟩
      have nb : y ≠ a := fun e => ne (R.inj i j s t _ _ a h1 q1 h3 q2 ⟨h2, .inl rfl⟩ (e ▸ hy))
      rw [upd_ne nb]; exact hw
  · rcases set_get q1 with ⟨e, e2, _⟩ | ⟨ne, q1⟩
    · have : (s.upd d').isW = true := isW_upd.trans h2
      rw [← e2] at this; cases this
    · rcases R.bor j d o q1 q2 with ⟨v, e1, q⟩ | ⟨b, e1, q, n⟩
      · exact .inl ⟨v, e1, Rp.pres p d v q⟩
      · subst e1
        by_cases ex : ∃ y, d.reg b y ∧ Own (ρ.set i (s.upd d')) σ y
        · obtain ⟨y, hy, z⟩ := ex
          rcases own' y z with z | ⟨_, _, z⟩
          · exact absurd z (n y hy)
          · exact .inl ⟨_, rfl, Rp.pres p d _ (z j d b q1 q2 hy)⟩
        · refine .inr ⟨b, rfl, q.pres p (fun y hy w hw => ?_), fun y hy z => ex ⟨y, hy, z⟩⟩
          have nb : y ≠ a := fun e => n y hy (by rw [e]; exact hoa)
          rw [upd_ne nb]; exact hw
  · have f : ∀ {j : Nat} {t : Sl} {o : Option V}, (ρ.set i (s.upd d'))[j]? = some t → σ[j]? = some o → t.reg o b → (∃ t' : Sl, ρ[j]? = some t' ∧ t'.reg o b) ∨ (i = j ∧ ¬ Own ρ σ b) := fun {j t o} q1 q2 q3 => by
      rcases set_get q1 with ⟨e, rfl, _⟩ | ⟨ne, q1⟩
      · subst e
        rcases q3.2 with z | z
        · exact .inl ⟨s, h1, h2, .inl z⟩
        · rcases hb b z with z | z
          · exact .inl ⟨s, h1, h2, .inr z⟩
          · exact .inr ⟨rfl, z.2.1⟩
      · exact .inl ⟨t, q1, q3⟩
    rcases f q1 q3 q5 with ⟨t', z1, z2⟩ | ⟨ei, no⟩
    · rcases f q2 q4 q6 with ⟨u', z3, z4⟩ | ⟨ei, no⟩
      · exact R.inj j k t' u' o o2 b z1 z3 q3 q4 z2 z4
      · exact absurd ⟨j, t', o, z1, q3, z2⟩ no
    · rcases f q2 q4 q6 with ⟨u', z3, z4⟩ | ⟨ei2, no⟩
      · exact absurd ⟨k, u', o2, z3, q4, z4⟩ no
      · exact ei.symm.trans ei2
  · by_cases e : y = a
    · subst e; exact ⟨_, upd_same⟩
    · obtain ⟨o, h⟩ := R.tr y u
      exact ⟨o, by rw [upd_ne e]; exact h⟩
  · have nx : y ≠ a := fun e => by
      subst e
      rcases R.new y hoa with z | z
      · exact n z
      · rw [z] at q; cases q
    rw [upd_ne nx]; exact R.keep y o q n
  · by_cases e : y = a
    · subst e; exact ⟨_, upd_same⟩
    · obtain ⟨o', h⟩ := R.ktr y o q
      exact ⟨o', by rw [upd_ne e]; exact h⟩
  · rcases own' y q with z | z
    · exact R.new y z
    · exact z.1
  · rcases set_get q1 with ⟨e, rfl, _⟩ | ⟨ne, q1⟩
    · subst e; rw [lk_upd h2] at q2; exact R.lock i s l h1 q2
    · exact R.lock j t l q1 q2
/-- the slot of an instance with boxes, with another field -/
def putO (s : Sl) (C : Addr) (f : Str) (x : D) (k : Sl → Prop) : Prop := match s with
  | .owb (.obj C' fs) => C' = C ∧ fs.length < 1000 ∧ k (.owb (.obj C' (putF' f x fs)))
  | .pab (.obj C' fs) => C' = C ∧ fs.length < 1000 ∧ k (.pab (.obj C' (putF' f x fs)))
  | _ => False
theorem putO_out {s : Sl} {C : Addr} {f : Str} {x : D} {k : Sl → Prop} (h : putO s C f x k) : ∃ fs, s.isW = true ∧ s.dat = some (.obj C fs) ∧ fs.length < 1000 ∧ k (s.upd (.obj C (putF' f x fs))) ∧ s.bxs = bxsF fs ∧ (∀ d', (s.upd d').bxs = d'.bxs) ∧
    (∀ {K : PySem.W.Frag} {H : Hp} {U : US} {o : Option V}, SlotOk K H U s o → ∃ a, o = some (.ref a) ∧ U a ∧ TopB K H U (.obj C fs) a) ∧ (∀ {K : PySem.W.Frag} {H : Hp} {U : US} {d' : D} {a : Addr}, U a → TopB K H U d' a → SlotOk K H U (s.upd d') (some (.ref a))) := by
  cases s <;> first | exact h.elim | skip
  all_goals
    rename_i d
    cases d <;> first | exact h.elim | skip
    obtain ⟨rfl, h1, h2⟩ := h
    exact ⟨_, rfl, rfl, h1, h2, rfl, fun _ => rfl, fun h => h, fun u t => ⟨_, rfl, u, t⟩⟩
/-- a field of such an instance is set -/
theorem Rel.setF (R : Rel F U ρ σ H) {i : Nat} {s : Sl} {C : Addr} {f : Str} {x : D} {v : V} {k : Sl → Prop} (h1 : ρ[i]? = some s) {vo : V} (h3 : σ[i]? = some (some vo)) (hp : putO s C f x k)
    (ov : Ov F.K H U x v) (nb : ∀ y, y ∈ bxsF [(f, x)] → (F.W0 y ∨ F.H0 y = none) ∧ ¬ Own ρ σ y ∧ ∀ (j : Nat) (e : D) (b : Addr), ρ[j]? = some (.brw e) → σ[j]? = some (some (.ref b)) → e.reg b y → Rp F.K H U e (.ref b)) :
    ∃ a dx gs s', vo = .ref a ∧ H a = some (.ins C dx gs) ∧ gs.length < 1000 ∧ k s' ∧ Rel F U (ρ.set i s') σ (upd H a (.ins C dx (putF f v gs))) := by
  obtain ⟨fs, w, hd, hl, hk, eb, eb', get, put⟩ := putO_out hp
  obtain ⟨a, ea, ua, dx, gs, g1, g2, g3⟩ := get (R.slot i s _ h1 h3)
  cases ea
  have oa : Own ρ σ a := Own.root h1 w h3
  have P : Pres H U (upd H a (.ins C dx (putF f v gs))) U := fun y o h n => ⟨by rw [upd_ne (fun e => n (by rw [e]; exact ua))]; exact h, n⟩
  have na : ∀ y, y ∈ bxsF (putF' f x fs) → y ≠ a := fun y hy e => by
    subst e
    rcases bxsF_put_sub hy with z | z
    · exact (List.nodup_cons.mp g3).1 z
    · exact (nb y z).2.1 oa
  have new : OvF F.K (upd H a (.ins C dx (putF f v gs))) U (putF' f x fs) (putF f v gs) := (g2.put ov).pres P fun y hy u => ⟨u, fun o h => by rw [upd_ne (na y hy)]; exact h⟩
  have nd : (bxsF (putF' f x fs)).Nodup := by
    refine bxsF_put_nodup (fun _ _ => trivial) (List.nodup_cons.mp g3).2 (fun y hy z => (nb y hy).2.1 ⟨i, s, _, h1, h3, w, .inr (by rw [eb]; exact z)⟩) ?_
    cases x <;> first | exact List.nodup_nil | exact List.nodup_cons.mpr ⟨fun z => (by cases z), List.nodup_nil⟩
  refine ⟨a, dx, gs, _, rfl, g1, by rw [g2.len]; exact hl, hk, R.writeN h1 w h3 (fun y hy => ?_) (put ua ⟨dx, _, upd_same, new, List.nodup_cons.mpr ⟨fun z => na a z rfl, nd⟩⟩)⟩
  rw [eb'] at hy
  rcases bxsF_put_sub (f := f) (d := x) (fs := fs) hy with z | z
  · exact .inl (by rw [eb]; exact z)
  · exact .inr (nb y z)
/-- o.f = a shared value -/
def sFldX (C : Addr) (f : Str) (fv fo : T3E) : T3S := fun E ρ => fv ρ fun r ρ1 => fo ρ1 fun o ρ2 => match r with
  | .val d => match o with
    | .sl i => wo ρ2[i]? fun s => putO s C f d fun s' => E.nx (ρ2.set i s')
    | _ => False
  | _ => False
theorem simFldX {C : Addr} {f : Str} {tv to : TE} {fv fo : T3E} (c : Cls K C) (n : NoAttr K C f) (hv : SimE K tv fv) (ho : SimE K to fo) : SimS K (sFld K to tv f) (sFldX C f fv fo) := by
  intro F U ρ σ H D3 D2 e R q k
  refine hv F U ρ σ H _ _ e R q fun r v ρ1 H1 R1 s1 q1 h1 => ?_
  refine ho F U ρ1 σ H1 _ _ e R1 h1 fun o vo ρ2 H2 R2 s2 q2 h2 => ?_
  cases r <;> first | exact h2.elim | skip
  cases o <;> first | exact h2.elim | skip
  rename_i d i
  obtain ⟨s, es, h2⟩ := wo_out h2
  have rd : Rp F.K H2 U d v := Rp.pres (s2.pres R1) _ _ q1
  have hb : bxsF [(f, d)] = [] := by cases d <;> first | rfl | exact (noBx rd).elim
  obtain ⟨a, dx, gs, s', rfl, z1, z2, z3, R'⟩ := R2.setF (v := v) es (show σ[i]? = _ from q2) h2 (ov_of_rp rd) fun y hy => by rw [hb] at hy; cases hy
  exact ⟨a, C, dx, gs, rfl, z1, e ▸ c, e ▸ n, z2, k.nx _ _ _ _ R' z3⟩
/-- o.f = a new object, which becomes a box -/
def sFldN (C : Addr) (f : Str) (fv : T3O') (fo : T3E) : T3S := fun E ρ => fv ρ fun d ρ1 => fo ρ1 fun o ρ2 => match o with
  | .sl i => wo ρ2[i]? fun s => ∀ b, putO s C f (.bx b d) fun s' => E.nx (ρ2.set i s')
  | _ => False
theorem simFldN {C : Addr} {f : Str} {tv to : TE} {fv : T3O'} {fo : T3E} (c : Cls K C) (n : NoAttr K C f) (hv : SimEO K tv fv) (ho : SimE K to fo) : SimS K (sFld K to tv f) (sFldN C f fv fo) := by
  intro F U ρ σ H D3 D2 e R q k
  refine hv F U ρ σ H _ _ e R q fun d b ρ1 H1 R1 s1 hb t1 h1 => ?_
  refine ho F _ ρ1 σ H1 _ _ e R1 h1 fun o vo ρ2 H2 R2 s2 q2 h2 => ?_
  cases o <;> first | exact h2.elim | skip
  rename_i i
  obtain ⟨s, es, h2⟩ := wo_out h2
  have no1 : ¬ Own ρ1 σ b := fun z => by
    obtain ⟨o, ho⟩ := R.tr b (R.ownU (s1.own b z))
    rw [hb] at ho; cases ho
  have t2 : TopW F.K H2 _ d b := t1.pres (s2.pres R1) fun o h => s2.keep b o h no1
  obtain ⟨a, dx, gs, s', rfl, z1, z2, z3, R'⟩ := R2.setF (v := .ref b) es (show σ[i]? = _ from q2) (h2 b) ⟨rfl, .inr rfl, t2⟩ fun y hy => by
    have : y = b := by
      rcases List.mem_cons.mp (show y ∈ [b] from hy) with h | h
      · exact h
      · cases h
    subst this
    exact ⟨.inr (up_new R hb), fun z => no1 (s2.own y z), fun j e b q1 q2 hr => R2.brwNew R hb q1 q2 hr⟩
  exact ⟨a, C, dx, gs, rfl, z1, e ▸ c, e ▸ n, z2, k.nx _ _ _ _ R' z3⟩
/-- o.f = x, x an owned slot, which is moved there -/
def sFldM (C : Addr) (f : Str) (j : Nat) (fo : T3E) : T3S := fun E ρ => match ρ[j]? with
  | some (.own _) => fo ρ fun o ρ2 => match ρ2[j]? with
    | some (.own d) => match o with
      | .sl i => wo (ρ2.set j .emp)[i]? fun s => ∀ b, putO s C f (.bx b d) fun s' => E.nx ((ρ2.set j .emp).set i s')
      | _ => False
    | _ => False
  | _ => False
theorem simFldM {C : Addr} {f : Str} {j : Nat} {to : TE} {fo : T3E} (c : Cls K C) (n : NoAttr K C f) (ho : SimE K to fo) : SimS K (sFld K to (tVar j) f) (sFldM C f j fo) := by
  intro F U ρ σ H D3 D2 e R q k
  have q : (match ρ[j]? with | some (.own _) => fo ρ _ | _ => False) := q
  cases hj : ρ[j]? with
  | none => rw [hj] at q; exact q.elim
  | some sj =>
    rw [hj] at q
    cases sj <;> first | exact q.elim | skip
    rename_i d0
    have hi : j < σ.length := by rw [← R.len]; exact (List.getElem?_eq_some_iff.mp hj).1
    have hσ : σ[j]? = some σ[j] := List.getElem?_eq_getElem hi
    obtain ⟨b, eb, ub, _⟩ := R.slot j _ _ hj hσ
    have e3 : σ[j]? = some (some (.ref b)) := hσ.trans (by rw [eb])
    refine ⟨.ref b, e3, ho F U ρ σ H _ _ e R q fun o vo ρ2 H2 R2 s2 q2 h2 => ?_⟩
    have h2 : (match ρ2[j]? with | some (.own d) => _ | _ => False) := h2
    cases hj2 : ρ2[j]? with
    | none => rw [hj2] at h2; exact h2.elim
    | some sj2 =>
      rw [hj2] at h2
      cases sj2 <;> first | exact h2.elim | skip
      rename_i d
      obtain ⟨i, rfl⟩ : ∃ i, o = .sl i := by cases o <;> first | exact h2.elim | exact ⟨_, rfl⟩
      obtain ⟨s, es, h2⟩ := wo_out h2
      obtain ⟨b', eb', ub', tb⟩ := R2.slot j _ _ hj2 e3
      cases eb'
      have ob : Own ρ2 σ b := Own.root hj2 rfl e3
      have R3 : Rel F U (ρ2.set j .emp) σ H2 := by
        have := R2.setEmp (i := j) (o := some (.ref b)) hj2 rfl
        rwa [show σ.set j (some (.ref b)) = σ from by
          apply List.ext_getElem?
          intro m
          by_cases em : j = m
          · subst em; rw [List.getElem?_set_self hi, e3]
          · rw [List.getElem?_set_ne em]] at this
      have own3 : ∀ x, Own (ρ2.set j .emp) σ x → Own ρ2 σ x ∧ x ≠ b := fun x ⟨m, t, o, z1, z2, z3⟩ => by
        rcases set_get z1 with ⟨em, rfl, _⟩ | ⟨nm, z1⟩
        · exact absurd z3 (reg_noW rfl)
        · exact ⟨⟨m, t, o, z1, z2, z3⟩, fun ex => nm (R2.inj j m _ _ _ _ b hj2 z1 e3 z2 ⟨rfl, .inl rfl⟩ (ex ▸ z3))⟩
      obtain ⟨a, dx, gs, s', rfl, z1, z2, z3, R'⟩ := R3.setF (v := .ref b) es (show σ[i]? = _ from q2) (h2 b) ⟨rfl, ub', tb⟩ fun y hy => by
        have : y = b := by
          rcases List.mem_cons.mp (show y ∈ [b] from hy) with h | h
          · exact h
          · cases h
        subst this
        refine ⟨R2.new y ob, fun z => (own3 y z).2 rfl, fun m e' b' g1 g2 hr => ?_⟩
        rcases set_get g1 with ⟨em, e1, _⟩ | ⟨nm, g1⟩
        · cases e1
        · rcases R2.bor m e' _ g1 g2 with ⟨v, ev, r⟩ | ⟨b2, ev, _, no⟩
          · cases ev; exact r
          · cases ev; exact absurd ob (no y hr)
      exact ⟨a, C, dx, gs, rfl, z1, e ▸ c, e ▸ n, z2, k.nx _ _ _ _ R' z3⟩

/-! ### a new instance with boxes -/
/-- a fresh instance with boxes -/
def SimEB (K : PySem.W.Frag) (t2 : TE) (t3 : T3O') : Prop :=
  ∀ (F : Fr) (U : US) (ρ : En) (σ : St) (H : Hp) (Q3 : D → En → Prop) (Q2 : VK), F.K = K → Rel F U ρ σ H → t3 ρ Q3 →
    (∀ d a U' ρ' H', Rel F U' ρ' σ H' → U' a → TopB F.K H' U' d a → (∀ x, d.reg a x → F.H0 x = none ∧ ¬ Own ρ' σ x ∧ ∀ (j : Nat) (e : D) (b : Addr), ρ'[j]? = some (.brw e) → σ[j]? = some (some (.ref b)) → e.reg b x → Rp F.K H' U' e (.ref b)) → Q3 d ρ' → Q2 (.ref a) H') → t2 σ H Q2
theorem simOMakeB {C : Addr} {E : XK} {ms : List Md} {sp : S3} {u : TA} {g : T3A} (np : noPab ms = true) (h : SimA K u g) : SimEB K (tMake C (Lift K (.pab :: ms) sp) [] E u) (oMake C ms sp g) := by
  intro F U ρ σ H Q3 Q2 e R q k
  refine h F U ρ σ H _ _ e R q fun rs vs ρ1 H1 R1 s1 q1 ⟨ap, h1⟩ => ?_
  obtain ⟨ds, ed, h1⟩ := wo_out h1
  subst e
  obtain ⟨AO, own⟩ := args_ok R1 q1 ed ap
  intro x dx hx hd hne
  rw [List.append_nil]
  refine ⟨fun b => U b ∨ b = x, .obj C [] :: ds, _, _, make_args (rs := rs) R1 rfl AO own hx hd, h1, fun v H' U' d ds' A rp q => ?_, fun _ _ _ _ _ _ _ _ _ q => q.elim⟩
  obtain ⟨hnon, q⟩ := q
  refine ⟨isNon_rp hnon rp, ?_⟩
  cases ds' with
  | nil => exact q.elim
  | cons o ds'' =>
    have q : Q3 o (updE ms rs ds'' ρ1) := q
    obtain ⟨x', ex', ux, tx⟩ : SlotOk F.K H' U' (.pab o) (some (.ref x)) := A.par 0 .pab (.ref x) o rfl rfl rfl rfl
    cases ex'
    have A' := A.tail hx hd R1.tr fun a w => R1.ownU (own a w)
    obtain ⟨R2, _, k2⟩ := R1.after q1 ed ap A'
    have nw : ∀ y, o.reg x y → H1 y = none := fun y hy => by
      rcases hy with e | hy
      · rw [e]; exact hx
      · rcases A.reg y (wm_cons.mpr (.inl ⟨rfl, .inr hy⟩)) with z | z
        · rcases wm_cons.mp z with z | z
          · rw [reg_obj0 z]; exact hx
          · -- the boxes of the new instance are not what the arguments own
            exfalso
            obtain ⟨i, m, d, v, g1, g2, g3, g4⟩ := z
            have hi : i < ds''.length := by have := (List.getElem?_eq_some_iff.mp g3).1; rw [A'.len]; exact this
            have z' : Wm ms ds'' vs y := (A'.wm AO (sameB_no np) y).mp ⟨i, m, d, v, g1, g2, g3, g4⟩
            obtain ⟨i, m, d, v, g1, g2, g3, g4⟩ := z'
            have := A.inj 0 (i + 1) .pab m o d (.ref x) v y rfl (by simpa using g1) rfl (by simpa using g2) rfl (by simpa using g3) ⟨rfl, .inr hy⟩ g4
            omega
        · cases e : H1 y with
          | none => rfl
          | some u => rw [(old_ins hx hd e).2] at z; cases z
    refine k o x U' _ _ R2 ux tx (fun y hy => ⟨up_new R1 (nw y hy), fun z => ?_, fun j e b g1 g2 hr => R2.brwNew R1 (nw y hy) g1 g2 hr⟩) q
    -- nobody owns it: it would be new for the arguments
    have hl : ds''.length = rs.length := A'.len.trans q1.len.symm
    obtain ⟨j, s', o', g1, g2, g3⟩ := z
    obtain ⟨l1, l2, gg⟩ := argsD_out ed
    obtain ⟨a1, a2⟩ := apart_out ap
    by_cases hj : j ∈ parN ms rs
    · obtain ⟨i, m, p1, w, p2⟩ := parN_ex hj
      have hv : i < vs.length := by have := (List.getElem?_eq_some_iff.mp p2).1; rw [← q1.len]; exact this
      obtain ⟨r, er, rq⟩ := q1.at (List.getElem?_eq_getElem hv)
      rw [p2] at er; cases er
      have hd1 : i < ds.length := by have := q1.len; omega
      have hd2 : i < ds''.length := by rw [A'.len]; exact hv
      obtain ⟨j', s, ej, z1, z2, z3, kn⟩ := par_slot R1 w (gg i m _ _ p1 (List.getElem?_eq_getElem hd1) p2) rq
      cases ej
      rw [updE_yes a1 p1 w p2 (List.getElem?_eq_getElem hd2), z1] at g1
      have g1 : some (if s.isW = true then s.upd ds''[i] else s) = some s' := g1
      rw [if_pos kn.w] at g1
      cases g1
      rw [z3] at g2; cases g2
      have w' : Wm ms ds'' vs y := ⟨i, m, _, _, p1, List.getElem?_eq_getElem hd2, List.getElem?_eq_getElem hv, kn.reg.mpr g3⟩
      obtain ⟨u, hu⟩ := R1.tr y (R1.ownU (own y ((A'.wm AO (sameB_no np) y).mpr w')))
      rw [nw y hy] at hu; cases hu
    · rw [updE_no hj] at g1
      obtain ⟨u, hu⟩ := R1.tr y (R1.ownU ⟨j, s', o', g1, g2, g3⟩)
      rw [nw y hy] at hu; cases hu
/-- x = C(..), x owned, with boxes -/
def sAsgB (f : T3O') (i : Nat) : T3S := fun D ρ => f ρ fun d ρ1 => unl ρ1 i = true ∧ D.nx (ρ1.set i (.owb d))
theorem reg_owb {d : D} {a x : Addr} (h : (Sl.owb d).reg (some (.ref a)) x) : d.reg a x := by
  rcases h.2 with h | h
  · cases h; exact .inl rfl
  · exact .inr h
theorem simAsgB {t : TE} {f : T3O'} (h : SimEB K t f) (i : Nat) : SimS K (tAsg t (gName i)) (sAsgB f i) := fun F U ρ σ H D3 D2 e R q k =>
  h F U ρ σ H _ _ e R q fun d a U' ρ1 H1 R1 ua t1 hr h1 => by
    obtain ⟨s, z1, z2⟩ := unl_out h1.1
    exact k.nx _ _ _ H1 (R1.setNew (s' := .owb d) z1 z2 rfl ⟨a, rfl, ua, t1⟩ (fun x hx => .inr (hr x (reg_owb hx)).1) (fun x hx => (hr x (reg_owb hx)).2.1) fun j e' q1 b q2 ⟨x, hx, hy⟩ => (hr x (reg_owb hy)).2.2 j e' b q1 q2 hx) h1.2

/-- y = x, x owned: it is moved -/
def sMov (j i : Nat) : T3S := fun E ρ => match ρ[j]? with
  | some (.own d) => unl (ρ.set j .emp) i = true ∧ E.nx ((ρ.set j .emp).set i (.own d))
  | _ => False
theorem simMov (j i : Nat) : SimS K (tAsg (tVar j) (gName i)) (sMov j i) := by
  intro F U ρ σ H D3 D2 e R q k
  have q : (match ρ[j]? with | some (.own d) => unl (ρ.set j .emp) i = true ∧ D3.nx ((ρ.set j .emp).set i (.own d)) | _ => False) := q
  cases hj : ρ[j]? with
  | none => rw [hj] at q; exact q.elim
  | some sj =>
    rw [hj] at q
    cases sj <;> first | exact q.elim | skip
    rename_i d
    have hi : j < σ.length := by rw [← R.len]; exact (List.getElem?_eq_some_iff.mp hj).1
    have hσ : σ[j]? = some σ[j] := List.getElem?_eq_getElem hi
    obtain ⟨b, eb, ub, tb⟩ := R.slot j _ _ hj hσ
    have e3 : σ[j]? = some (some (.ref b)) := hσ.trans (by rw [eb])
    have ob : Own ρ σ b := Own.root hj rfl e3
    have R3 : Rel F U (ρ.set j .emp) σ H := by
      have := R.setEmp (i := j) (o := some (.ref b)) hj rfl
      rwa [show σ.set j (some (.ref b)) = σ from by
        apply List.ext_getElem?
        intro m
        by_cases em : j = m
        · subst em; rw [List.getElem?_set_self hi, e3]
        · rw [List.getElem?_set_ne em]] at this
    have own3 : ∀ x, Own (ρ.set j .emp) σ x → Own ρ σ x ∧ x ≠ b := fun x ⟨m, t, o, z1, z2, z3⟩ => by
      rcases set_get z1 with ⟨em, rfl, _⟩ | ⟨nm, z1⟩
      · exact absurd z3 (reg_noW rfl)
      · exact ⟨⟨m, t, o, z1, z2, z3⟩, fun ex => nm (R.inj j m _ _ _ _ b hj z1 e3 z2 ⟨rfl, .inl rfl⟩ (ex ▸ z3))⟩
    obtain ⟨s, z1, z2⟩ := unl_out q.1
    refine ⟨.ref b, e3, k.nx _ _ _ H (R3.setNew (s' := .own d) z1 z2 rfl ⟨b, rfl, ub, tb⟩ (fun x hx => by rw [reg_own hx]; exact R.new b ob) (fun x hx z => by rw [reg_own hx] at z; exact (own3 b z).2 rfl) fun m e' g1 b' g2 ⟨x, hx, hy⟩ => ?_) q.2⟩
    have ex := reg_own hy
    subst ex
    rcases set_get g1 with ⟨em, e1, _⟩ | ⟨nm, g1⟩
    · cases e1
    · rcases R.bor m e' _ g1 g2 with ⟨v, ev, r⟩ | ⟨b2, ev, _, no⟩
      · cases ev; exact r
      · cases ev; exact absurd ob (no x hx)

/-! ### calls that may make boxes, as statements -/
theorem callG {ms : List Md} {sp : S3} {rs : List Rs} {vs : List V} {ds : List D} {ρ1 : En} {H1 : Hp} {Q3 : En → Prop} {Q2 : VK} (R1 : Rel F U ρ1 σ H1) (q1 : RVs F U σ H1 rs vs) (ap : apart ms rs = true) (ed : argsD ms rs ρ1 = some ds)
    (h1 : sp ds (fun _ ds' => Q3 (updE ms rs ds' ρ1)) (fun _ ds' => Q3 (updE ms rs ds' ρ1))) (k : ∀ v U' ρ' H', Rel F U' ρ' σ H' → Q3 ρ' → Q2 v H') (E : XK) : Lift F.K ms sp vs H1 Q2 E := by
  obtain ⟨AO, own⟩ := args_ok R1 q1 ed ap
  exact ⟨U, ds, _, _, AO, h1, fun v H' U' d ds' A rp q => k _ _ _ _ (R1.after q1 ed ap A).1 q, fun a H' U' d ds' A t u nw q => k _ _ _ _ (R1.after q1 ed ap A).1 q⟩
/-- o.m(..), a statement -/
def sMeth (C : Addr) (m : Str) (ms : List Md) (sp : S3) (fo : T3E) (g : T3A) : T3S := fun E ρ => fo ρ fun r ρ1 => wd r ρ1 fun d => match d with
  | .obj C' fs => (C' = C ∧ fs.lookup m = none) ∧ g ρ1 fun rs ρ2 => apart ms (r :: rs) = true ∧ wo (argsD ms (r :: rs) ρ2) fun ds => sp ds (fun _ ds' => E.nx (updE ms (r :: rs) ds' ρ2)) (fun _ ds' => E.nx (updE ms (r :: rs) ds' ρ2))
  | _ => False
theorem simSMeth {C : Addr} {m : Str} {E : XK} {ms : List Md} {sp : S3} {t : TE} {u : TA} {fo : T3E} {g : T3A} (ho : SimE K t fo) (h : SimA K u g) : SimS K (tDrop (tMeth C m (Lift K ms sp) [] E t u)) (sMeth C m ms sp fo g) := by
  intro F U ρ σ H D3 D2 e R q k
  refine ho F U ρ σ H _ _ e R q fun r v ρ0 H0 R0 s0 q0 h0 => ?_
  obtain ⟨d, e1, h0⟩ := wd_out h0
  cases d <;> first | exact h0.elim | skip
  rename_i C' fs
  obtain ⟨⟨ec, hm⟩, h2⟩ := h0
  obtain ⟨a, dx, gs, rfl, z1, z2⟩ := q0.obj R0 e1
  refine ⟨a, dx, gs, rfl, ec ▸ z1, z2.no hm, ?_⟩
  refine h F U ρ0 σ H0 _ _ e R0 h2 fun rs vs ρ1 H1 R1 s1 q1 ⟨ap, h1⟩ => ?_
  obtain ⟨ds, ed, h1⟩ := wo_out h1
  subst e
  have q1 : RVs F U σ H1 (r :: rs) (.ref a :: vs) := .cons (q0.pres (s1.pres R0)) q1
  rw [List.append_nil]
  exact callG R1 q1 ap ed h1 (fun v U' ρ' H' R' q => k.nx _ _ _ _ R' q) E
/-- o.m(..) that changes boxes and makes none -/
def eMethB (C : Addr) (m : Str) (ms : List Md) (sp : S3) (fo : T3E) (g : T3A) : T3E := fun ρ Q => fo ρ fun r ρ1 => wd r ρ1 fun d => match d with
  | .obj C' fs => (C' = C ∧ fs.lookup m = none) ∧ g ρ1 fun rs ρ2 => apart ms (r :: rs) = true ∧ wo (argsD ms (r :: rs) ρ2) fun ds => sp ds (fun d ds' => sameB ms ds ds' ∧ Q (.val d) (updE ms (r :: rs) ds' ρ2)) (fun d ds' => sameB ms ds ds' ∧ Q (.val d) (updE ms (r :: rs) ds' ρ2))
  | _ => False
theorem simMethB {C : Addr} {m : Str} {E : XK} {ms : List Md} {sp : S3} {t : TE} {u : TA} {fo : T3E} {g : T3A} (ho : SimE K t fo) (h : SimA K u g) : SimE K (tMeth C m (Lift K ms sp) [] E t u) (eMethB C m ms sp fo g) := by
  intro F U ρ σ H Q3 Q2 e R q k
  refine ho F U ρ σ H _ _ e R q fun r v ρ0 H0 R0 s0 q0 h0 => ?_
  obtain ⟨d, e1, h0⟩ := wd_out h0
  cases d <;> first | exact h0.elim | skip
  rename_i C' fs
  obtain ⟨⟨ec, hm⟩, h2⟩ := h0
  obtain ⟨a, dx, gs, rfl, z1, z2⟩ := q0.obj R0 e1
  refine ⟨a, dx, gs, rfl, ec ▸ z1, z2.no hm, ?_⟩
  refine h F U ρ0 σ H0 _ _ e R0 h2 fun rs vs ρ1 H1 R1 s1 q1 ⟨ap, h1⟩ => ?_
  obtain ⟨ds, ed, h1⟩ := wo_out h1
  subst e
  have q1 : RVs F U σ H1 (r :: rs) (.ref a :: vs) := .cons (q0.pres (s1.pres R0)) q1
  have s1 := s0.trans s1
  rw [List.append_nil]
  exact callE R s1 R1 q1 ap ed h1 k E
end
end L3

set_option Elab.async false
set_option linter.all false
set_option maxRecDepth 100000
namespace L3
open PySem PySem.Spec L2 PyProof.Rows
/-! ### dicts whose keys are nested tuples: over the heap -/
mutual
/-- the value is this key -/
def NkV (K : PySem.W.Frag) (H : Hp) : NestedKey → V → Prop
  | .none, v => v = .non
  | .num i, v => v = .int i ∨ ∃ b : Bool, v = .bl b ∧ i = if b = true then 1 else 0
  | .text x, v => v = .str x
  | .tup ks, v => ∃ a vs, v = .ref a ∧ SqT K H a vs ∧ NkVs K H ks vs
def NkVs (K : PySem.W.Frag) (H : Hp) : List NestedKey → List V → Prop
  | [], vs => vs = []
  | k :: ks, vs => ∃ v r, vs = v :: r ∧ NkV K H k v ∧ NkVs K H ks r
end
mutual
theorem Rp.nk {K : PySem.W.Frag} {H : Hp} {U : US} : ∀ (d : D) (v : V) (k : NestedKey), d.nk = some k → Rp K H U d v → NkV K H k v
  | .non, v, k, e, h => by simp only [D.nk] at e; cases e; simpa only [Rp, NkV] using h
  | .bl b, v, k, e, h => by simp only [D.nk] at e; cases e; simp only [Rp] at h; exact .inr ⟨b, h, rfl⟩
  | .int i, v, k, e, h => by simp only [D.nk] at e; cases e; simp only [Rp] at h; exact .inl h
  | .str s, v, k, e, h => by simp only [D.nk] at e; cases e; simpa only [Rp, NkV] using h
  | .tup ds, v, k, e, h => by
    simp only [D.nk] at e
    obtain ⟨ks, e1, rfl⟩ := Option.map_eq_some_iff.mp e
    simp only [Rp] at h
    obtain ⟨a, vs, rfl, h1, h2⟩ := h
    exact ⟨a, vs, rfl, h1.sq, RpAll.nk ds vs ks e1 h2⟩
  | .lst _, _, _, e, _ => by simp [D.nk] at e
  | .dic _, _, _, e, _ => by simp [D.nk] at e
  | .dit _, _, _, e, _ => by simp [D.nk] at e
  | .obj _ _, _, _, e, _ => by simp [D.nk] at e
  | .ty _, _, _, e, _ => by simp [D.nk] at e
  | .cls _, _, _, e, _ => by simp [D.nk] at e
  | .scr _, _, _, e, _ => by simp [D.nk] at e
  | .bx _ _, _, _, e, _ => by simp [D.nk] at e
  | .din _ _, _, _, e, _ => by simp [D.nk] at e
theorem RpAll.nk {K : PySem.W.Frag} {H : Hp} {U : US} : ∀ (ds : List D) (vs : List V) (ks : List NestedKey), D.nks ds = some ks → RpAll K H U ds vs → NkVs K H ks vs
  | [], _, ks, e, h => by simp only [D.nks] at e; cases e; simpa only [RpAll, NkVs] using h
  | d :: ds, _, ks, e, h => by
    simp only [D.nks] at e
    cases e1 : d.nk with
    | none => simp [e1] at e
    | some k =>
      cases e2 : D.nks ds with
      | none => simp [e1, e2] at e
      | some ks' =>
        simp only [e1, e2] at e
        cases e
        simp only [RpAll] at h
        obtain ⟨v, r, rfl, h1, h2⟩ := h
        exact ⟨v, r, rfl, Rp.nk d v k e1 h1, RpAll.nk ds r ks' e2 h2⟩
end
section
variable {X : Cx} {pins : List (Addr × Obj)} {σ : L2.St} {H : Hp} {s : Shared} {a b : Addr} {v : V} {u r : Value} {A : Around} {E : Value → Shared → Prop} {xs : List (NestedKey × Addr × Value)} {k : NestedKey}
mutual
theorem NkV.is (I : Inv X pins σ H s) : ∀ (k : NestedKey) (v : V) (u : Value), NkV X.K H k v → RelV v u → NestedIs s.heap k u
  | .none, v, u, h, r => by simp only [NkV] at h; subst h; cases r; exact .none
  | .num i, v, u, h, r => by
    simp only [NkV] at h
    rcases h with rfl | ⟨b, rfl, e⟩
    · obtain ⟨t, rfl⟩ := r; exact .int _ _
    · cases r; exact .bool e
  | .text x, v, u, h, r => by simp only [NkV] at h; subst h; obtain ⟨t, rfl⟩ := r; exact .text _ _
  | .tup ks, v, u, h, r => by
    simp only [NkV] at h
    obtain ⟨a, vs, rfl, h1, h2⟩ := h
    cases r
    obtain ⟨its, rv, ⟨o, e1, e2, n, e3⟩, hz⟩ := I.tuple h1
    exact .tup e1 e2 e3 (by simpa using NkVs.is I ks vs its h2 rv)
theorem NkVs.is (I : Inv X pins σ H s) : ∀ (ks : List NestedKey) (vs : List V) (us : List Value), NkVs X.K H ks vs → Vals vs us → NestedAll s.heap ks us
  | [], vs, us, h, r => by simp only [NkVs] at h; subst h; cases r; exact .nil
  | k :: ks, vs, us, h, r => by
    simp only [NkVs] at h
    obtain ⟨v, w, rfl, h1, h2⟩ := h
    cases r with
    | cons r1 r2 => exact .cons (NkV.is I k v _ h1 r1) (NkVs.is I ks w _ h2 r2)
end
/-- the entries' keys are keys -/
def NkKeys (K : PySem.W.Frag) (H : Hp) (xs : List (NestedKey × Addr × Value)) : Prop := ∀ x ∈ xs, NkV K H x.1 (.ref x.2.1) ∧ x.1.depth ≤ 8
theorem RpN.keys {K : PySem.W.Frag} {U : US} : ∀ {ds : List (D × D)} {xs : List (NestedKey × Addr × Value)}, RpN K H U ds xs → NkKeys K H xs
  | [], _, h => by simp only [RpN] at h; subst h; intro x hx; cases hx
  | (dk, dv) :: ds, _, h => by
    simp only [RpN] at h
    obtain ⟨k, b, u, v, r, rfl, h1, h2, h3, h4, h5, h6⟩ := h
    intro x hx
    rcases List.mem_cons.mp hx with rfl | hx
    · exact ⟨Rp.nk dk _ k h1 h3, h2⟩
    · exact RpN.keys h6 x hx
theorem nested_room (hu : A.units + 9 < cLine) : (nestedKind X.prog X.w).room A.in1 := by
  show A.in1.units + 8 < cLine
  have : A.in1.units ≤ A.units + 1 := by first | exact Nat.le_refl _ | (simp [Around.in1, Around.units]; done) | (show _ ≤ _; simp only [Around.in1]; omega)
  omega
theorem dn_of (I : Inv X pins σ H s) (h : Rd H a (.ext (DNat X.w a xs))) (hk : NkKeys X.K H xs) : xs.length ≤ sizeLine ∧ (a == sysModules) = false ∧ s.heap.DictOfH (nestedKind X.prog X.w) a xs := by
  obtain ⟨⟨o, es, ep, h1, h2, h3, h4, h5, h6, h7⟩, _⟩ := h.ok I.hok
  exact ⟨h6, h7, o, es, ep, h1, h2, h3, h4, fun x hx => ⟨(hk x hx).1.is I _ _ _ rfl, (hk x hx).2⟩, h5⟩
theorem dn_ok (I : Inv X pins σ H s) (h : H a = some (.ext (DNat X.w a xs))) : DNat X.w a xs s.heap := (I.hok a _ h).1
theorem dn_objOk {P : Program} {w : World} {H' : Hp} {h' : Heap} (h : DNat w a xs h') : ObjOk P w H' h' a (.ext (DNat w a xs)) :=
  ⟨h, let ⟨o, _, _, e, _⟩ := h; ⟨o, e⟩, fun h1 h2 ⟨o, es, ep, e, r⟩ k => ⟨o, es, ep, k o e, r⟩⟩
theorem dn_typeIs (I : Inv X pins σ H s) (h : Rd H a (.ext (DNat X.w a xs))) : s.TypeIs (.ref a) "dict" ∧ (∀ b, Value.ref a = .ref b → ∃ ob, s.heap.get? b = some ob ∧ ob.dict = none) ∧ (a == sysModules) = false := by
  obtain ⟨⟨o, es, ep, h1, h2, h3, h4, h5, h6, h7⟩, _⟩ := h.ok I.hok
  exact ⟨⟨o, h1, h2.1⟩, fun b e => by cases e; exact ⟨o, h1, h2.2.1⟩, h7⟩
theorem dn_getItem {Q : Value → Shared → Prop} {p : Addr × Value} (hu : A.units + 9 < cLine) (I : Inv X pins σ H s) (h : Rd H a (.ext (DNat X.w a xs))) (hk : NkKeys X.K H xs) (hb : NkV X.K H k (.ref b)) (hd : k.depth ≤ 8) (hp : atKey xs k = some p)
    (q : ∀ s', Inv X pins σ H s' → Q p.2 s') : wpAny (model X.prog X.w) A (getItem (.ref a) (.ref b)) Q E s := by
  obtain ⟨_, _, dd⟩ := dn_of I h hk
  exact wpAny_getItem_heap (nested_room (X := X) hu) ⟨hb.is I _ _ _ rfl, hd⟩ dd hp (q _ (I.tok _))
theorem dn_in {Q : Value → Shared → Prop} (hu : A.units + 9 < cLine) (I : Inv X pins σ H s) (h : Rd H a (.ext (DNat X.w a xs))) (hk : NkKeys X.K H xs) (hb : NkV X.K H k (.ref b)) (hd : k.depth ≤ 8)
    (q : ∀ s', Inv X pins σ H s' → Q (.bool (atKey xs k).isSome) s') : wpAny (model X.prog X.w) A (compareOp .In (.ref b) (.ref a)) Q E s := by
  obtain ⟨_, h7, dd⟩ := dn_of I h hk
  exact wpAny_in_heap (nested_room (X := X) hu) ⟨hb.is I _ _ _ rfl, hd⟩ h7 dd (q _ (I.tok _))
theorem dn_notIn {Q : Value → Shared → Prop} (hu : A.units + 9 < cLine) (I : Inv X pins σ H s) (h : Rd H a (.ext (DNat X.w a xs))) (hk : NkKeys X.K H xs) (hb : NkV X.K H k (.ref b)) (hd : k.depth ≤ 8)
    (q : ∀ s', Inv X pins σ H s' → Q (.bool (!(atKey xs k).isSome)) s') : wpAny (model X.prog X.w) A (compareOp .NotIn (.ref b) (.ref a)) Q E s := by
  obtain ⟨_, h7, dd⟩ := dn_of I h hk
  exact wpAny_notIn_heap (nested_room (X := X) hu) ⟨hb.is I _ _ _ rfl, hd⟩ h7 dd (q _ (I.tok _))
theorem storedH_len {v : Value} : (storedH xs k b v).length ≤ xs.length + 1 := by
  unfold storedH
  split
  · rw [List.length_map]; omega
  · rw [List.length_append]; exact Nat.le_refl _
theorem dn_setItem {Q : Unit → Shared → Prop} (hu : A.units + 9 < cLine) (I : Inv X pins σ H s) (h : H a = some (.ext (DNat X.w a xs))) (hk : NkKeys X.K H xs) (hb : NkV X.K H k (.ref b)) (hd : k.depth ≤ 8) (hl : xs.length < sizeLine)
    (q : ∀ s', Inv X pins σ (upd H a (.ext (DNat X.w a (storedH xs k b r)))) s' → Q () s') : wpAny (model X.prog X.w) A (setItem (.ref a) (.ref b) r) Q E s := by
  obtain ⟨hz, h7, dd⟩ := dn_of I (.inl h) hk
  refine wpAny_setItem_heap (hsz := hz) (nested_room (X := X) hu) ⟨hb.is I _ _ _ rfl, hd⟩ dd fun h' dd' hs => q _ ?_
  obtain ⟨o, es, ep, e1, e2, e3, e4, e5, e6⟩ := dd'
  have e4 : es.toList = (storedH xs k b r).map (fun x => (⟨x.1.hash X.w, .ref x.2.1, x.2.2⟩ : DictEntry)) := e4
  exact d_write I (by rw [h]; exact True.intro) hs ⟨o, e1⟩ (dn_objOk ⟨o, es, ep, e1, e2, e3, e4, e6, Nat.le_trans storedH_len hl, h7⟩)
theorem dn_get2 {Q : Value → Shared → Prop} (hu : A.units + 9 < cLine) (I : Inv X pins σ H s) (h : Rd H a (.ext (DNat X.w a xs))) (hk : NkKeys X.K H xs) (hb : NkV X.K H k (.ref b)) (hd : k.depth ≤ 8)
    (q : ∀ s', Inv X pins σ H s' → Q (((atKey xs k).map (·.2)).getD r) s') : wpAny (model X.prog X.w) A (call (.builtin "dict.get") [.ref a, .ref b, r]) Q E s := by
  obtain ⟨_, h7, dd⟩ := dn_of I h hk
  exact call_meetsIn PySem.F.slot_dict_get dd.typeIs PySem.F.entry_dict_get (PySem.F.args_dict_get_3 _ _ _) (meetsH_dict_get_default (nestedKind X.prog X.w) a b h7 r) ⟨nested_room (X := X) hu, k, xs, ⟨hb.is I _ _ _ rfl, hd⟩, dd, q _ (I.tok _)⟩
theorem dn_empty {P : Program} {w : World} {H : Hp} (h : Heap) (hb : sysModules < h.objs.size) : ObjOk P w H (h.push { cls := .type "dict", data := .dict #[] }) h.objs.size (.ext (DNat w h.objs.size [])) :=
  dn_objOk ⟨_, #[], 0, Heap.get?_push_size _ rfl, ⟨rfl, rfl, rfl⟩, rfl, rfl, List.nodup_nil, Nat.zero_le _, beq_eq_false_iff_ne.mpr (Ne.symm (Nat.ne_of_lt hb))⟩
end

/-! ### readings and rules -/
def tDNewN (w : World) : TE := fun _ H Q => ∀ p, H p = none → Q (.ref p) (upd H p (.ext (DNat w p [])))
/-- a dict and a key -/
def DNk (K : PySem.W.Frag) (w : World) (H : Hp) (a b : Addr) (xs : List (NestedKey × Addr × Value)) (k : NestedKey) : Prop := Rd H a (.ext (DNat w a xs)) ∧ NkKeys K H xs ∧ NkV K H k (.ref b) ∧ k.depth ≤ 8
def tNGet (K : PySem.W.Frag) (w : World) (td ty : TE) : TE := fun σ H Q => td σ H fun x H1 => ty σ H1 fun y H2 => ∃ a b xs k p v, x = .ref a ∧ y = .ref b ∧ DNk K w H2 a b xs k ∧ atKey xs k = some p ∧ RelV v p.2 ∧ Q v H2
def tNIn (K : PySem.W.Frag) (w : World) (neg : Bool) (ty td : TE) : TE := fun σ H Q => ty σ H fun y H1 => td σ H1 fun x H2 => ∃ a b xs k, x = .ref a ∧ y = .ref b ∧ DNk K w H2 a b xs k ∧ Q (.bl (if neg then !(atKey xs k).isSome else (atKey xs k).isSome)) H2
def sNPut (K : PySem.W.Frag) (w : World) (td ty tv : TE) : TS := fun D σ H => tv σ H fun v H1 => td σ H1 fun x H2 => ty σ H2 fun y H3 => ∃ a b xs k, x = .ref a ∧ y = .ref b ∧ H3 a = some (.ext (DNat w a xs)) ∧ DNk K w H3 a b xs k ∧ xs.length < sizeLine ∧ ∀ u, RelV v u → D.nx σ (upd H3 a (.ext (DNat w a (storedH xs k b u))))
def tNGet2 (K : PySem.W.Frag) (w : World) (td ty tx : TE) : TE := fun σ H Q => td σ H fun x H1 => ∃ a, x = .ref a ∧ (∃ xs, Rd H1 a (.ext (DNat w a xs))) ∧ ty σ H1 fun y H2 => tx σ H2 fun z H3 => ∃ b xs k, y = .ref b ∧ DNk K w H3 a b xs k ∧
  (atKey xs k = none → Q z H3) ∧ ∀ p, atKey xs k = some p → ∃ v, RelV v p.2 ∧ Q v H3
section
variable {X : Cx} {o i e f value : Expr} {pos pos' apos cpos : Pos} {td ty tv tx : TE}
theorem pe_dnewN : PE X (.Dict [] [] pos) (tDNewN X.w) := ⟨fun pins s σ H Q I h =>
  wpAny_Dict_empty ⟨.ref s.heap.objs.size, _, I.laid (a := s.heap.objs.size) (o := .ext (DNat X.w s.heap.objs.size [])) (t' := s.toks) (fun _ _ q => Heap.get?_push_of_some _ q) (Nat.le_refl _) (dn_empty s.heap I.big), rfl, h _ (I.hok.fresh (Nat.le_refl _))⟩⟩
theorem pe_nget (hu : X.A.units + 9 < cLine) (ho : PE X o td) (hi : PE X i ty) (hs : NoSl i) : PE X (.Subscript o i pos) (tNGet X.K X.w td ty) := by
  refine ⟨fun pins s σ H Q I h => ?_⟩
  refine subD_of PySem.F.slot_dict_getitem.lookup hs (thn (ho.run pins s σ H _ I h) fun u s1 ⟨x, H1, I1, rx, q1⟩ => thn (hi.run pins s1 σ H1 _ I1 q1) fun iv s2 ⟨y, H2, I2, ry, a, b, xs, k, p, v, ex, ey, ⟨d1, d2, d3, d4⟩, hp, rv, q2⟩ => ?_)
  subst ex ey
  obtain rfl : u = Value.ref a := rx
  obtain rfl : iv = Value.ref b := ry
  exact ⟨(dn_typeIs I2 d1).1, dn_getItem hu I2 d1 d2 d3 d4 hp fun s3 I3 => ⟨v, H2, I3, rv, q2⟩⟩
theorem pc_nin (hu : X.A.units + 9 < cLine) (hi : PE X i ty) (ho : PE X o td) : PC X .In i o (tNIn X.K X.w false ty td) := by
  refine ⟨fun pins s σ H Q I h => ?_⟩
  refine thn (hi.run pins s σ H _ I h) fun iv s1 ⟨y, H1, I1, ry, q1⟩ => thn (ho.run pins s1 σ H1 _ I1 q1) fun u s2 ⟨x, H2, I2, rx, a, b, xs, k, ex, ey, ⟨d1, d2, d3, d4⟩, q2⟩ => ?_
  subst ex ey
  obtain rfl : u = Value.ref a := rx
  obtain rfl : iv = Value.ref b := ry
  exact dn_in hu I2 d1 d2 d3 d4 fun s3 I3 => ⟨.bl (atKey xs k).isSome, H2, I3, rfl, q2⟩
theorem pc_nnotin (hu : X.A.units + 9 < cLine) (hi : PE X i ty) (ho : PE X o td) : PC X .NotIn i o (tNIn X.K X.w true ty td) := by
  refine ⟨fun pins s σ H Q I h => ?_⟩
  refine thn (hi.run pins s σ H _ I h) fun iv s1 ⟨y, H1, I1, ry, q1⟩ => thn (ho.run pins s1 σ H1 _ I1 q1) fun u s2 ⟨x, H2, I2, rx, a, b, xs, k, ex, ey, ⟨d1, d2, d3, d4⟩, q2⟩ => ?_
  subst ex ey
  obtain rfl : u = Value.ref a := rx
  obtain rfl : iv = Value.ref b := ry
  exact dn_notIn hu I2 d1 d2 d3 d4 fun s3 I3 => ⟨.bl (!(atKey xs k).isSome), H2, I3, rfl, q2⟩
theorem ps_nput (hu : X.A.units + 9 < cLine) (ho : PE X o td) (hi : PE X i ty) (hv : PE X value tv) (hs : swapsWith value (some (.Subscript o i pos')) pos.line X.env = pure false) :
    PS X (.Assign [.Subscript o i pos'] value pos) (sNPut X.K X.w td ty tv) := by
  refine ⟨fun pins s σ H D I h => ?_⟩
  refine wpAny_Assign_Subscript (thn (hv.run pins s σ H _ I h) fun r s1 ⟨v, H1, I1, rv, q1⟩ => thn (ho.run pins s1 σ H1 _ I1 q1) fun u s2 ⟨x, H2, I2, rx, q2⟩ => thn (hi.run pins s2 σ H2 _ I2 q2) fun iv s3 ⟨y, H3, I3, ry, a, b, xs, k, ex, ey, eh, ⟨d1, d2, d3, d4⟩, hl, q3⟩ => ?_) hs
  subst ex ey
  obtain rfl : u = Value.ref a := rx
  obtain rfl : iv = Value.ref b := ry
  exact dn_setItem hu I3 eh d2 d3 d4 hl fun s4 I4 => ⟨σ, _, I4, q3 r rv⟩
theorem pe_nget2 (hu : X.A.units + 9 < cLine) (ho : PE X o td) (he : PE X e ty) (hf : PE X f tx) (m : M2 X o "get" apos e f cpos) : PE X (.Call (.Attribute o "get" apos) [e, f] [] cpos) (tNGet2 X.K X.w td ty tx) := by
  refine ⟨fun pins s σ H Q I h => ?_⟩
  refine wpAny_Call_method m.base m.few m.line PySem.F.plainAttrs_dict PySem.F.slot_dict_get PySem.F.type_dict_get (thn (ho.run pins s σ H _ I h) fun u s1 ⟨x, H1, I1, rx, a, ex, ⟨xs0, d⟩, q1⟩ => ?_)
  subst ex
  obtain rfl : u = Value.ref a := rx
  obtain ⟨t1, t2, _⟩ := dn_typeIs I1 d
  refine ⟨t1, t2, ?_⟩
  rw [m.trees]
  refine Calls.callWith_builtin rfl (Calls.evalArgs_plain (Calls.spliced_cons (thn (he.run pins s1 σ H1 _ I1 q1) fun iv s2 ⟨y, H2, I2, ry, q2⟩ =>
    Calls.spliced_cons (thn (hf.run pins s2 σ H2 _ I2 q2) fun fv s3 ⟨z, H3, I3, rz, b, xs, k, ey, ⟨d1, d2, d3, d4⟩, q3, q4⟩ => Calls.spliced_nil ?_))))
  subst ey
  obtain rfl : iv = Value.ref b := ry
  refine dn_get2 hu I3 d1 d2 d3 d4 fun s4 I4 => ?_
  cases hp : atKey xs k with
  | none => exact ⟨z, H3, I4, rz, q3 hp⟩
  | some p => obtain ⟨v, rv, q⟩ := q4 p hp; exact ⟨v, H3, I4, rv, q⟩
end

/-! ### as data -/
def getN (kvs : List (D × D)) (k : NestedKey) : Option D := (kvs.find? fun p => decide (p.1.nk = some k)).map (·.2)
def putN (kvs : List (D × D)) (dk : D) (k : NestedKey) (d : D) : List (D × D) :=
  if (getN kvs k).isSome = true then kvs.map (fun p => if p.1.nk = some k then (p.1, d) else p) else kvs ++ [(dk, d)]
section
variable {F : Fr} {U U2 : US} {ρ ρ' ρ2 : En} {σ σ2 : L2.St} {H H' H2 : Hp} {K : PySem.W.Frag}
theorem RpN.len : ∀ {ds : List (D × D)} {xs : List (NestedKey × Addr × Value)}, RpN K H U ds xs → xs.length = ds.length
  | [], _, h => by simp only [RpN] at h; subst h; rfl
  | (dk, dv) :: ds, _, h => by
    simp only [RpN] at h
    obtain ⟨k, b, u, v, r, rfl, _, _, _, _, _, h6⟩ := h
    rw [List.length_cons, List.length_cons, RpN.len h6]
theorem RpN.get {k : NestedKey} : ∀ {ds : List (D × D)} {xs : List (NestedKey × Addr × Value)}, RpN K H U ds xs → (getN ds k = none ∧ atKey xs k = none) ∨ ∃ d p v, getN ds k = some d ∧ atKey xs k = some p ∧ RelV v p.2 ∧ Rp K H U d v
  | [], _, h => by simp only [RpN] at h; subst h; exact .inl ⟨rfl, rfl⟩
  | (dk, dv) :: ds, _, h => by
    simp only [RpN] at h
    obtain ⟨k', b, u, v, r, rfl, h1, h2, h3, h4, h5, h6⟩ := h
    by_cases e : k' = k
    · subst e
      exact .inr ⟨dv, (b, u), v, by simp [getN, h1], by simp [atKey], h5, h4⟩
    · have e1 : getN ((dk, dv) :: ds) k = getN ds k := by
        unfold getN
        rw [List.find?_cons_of_neg (by rw [h1]; simpa using e)]
      have e2 : atKey ((k', b, u) :: r) k = atKey r k := by
        unfold atKey
        rw [List.find?_cons_of_neg (by simpa using e)]
      rw [e1, e2]
      exact RpN.get h6
theorem RpN.map {k : NestedKey} {d : D} {v : V} {u : Value} (rd : Rp K H U d v) (ru : RelV v u) : ∀ {ds : List (D × D)} {xs : List (NestedKey × Addr × Value)}, RpN K H U ds xs → RpN K H U (ds.map fun p => if p.1.nk = some k then (p.1, d) else p) (xs.map (putAt k u))
  | [], _, h => by simp only [RpN] at h; subst h; simp [RpN]
  | (dk, dv) :: ds, _, h => by
    simp only [RpN] at h
    obtain ⟨k', b, u', v', r, rfl, h1, h2, h3, h4, h5, h6⟩ := h
    rw [List.map_cons, List.map_cons]
    by_cases e : k' = k
    · have e1 : (if (dk, dv).1.nk = some k then ((dk, dv).1, d) else (dk, dv)) = (dk, d) := by rw [if_pos (by rw [← e]; exact h1)]
      have e2 : putAt k u (k', b, u') = (k', b, u) := by unfold putAt; rw [if_pos e]
      rw [e1, e2]
      simp only [RpN]
      exact ⟨k', b, u, v, _, rfl, h1, h2, h3, rd, ru, RpN.map rd ru h6⟩
    · have e1 : (if (dk, dv).1.nk = some k then ((dk, dv).1, d) else (dk, dv)) = (dk, dv) := by
        rw [if_neg]
        intro z
        have z : dk.nk = some k := z
        rw [h1] at z; cases z; exact e rfl
      have e2 : putAt k u (k', b, u') = (k', b, u') := by unfold putAt; rw [if_neg e]
      rw [e1, e2]
      simp only [RpN]
      exact ⟨k', b, u', v', _, rfl, h1, h2, h3, h4, h5, RpN.map rd ru h6⟩
theorem RpN.snoc {k : NestedKey} {dk d : D} {b : Addr} {v : V} {u : Value} (hk : dk.nk = some k) (hd : k.depth ≤ 8) (rk : Rp K H U dk (.ref b)) (rd : Rp K H U d v) (ru : RelV v u) : ∀ {ds : List (D × D)} {xs : List (NestedKey × Addr × Value)}, RpN K H U ds xs → RpN K H U (ds ++ [(dk, d)]) (xs ++ [(k, b, u)])
  | [], _, h => by simp only [RpN] at h; subst h; simp only [List.nil_append, RpN]; exact ⟨k, b, u, v, [], rfl, hk, hd, rk, rd, ru, rfl⟩
  | (dk', dv) :: ds, _, h => by
    simp only [RpN] at h
    obtain ⟨k', b', u', v', r, rfl, h1, h2, h3, h4, h5, h6⟩ := h
    simp only [List.cons_append, RpN]
    exact ⟨k', b', u', v', _, rfl, h1, h2, h3, h4, h5, RpN.snoc hk hd rk rd ru h6⟩
theorem RpN.put {k : NestedKey} {dk d : D} {b : Addr} {v : V} {u : Value} (hk : dk.nk = some k) (hd : k.depth ≤ 8) (rk : Rp K H U dk (.ref b)) (rd : Rp K H U d v) (ru : RelV v u) {ds : List (D × D)} {xs : List (NestedKey × Addr × Value)} (h : RpN K H U ds xs) : RpN K H U (putN ds dk k d) (storedH xs k b u) := by
  unfold putN storedH
  rcases h.get (k := k) with ⟨e1, e2⟩ | ⟨d', p, v', e1, e2, _⟩
  · rw [e1, e2]
    exact RpN.snoc hk hd rk rd ru h
  · rw [e1, e2]
    exact RpN.map rd ru h
theorem RV.din (R : Rel F U ρ σ H) {r : Rs} {v : V} {w : World} {ds : List (D × D)} (h : RV F U σ H r v) (e : r.dat ρ = some (.din w ds)) : ∃ a xs, v = .ref a ∧ Rd H a (.ext (DNat w a xs)) ∧ RpN F.K H U ds xs := by
  rcases h.get R e with q | ⟨a, e, xs, q1, q2⟩
  · simp only [Rp] at q
    obtain ⟨a, xs, e, h1, _, h2⟩ := q
    exact ⟨a, xs, e, h1, h2⟩
  · exact ⟨a, xs, e, q1, q2⟩
/-- a tuple as a key -/
def wkey (y : Rs) (ρ : En) (k : D → NestedKey → Prop) : Prop := wd y ρ fun dy => match dy with
  | .tup ds => wo (D.nk (.tup ds)) fun j => j.depth ≤ 8 ∧ k (.tup ds) j
  | _ => False
theorem wkey_out (R : Rel F U ρ σ H) {y : Rs} {w : V} {k : D → NestedKey → Prop} (hy : RV F U σ H y w) (h : wkey y ρ k) : ∃ b dy j, w = .ref b ∧ dy.nk = some j ∧ Rp F.K H U dy (.ref b) ∧ j.depth ≤ 8 ∧ k dy j := by
  obtain ⟨dy, ey, h⟩ := wd_out h
  cases dy <;> first | exact h.elim | skip
  obtain ⟨j, ej, hd, h⟩ := wo_out h
  obtain ⟨b, vs, rfl, _, _, r⟩ := hy.tup R ey
  exact ⟨b, _, j, rfl, ej, r, hd, h⟩
def wdn (w : World) (x y : Rs) (ρ : En) (k : List (D × D) → D → NestedKey → Prop) : Prop := wd x ρ fun dx => match dx with
  | .din w' kvs => w' = w ∧ wkey y ρ fun dy j => k kvs dy j
  | _ => False
theorem wdn_out (R : Rel F U ρ σ H) {w : World} {x y : Rs} {v u : V} {k : List (D × D) → D → NestedKey → Prop} (hx : RV F U σ H x v) (hy : RV F U σ H y u) (h : wdn w x y ρ k) :
    ∃ a b xs kvs dy j, v = .ref a ∧ u = .ref b ∧ DNk F.K w H a b xs j ∧ RpN F.K H U kvs xs ∧ dy.nk = some j ∧ Rp F.K H U dy (.ref b) ∧ k kvs dy j := by
  obtain ⟨dx, ex, g⟩ := wd_out h
  cases dx <;> first | exact g.elim | skip
  obtain ⟨rfl, g⟩ := g
  obtain ⟨b, dy, j, rfl, h1, h2, h3, h4⟩ := wkey_out R hy g
  obtain ⟨a, xs, rfl, z1, z2⟩ := hx.din R ex
  exact ⟨a, b, xs, _, dy, j, rfl, rfl, ⟨z1, z2.keys, Rp.nk dy _ j h1 h2, h3⟩, z2, h1, h2, h4⟩
/-- d[k] -/
def eNGet (w : World) (fd fy : T3E) : T3E := fun ρ Q => fd ρ fun x ρ1 => fy ρ1 fun y ρ2 => wdn w x y ρ2 fun kvs _ k => wo (getN kvs k) fun d => Q (.val d) ρ2
theorem simNGet {w : World} {td ty : TE} {fd fy : T3E} (h : SimE K td fd) (h' : SimE K ty fy) : SimE K (tNGet K w td ty) (eNGet w fd fy) := by
  intro F U ρ σ H Q3 Q2 e R q k
  refine h F U ρ σ H _ _ e R q fun x v ρ1 H1 R1 s1 q1 h1 => ?_
  refine h' F U ρ1 σ H1 _ _ e R1 h1 fun y u ρ2 H2 R2 s2 q2 h2 => ?_
  obtain ⟨a, b, xs, kvs, dy, j, rfl, rfl, z1, z2, _, _, h2⟩ := wdn_out R2 (q1.pres (s2.pres R1)) q2 h2
  obtain ⟨d, ed, h2⟩ := wo_out h2
  rcases z2.get (k := j) with ⟨n, _⟩ | ⟨d', p, v', n, ep, rv, rp⟩
  · rw [n] at ed; cases ed
  · rw [n] at ed; cases ed
    exact ⟨a, b, xs, j, p, v', rfl, rfl, e ▸ z1, ep, rv, k (.val d) v' ρ2 H2 R2 (s1.trans s2) rp h2⟩
def fNIn (w : World) (neg : Bool) (fy fd : T3E) : T3E := fun ρ Q => fy ρ fun y ρ1 => fd ρ1 fun x ρ2 => wdn w x y ρ2 fun kvs _ k => Q (.val (.bl (if neg then !(getN kvs k).isSome else (getN kvs k).isSome))) ρ2
theorem simNIn {w : World} (neg : Bool) {td ty : TE} {fd fy : T3E} (h : SimE K td fd) (h' : SimE K ty fy) : SimE K (tNIn K w neg ty td) (fNIn w neg fy fd) := by
  intro F U ρ σ H Q3 Q2 e R q k
  refine h' F U ρ σ H _ _ e R q fun y u ρ1 H1 R1 s1 q1 h1 => ?_
  refine h F U ρ1 σ H1 _ _ e R1 h1 fun x v ρ2 H2 R2 s2 q2 h2 => ?_
  obtain ⟨a, b, xs, kvs, dy, j, rfl, rfl, z1, z2, _, _, h2⟩ := wdn_out R2 q2 (q1.pres (s2.pres R1)) h2
  refine ⟨a, b, xs, j, rfl, rfl, e ▸ z1, k (.val _) _ ρ2 H2 R2 (s1.trans s2) rvB ?_⟩
  rcases z2.get (k := j) with ⟨n, n'⟩ | ⟨d', p, v', n, ep, _, _⟩
  · rw [n] at h2; rw [n']; exact h2
  · rw [n] at h2; rw [ep]; exact h2
/-- d[k] = e -/
def sNPutD (w : World) (f fd fy : T3E) : T3S := fun E ρ => f ρ fun r ρ1 => fd ρ1 fun x ρ2 => fy ρ2 fun y ρ3 => match r with
  | .val d => wkey y ρ3 fun dy j => ww x ρ3 fun dx up => match dx with
    | .din w' kvs => w' = w ∧ kvs.length < sizeLine ∧ E.nx (up (.din w (putN kvs dy j d)))
    | _ => False
  | _ => False
theorem simNPut {w : World} {t td ty : TE} {f fd fy : T3E} (h : SimE K t f) (hd : SimE K td fd) (hy : SimE K ty fy) : SimS K (sNPut K w td ty t) (sNPutD w f fd fy) := by
  intro F U ρ σ H D3 D2 e R q k
  refine h F U ρ σ H _ _ e R q fun r v ρ1 H1 R1 s1 q1 h1 => ?_
  refine hd F U ρ1 σ H1 _ _ e R1 h1 fun o vo ρ2 H2 R2 s2 q2 h2 => ?_
  refine hy F U ρ2 σ H2 _ _ e R2 h2 fun i vi ρ3 H3 R3 s3 q3 h3 => ?_
  cases r <;> first | exact h3.elim | skip
  rename_i d
  obtain ⟨b, dy, j, rfl, y1, y2, y3, h3⟩ := wkey_out R3 q3 h3
  obtain ⟨dl, up, a, rfl, u, t', wr, h3⟩ := ww_out R3 (q2.pres (s3.pres R2)) h3
  cases dl <;> first | exact h3.elim | skip
  rename_i w' kvs
  obtain ⟨rfl, hl, h3⟩ := h3
  obtain ⟨xs, z1, z2⟩ := t'
  have rd : Rp F.K H3 U d v := Rp.pres (s3.pres R2) _ _ (Rp.pres (s2.pres R1) _ _ q1)
  refine ⟨a, b, xs, j, rfl, rfl, z1, e ▸ ⟨.inl z1, z2.keys, Rp.nk dy _ j y1 y2, y3⟩, by rw [z2.len]; exact hl, fun x rx => ?_⟩
  obtain ⟨R', S'⟩ := wr (d' := .din w' (putN kvs dy j d)) ⟨_, upd_same, RpN.pres (pres_w R3 u) _ _ (z2.put y1 y3 y2 rd rx)⟩
  exact k.nx _ _ _ _ R' h3
/-- d.get(k, x) -/
def eNG2 (w : World) (fd fy fx : T3E) : T3E := fun ρ Q => fd ρ fun x ρ1 => wd x ρ1 fun dx => match dx with
  | .din w' _ => w' = w ∧ fy ρ1 fun y ρ2 => fx ρ2 fun z ρ3 => match z with
    | .val dz => wdn w x y ρ3 fun kvs _ k => Q (.val ((getN kvs k).getD dz)) ρ3
    | _ => False
  | _ => False
theorem simNG2 {w : World} {td ty tx : TE} {fd fy fx : T3E} (h : SimE K td fd) (hy : SimE K ty fy) (hx : SimE K tx fx) : SimE K (tNGet2 K w td ty tx) (eNG2 w fd fy fx) := by
  intro F U ρ σ H Q3 Q2 e R q k
  refine h F U ρ σ H _ _ e R q fun x v ρ1 H1 R1 s1 q1 h1 => ?_
  obtain ⟨d, ed, h1⟩ := wd_out h1
  cases d <;> first | exact h1.elim | skip
  obtain ⟨rfl, h1⟩ := h1
  obtain ⟨a, xs0, rfl, z1, z2⟩ := q1.din R1 ed
  refine ⟨a, rfl, ⟨xs0, z1⟩, hy F U ρ1 σ H1 _ _ e R1 h1 fun y w' ρ2 H2 R2 s2 q2 h2 => ?_⟩
  refine hx F U ρ2 σ H2 _ _ e R2 h2 fun z u ρ3 H3 R3 s3 q3 h3 => ?_
  cases z <;> first | exact h3.elim | skip
  rename_i dz
  have q1' : RV F U σ H3 x (.ref a) := (q1.pres (s2.pres R1)).pres (s3.pres R2)
  obtain ⟨a', b, xs, kvs, dy, j, ea, rfl, y1, y2, _, _, h4⟩ := wdn_out R3 q1' (q2.pres (s3.pres R2)) h3
  cases ea
  refine ⟨b, xs, j, rfl, e ▸ y1, fun n' => ?_, fun p hp => ?_⟩
  · rcases y2.get (k := j) with ⟨n, _⟩ | ⟨d', p, v', n, ep, _, _⟩
    · rw [n] at h4
      exact k (.val dz) u ρ3 H3 R3 ((s1.trans s2).trans s3) q3 h4
    · rw [n'] at ep; cases ep
  · rcases y2.get (k := j) with ⟨_, n'⟩ | ⟨d', p', v', n, ep, rv, rp⟩
    · rw [n'] at hp; cases hp
    · rw [hp] at ep; cases ep
      rw [n] at h4
      exact ⟨v', rv, k (.val d') v' ρ3 H3 R3 ((s1.trans s2).trans s3) rp h4⟩
/-- {}, to be such a dict -/
def oDicN (w : World) : T3O' := fun ρ Q => Q (.din w []) ρ
theorem simODicN {w : World} : SimEO K (tDNewN w) (oDicN w) := by
  intro F U ρ σ H Q3 Q2 e R q k
  intro p hp
  obtain ⟨R', S', P⟩ := freshEO R (o := .ext (DNat w p [])) hp
  exact k (.din w []) p ρ _ R' S' hp ⟨[], upd_same, by simp only [RpN]⟩ q
end
end L3

set_option Elab.async false
set_option linter.all false
set_option maxRecDepth 100000
namespace L3
open PySem PySem.Spec L2 PyProof.Rows
/-! ### o[i], o[i] = v by an own class -/
def rOwnGet (C : Addr) (sp : Sp) : R2 := fun x y H Q => ∃ a dx fs, x = .ref a ∧ H a = some (.ins C dx fs) ∧ sp [x, y] H Q E0
def sOwnSet (C : Addr) (sp : Sp) (td ty tv : TE) : TS := fun D σ H => tv σ H fun v H1 => td σ H1 fun x H2 => ty σ H2 fun y H3 => ∃ a dx fs, x = .ref a ∧ H3 a = some (.ins C dx fs) ∧ sp [x, y, v] H3 (fun _ H' => D.nx σ H') E0
section
variable {X : Cx} {C g : Addr} {k : Nat} {fd : FuncData} {ps : List Str} {sp : Sp} {a b value o i : Expr} {ta tb td ty tv : TE} {pos pos' : Pos}
theorem run_in1 {pins : List (Addr × Obj)} {σ : L2.St} {H : Hp} {s : Shared} {Q : VK} {us : List Value} {vs : List V} (F : FnOk X.prog X.w X.K X.mg X.base CX0 k g fd ps sp) (hr : Room (k + 1) X.A) (hb : Binds X.K fd ps [])
    (I : Inv X pins σ H s) (r : Vals vs us) (h : sp vs H Q E0) : wpAny (model X.prog X.w) X.A.in1 (call (.ref g) us) (EP X pins σ Q) X.xe s := by
  have hl : (us ++ []).length = ps.length := by rw [List.append_nil, ← r.length]; exact F.len _ _ _ _ h
  refine wpAny_call (codeAny_mono (F.run X.A.in1 X.stack s H ⟨us, []⟩ (us ++ []) vs Q E0 hr.in1 I.env0.in1 (hb s us I.kIn hl) (by rw [List.append_nil]; exact r) h) fun r s' hq => ?_)
  cases r with
  | error er => exact hq.elim
  | ok fl =>
    cases fl with
    | ret u => exact I.after hq
    | next => exact False.elim hq
    | brk => exact False.elim hq
    | cont => exact False.elim hq
theorem pe_getO (hs : PySem.W.findIn X.K (.ref C) "__getitem__" = some (some (.ref g))) (hf : PySem.W.fnIn X.K g = true) (hfn : PySem.W.isFn X.K (.ref g) = true) (Fn : FnOk X.prog X.w X.K X.mg X.base CX0 k g fd ps sp) (hb : Binds X.K fd ps []) (hr : Room (k + 1) X.A)
    (ha : PE X a ta) (hb' : PE X b tb) (hsl : ∀ ov iv, subscripted b true ov iv = runValue (.builtin "lifetime.subscript" ⟨[ov, iv], []⟩)) : PE X (.Subscript a b pos) (tOp (rOwnGet C sp) ta tb) := by
  refine ⟨fun pins s σ H Q I h => ?_⟩
  refine Subscript_ (binT ha hb' I h fun v u s2 x y H2 I2 rx ry q => ?_)
  obtain ⟨p, dx, fs, rfl, e, q⟩ := q
  cases (show v = Value.ref p from rx)
  obtain ⟨mA, O, _⟩ := ins_get I2.hok e
  obtain ⟨od, J, _⟩ := O.look
  obtain ⟨m, hF⟩ := I2.fr
  exact PySem.W.sub_K hF I2.ok.mod.kin J hs hf hfn (run_in1 (us := [.ref p, u]) (vs := [.ref p, y]) Fn hr hb I2 (.cons rfl (.cons ry .nil)) q) (hsl _ _)
theorem setItem_own {pins : List (Addr × Obj)} {σ : L2.St} {H : Hp} {s : Shared} {p dx : Addr} {fs : List (Str × V)} {y v : V} {u r : Value} {Q : Hp → Prop} (hq : PySem.W.noSeq X.K C = true) (hs : PySem.W.findIn X.K (.ref C) "__setitem__" = some (some (.ref g))) (hfn : PySem.W.isFn X.K (.ref g) = true)
    (Fn : FnOk X.prog X.w X.K X.mg X.base CX0 k g fd ps sp) (hb : Binds X.K fd ps []) (hr : Room k X.A) (I : Inv X pins σ H s) (e : H p = some (.ins C dx fs)) (ry : RelV y u) (rv : RelV v r) (h : sp [.ref p, y, v] H (fun _ H' => Q H') E0) :
    wpAny (model X.prog X.w) X.A (setItem (.ref p) u r) (fun _ s' => ∃ H', Inv X pins σ H' s' ∧ Q H') X.xe s := by
  obtain ⟨mA, O, _⟩ := ins_get I.hok e
  obtain ⟨od, J, _⟩ := O.look
  obtain ⟨m, hF⟩ := I.fr
  have X' := I.ok.mod.kin.keeps hF.keep
  unfold setItem sequenceKey
  refine wpAny_holding (wpAny_bind (wpAny_bind (J.type.here ?_)))
  refine wpAny_bind ((PySem.W.anyM_none X' hq).here ?_)
  rw [if_pos (show (!false) = true from rfl)]
  refine wpAny_pure (wpAny_bind (PySem.W.special_fn X' J hs (beq_iff_eq.mp hfn) ?_))
  refine wpAny_mono (run_fn (us := [.ref p, u, r]) (vs := [.ref p, y, v]) Fn hr hb .nil pass0 I (.cons rfl (.cons ry (.cons rv .nil))) h) (fun w s' z => ?_) fun _ _ x => x
  obtain ⟨z', H', I', _, qz⟩ := z
  exact wpAny_pure ⟨H', I', qz⟩
theorem ps_setO (hq : PySem.W.noSeq X.K C = true) (hs : PySem.W.findIn X.K (.ref C) "__setitem__" = some (some (.ref g))) (hfn : PySem.W.isFn X.K (.ref g) = true) (Fn : FnOk X.prog X.w X.K X.mg X.base CX0 k g fd ps sp) (hb : Binds X.K fd ps []) (hr : Room k X.A)
    (ho : PE X o td) (hi : PE X i ty) (hv : PE X value tv) (hs' : swapsWith value (some (.Subscript o i pos')) pos.line X.env = pure false) : PS X (.Assign [.Subscript o i pos'] value pos) (sOwnSet C sp td ty tv) := by
  refine ⟨fun pins s σ H D I h => ?_⟩
  refine wpAny_Assign_Subscript (thn (hv.run pins s σ H _ I h) fun r s1 ⟨v, H1, I1, rv, q1⟩ => thn (ho.run pins s1 σ H1 _ I1 q1) fun u s2 ⟨x, H2, I2, rx, q2⟩ => thn (hi.run pins s2 σ H2 _ I2 q2) fun iv s3 ⟨y, H3, I3, ry, a, dx, fs, ex, g, q3⟩ => ?_) hs'
  subst ex
  obtain rfl : u = Value.ref a := rx
  exact thn (setItem_own hq hs hfn Fn hb hr I3 g ry rv q3) fun _ s4 ⟨H', I4, q4⟩ => ⟨σ, H', I4, q4⟩
end
section
variable {F : Fr} {U U2 : US} {ρ ρ' ρ2 : En} {σ σ2 : L2.St} {H H' H2 : Hp} {K : PySem.W.Frag}
def oOwnGet (C : Addr) (ms : List Md) (sp : S3) (x y : Rs) (ρ : En) (Q : Rs → En → Prop) : Prop := wd x ρ fun dx => match dx with
  | .obj C' _ => C' = C ∧ apart ms [x, y] = true ∧ wo (argsD ms [x, y] ρ) fun ds => sp ds (fun d ds' => Q (.val d) (updE ms [x, y] ds' ρ)) (fun d ds' => Q (.val d) (updE ms [x, y] ds' ρ))
  | _ => False
theorem simOwnGet {C : Addr} {ms : List Md} {sp : S3} (np : noPab ms = true) : SimR2 K (rOwnGet C (Lift K ms sp)) (oOwnGet C ms sp) := by
  intro F U ρ1 σ H1 x y rx ry Q3 Q2 e R1 hx hy h k
  obtain ⟨dx, ex, h1⟩ := wd_out h
  cases dx <;> first | exact h1.elim | skip
  obtain ⟨e1, ap, h3⟩ := h1
  obtain ⟨ds, ed, h1⟩ := wo_out h3
  obtain ⟨a, da, ga, rfl, z1, z2⟩ := hx.obj R1 ex
  subst e
  refine ⟨a, da, ga, rfl, e1 ▸ z1, ?_⟩
  have q1 : RVs F U σ H1 [rx, ry] [.ref a, y] := .cons hx (.cons hy .nil)
  exact callN np R1 (.refl R1) R1 q1 ap ed h1 k E0
def sOwnSetD (C : Addr) (ms : List Md) (sp : S3) (f fd fy : T3E) : T3S := fun E ρ => f ρ fun r ρ1 => fd ρ1 fun x ρ2 => fy ρ2 fun y ρ3 => wd x ρ3 fun dx => match dx with
  | .obj C' _ => C' = C ∧ apart ms [x, y, r] = true ∧ wo (argsD ms [x, y, r] ρ3) fun ds => sp ds (fun _ ds' => E.nx (updE ms [x, y, r] ds' ρ3)) (fun _ ds' => E.nx (updE ms [x, y, r] ds' ρ3))
  | _ => False
theorem simOwnSet {C : Addr} {ms : List Md} {sp : S3} {t td ty : TE} {f fd fy : T3E} (h : SimE K t f) (hd : SimE K td fd) (hy : SimE K ty fy) : SimS K (sOwnSet C (Lift K ms sp) td ty t) (sOwnSetD C ms sp f fd fy) := by
  intro F U ρ σ H D3 D2 e R q k
  refine h F U ρ σ H _ _ e R q fun r v ρ1 H1 R1 s1 q1 h1 => ?_
  refine hd F U ρ1 σ H1 _ _ e R1 h1 fun x vx ρ2 H2 R2 s2 q2 h2 => ?_
  refine hy F U ρ2 σ H2 _ _ e R2 h2 fun y vy ρ3 H3 R3 s3 q3 h3 => ?_
  obtain ⟨dx, ex, h3⟩ := wd_out h3
  cases dx <;> first | exact h3.elim | skip
  obtain ⟨ec, ap, h3⟩ := h3
  obtain ⟨ds, ed, h3⟩ := wo_out h3
  have q2' := q2.pres (s3.pres R2)
  obtain ⟨a, da, ga, rfl, z1, z2⟩ := q2'.obj R3 ex
  subst e
  refine ⟨a, da, ga, rfl, ec ▸ z1, ?_⟩
  have qq : RVs F U σ H3 [x, y, r] [.ref a, vy, v] := .cons q2' (.cons q3 (.cons ((q1.pres (s2.pres R1)).pres (s3.pres R2)) .nil))
  exact callG R3 qq ap ed h3 (fun _ U' ρ' H' R' q => k.nx _ _ _ _ R' q) E0
end

/-! ### the combined judgements -/
/-- a special method of a class -/
structure Sm3 (P : Program) (w : World) (K : PySem.W.Frag) (mg : Str → Option Value) (base : Heap) (k : Nat) (C : Addr) (m : Str) (ms : List Md) (sp : S3) : Prop where
  ex : ∃ (g : Addr) (fd : FuncData) (ps : List Str), PySem.W.findIn K (.ref C) m = some (some (.ref g)) ∧ PySem.W.fnIn K g = true ∧ PySem.W.isFn K (.ref g) = true ∧ PySem.W.noSeq K C = true ∧ FnOk P w K mg base CX0 k g fd ps (Lift K ms sp) ∧ Binds K fd ps []
structure MkB3 (P : Program) (w : World) (K : PySem.W.Frag) (mg : Str → Option Value) (base : Heap) (k : Nat) (x : Str) (C : Addr) (ms : List Md) (sp : S3) : Prop where
  ex : ∃ (f : Addr) (fd : FuncData) (ps : List Str), Mk K C f ∧ FnOk P w K mg base CX0 k f fd ps (Lift K (.pab :: ms) sp) ∧ mg x = some (.ref C) ∧ Binds K fd ps []
structure QOB {ι : Type} (K : PySem.W.Frag) (X : ι → Cx) (e : Expr) (f : T3O') : Prop where
  ex : ∃ t : TE, (∀ i, PE (X i) e t) ∧ SimEB K t f
section
variable {ι : Type} {X : ι → Cx} {K : PySem.W.Frag} {pos p p2 pos' apos cpos spos : Pos} {e a b c d' tg iter o value : Expr} {es rest ifs : List Expr} {f g h fv fo : T3E} {x y : Str} {st : Stmt} {sts body els : List Stmt} {fs gs : T3S} {ft : T3T} {fa : T3A}
variable {ms : List Md} {sp : S3} {k j : Nat} {C : Addr} {m : Str} {w : World}
theorem sfrz (n : Nat) (h : QS K X st fs) : QS K X st (sFrz n fs) := let ⟨_, a1, a2⟩ := h.ex; ⟨_, a1, simFrz n a2⟩
theorem smov (n m' : Nat) (hN1 : ∀ i, (X i).N[n]? = some y := by exact fun _ => rfl) (hv1 : ∀ i, Vis (X i).env.scope y := by first | exact fun _ => Or.inl rfl | exact fun _ => Or.inr (Or.inl rfl) | exact fun _ => Or.inr (Or.inr rfl))
    (hd : (y == ("__debug__" : Str)) = false := by decide) (hcd : (y == ("__classdict__" : Str)) = false := by decide) (hN : ∀ i, (X i).N[m']? = some x := by exact fun _ => rfl) (hnd : ∀ i, (X i).N.Nodup := by exact fun _ => by decide) (hx : ∀ i, Loc (X i).env.scope x := by first | exact fun _ => Or.inl rfl | exact fun _ => Or.inr rfl)
    (hs : ∀ i, swapsWith (.Name y p) (some (.Name x pos')) pos.line (X i).env = pure false := by exact fun _ => rfl) (hf : ∀ i, (X i).fn x = true ∨ (X i).env.scope.names.lookup x = some .local := by first | exact fun _ => Or.inl rfl | exact fun _ => Or.inr rfl) :
    QS K X (.Assign [.Name x pos'] (.Name y p) pos) (sMov n m') := ⟨_, fun i => ps_set (hnd i) (hN i) (hx i) (pe_var (hN1 i) (hv1 i) hd hcd) (hs i) (hf i), simMov n m'⟩
theorem qfldB (hc : Cls K C) (hn : NoAttr K C m) (ho : QE K X a f) (hK : ∀ i, (X i).K = K := by exact fun _ => rfl) (hb : ∀ i, attributeBase a m (X i).env (eval a (X i).env) = eval a (X i).env := by exact fun _ => rfl) : QE K X (.Attribute a m pos) (eFldB C m f) :=
  let ⟨t, h1, h2⟩ := ho.ex; ⟨tFld K t m, fun i => hK i ▸ pe_fld (h1 i) (hb i), simFldB hc hn h2⟩
theorem sfldX (hc : Cls K C) (hn : NoAttr K C m) (ho : QE K X o fo) (hv : QE K X value fv) (hK : ∀ i, (X i).K = K := by exact fun _ => rfl) (hs : ∀ i, swapsWith value (some (.Attribute o m pos')) pos.line (X i).env = pure false := by exact fun _ => rfl) : QS K X (.Assign [.Attribute o m pos'] value pos) (sFldX C m fv fo) :=
  let ⟨t, a1, a2⟩ := ho.ex; let ⟨u, b1, b2⟩ := hv.ex; ⟨sFld K t u m, fun i => hK i ▸ ps_fld (a1 i) (b1 i) (hs i), simFldX hc hn b2 a2⟩
theorem sfldN {fv : T3O'} (hc : Cls K C) (hn : NoAttr K C m) (ho : QE K X o fo) (hv : QO K X value fv) (hK : ∀ i, (X i).K = K := by exact fun _ => rfl) (hs : ∀ i, swapsWith value (some (.Attribute o m pos')) pos.line (X i).env = pure false := by exact fun _ => rfl) : QS K X (.Assign [.Attribute o m pos'] value pos) (sFldN C m fv fo) :=
  let ⟨t, a1, a2⟩ := ho.ex; let ⟨u, b1, b2⟩ := hv.ex; ⟨sFld K t u m, fun i => hK i ▸ ps_fld (a1 i) (b1 i) (hs i), simFldN hc hn b2 a2⟩
theorem sfldM (n : Nat) (hc : Cls K C) (hn : NoAttr K C m) (ho : QE K X o fo) (hN : ∀ i, (X i).N[n]? = some x := by exact fun _ => rfl) (hv : ∀ i, Vis (X i).env.scope x := by first | exact fun _ => Or.inl rfl | exact fun _ => Or.inr (Or.inl rfl) | exact fun _ => Or.inr (Or.inr rfl))
    (hd : (x == ("__debug__" : Str)) = false := by decide) (hcd : (x == ("__classdict__" : Str)) = false := by decide) (hK : ∀ i, (X i).K = K := by exact fun _ => rfl) (hs : ∀ i, swapsWith (.Name x p) (some (.Attribute o m pos')) pos.line (X i).env = pure false := by exact fun _ => rfl) : QS K X (.Assign [.Attribute o m pos'] (.Name x p) pos) (sFldM C m n fo) :=
  let ⟨t, a1, a2⟩ := ho.ex; ⟨sFld K t (tVar n) m, fun i => hK i ▸ ps_fld (a1 i) (pe_var (hN i) (hv i) hd hcd) (hs i), simFldM hc hn a2⟩
theorem omakeB (cf : ∀ i, MkB3 (X i).prog (X i).w K (X i).mg (X i).base k x C ms sp) (hR : ∀ i, Room j (X i).A) (hk : k + 1 ≤ j) (ha : QA K X (e :: es) fa) (hK : ∀ i, (X i).K = K := by exact fun _ => rfl) (hg : ∀ i, Gl (X i) x := by exact fun _ => rfl) (hdb : (x == ("__debug__" : Str)) = false := by decide)
    (he : ∀ i, starEach (e :: es) (X i).env = (false, eval e (X i).env) :: starEach es (X i).env := by exact fun _ => rfl) (hpl : ∀ i, (backTo pos (starEach es (X i).env)).any (·.1) = false := by exact fun _ => rfl) (np : noPab ms = true := by rfl) :
    QOB K X (.Call (.Name x p) (e :: es) [] pos) (oMake C ms sp fa) :=
  let ⟨u, h1, h2⟩ := ha.ex
  ⟨tMake C (Lift K (.pab :: ms) sp) [] E0 u, fun i => by
    obtain ⟨f, fd, ps, M, F, hm, b⟩ := (cf i).ex
    have e := hK i
    subst e
    exact pe_make M F ((hR i).mono hk) (hg i) hm b .nil pass0 (h1 i) hdb (he i) (hpl i), simOMakeB np h2⟩
theorem ssetB (n : Nat) {f : T3O'} (he : QOB K X e f) (hN : ∀ i, (X i).N[n]? = some x := by exact fun _ => rfl) (hnd : ∀ i, (X i).N.Nodup := by exact fun _ => by decide) (hx : ∀ i, Loc (X i).env.scope x := by first | exact fun _ => Or.inl rfl | exact fun _ => Or.inr rfl)
    (hs : ∀ i, swapsWith e (some (.Name x pos')) pos.line (X i).env = pure false := by exact fun _ => rfl) (hf : ∀ i, (X i).fn x = true ∨ (X i).env.scope.names.lookup x = some .local := by first | exact fun _ => Or.inl rfl | exact fun _ => Or.inr rfl) :
    QS K X (.Assign [.Name x pos'] e pos) (sAsgB f n) := let ⟨_, a1, a2⟩ := he.ex; ⟨_, fun i => ps_set (hnd i) (hN i) (hx i) (a1 i) (hs i) (hf i), simAsgB a2 n⟩
theorem smeth {pl : ι → Sem Bool} (cf : ∀ i, Me3 (X i).prog (X i).w K (X i).mg (X i).base k C m ms sp) (hR : ∀ i, Room j (X i).A) (hk : k ≤ j) (ho : QE K X a f) (ha : QA K X (e :: es) fa) (hK : ∀ i, (X i).K = K := by exact fun _ => rfl)
    (hst : ∀ i, starEach (e :: es) (X i).env = (false, eval e (X i).env) :: starEach es (X i).env := by exact fun _ => rfl) (hpl : ∀ i, (backTo cpos (starEach es (X i).env)).any (·.1) = false := by exact fun _ => rfl)
    (ht : ∀ i, eval (.Call (.Attribute a m apos) (e :: es) [] cpos) (X i).env = (do
      let ov ← eval a (X i).env
      standAt apos.atName
      let (f, first) ← holding [ov] (getMethod ov m (pl i))
      callWith cpos f first (backTo cpos (starEach (e :: es) (X i).env)) (backToKw cpos (keywordEach [] (X i).env))) := by exact fun _ => rfl)
    (hs : ∀ i, swapsWith (.Call (.Attribute a m apos) (e :: es) [] cpos) none pos.line (X i).env = pure false := by exact fun _ => rfl) :
    QS K X (.Expr (.Call (.Attribute a m apos) (e :: es) [] cpos) pos) (sMeth C m ms sp f fa) :=
  let ⟨t, h1, h2⟩ := ho.ex; let ⟨u, h3, h4⟩ := ha.ex
  ⟨tDrop (tMeth C m (Lift K ms sp) [] E0 t u), fun i => by
    obtain ⟨g, fd, ps, c, me, F, b⟩ := (cf i).ex
    have e := hK i
    subst e
    exact ps_expr (pe_meth (h1 i) c me F ((hR i).mono hk) b .nil pass0 (h3 i) (hst i) (hpl i) (ht i)) (hs i), simSMeth h2 h4⟩
theorem qmethB {pl : ι → Sem Bool} (cf : ∀ i, Me3 (X i).prog (X i).w K (X i).mg (X i).base k C m ms sp) (hR : ∀ i, Room j (X i).A) (hk : k ≤ j) (ho : QE K X a f) (ha : QA K X (e :: es) fa) (hK : ∀ i, (X i).K = K := by exact fun _ => rfl)
    (hst : ∀ i, starEach (e :: es) (X i).env = (false, eval e (X i).env) :: starEach es (X i).env := by exact fun _ => rfl) (hpl : ∀ i, (backTo pos (starEach es (X i).env)).any (·.1) = false := by exact fun _ => rfl)
    (ht : ∀ i, eval (.Call (.Attribute a m apos) (e :: es) [] pos) (X i).env = (do
      let ov ← eval a (X i).env
      standAt apos.atName
      let (f, first) ← holding [ov] (getMethod ov m (pl i))
      callWith pos f first (backTo pos (starEach (e :: es) (X i).env)) (backToKw pos (keywordEach [] (X i).env))) := by exact fun _ => rfl) :
    QE K X (.Call (.Attribute a m apos) (e :: es) [] pos) (eMethB C m ms sp f fa) :=
  let ⟨t, h1, h2⟩ := ho.ex; let ⟨u, h3, h4⟩ := ha.ex
  ⟨tMeth C m (Lift K ms sp) [] E0 t u, fun i => by
    obtain ⟨g, fd, ps, c, me, F, b⟩ := (cf i).ex
    have e := hK i
    subst e
    exact pe_meth (h1 i) c me F ((hR i).mono hk) b .nil pass0 (h3 i) (hst i) (hpl i) (ht i), simMethB h2 h4⟩
theorem qgetO (cf : ∀ i, Sm3 (X i).prog (X i).w K (X i).mg (X i).base k C "__getitem__" ms sp) (hR : ∀ i, Room j (X i).A) (hk : k + 1 ≤ j) (ha : QE K X a f) (hb : QE K X b g) (hK : ∀ i, (X i).K = K := by exact fun _ => rfl)
    (hsl : ∀ ov iv, subscripted b true ov iv = runValue (.builtin "lifetime.subscript" ⟨[ov, iv], []⟩) := by exact fun _ _ => rfl) (np : noPab ms = true := by rfl) : QE K X (.Subscript a b pos) (eOp (oOwnGet C ms sp) f g) :=
  let ⟨t, h1, h2⟩ := ha.ex; let ⟨u, h3, h4⟩ := hb.ex
  ⟨tOp (rOwnGet C (Lift K ms sp)) t u, fun i => by
    obtain ⟨g, fd, ps, a1, a2, a3, a4, F, bd⟩ := (cf i).ex
    have e := hK i
    subst e
    exact pe_getO a1 a2 a3 F bd ((hR i).mono hk) (h1 i) (h3 i) hsl, simOp (simOwnGet np) h2 h4⟩
theorem ssetO' {i' : Expr} (cf : ∀ i, Sm3 (X i).prog (X i).w K (X i).mg (X i).base k C "__setitem__" ms sp) (hR : ∀ i, Room j (X i).A) (hk : k ≤ j) (he : QE K X e f) (ho : QE K X o fo) (hi : QE K X i' h) (hK : ∀ i, (X i).K = K := by exact fun _ => rfl)
    (hs : ∀ i, swapsWith e (some (.Subscript o i' pos')) pos.line (X i).env = pure false := by exact fun _ => rfl) : QS K X (.Assign [.Subscript o i' pos'] e pos) (sOwnSetD C ms sp f fo h) :=
  let ⟨t, h1, h2⟩ := he.ex; let ⟨u, h3, h4⟩ := ho.ex; let ⟨v, h5, h6⟩ := hi.ex
  ⟨sOwnSet C (Lift K ms sp) u v t, fun i => by
    obtain ⟨g, fd, ps, a1, a2, a3, a4, F, bd⟩ := (cf i).ex
    have e := hK i
    subst e
    exact ps_setO a4 a1 a3 F bd ((hR i).mono hk) (h3 i) (h5 i) (h1 i) (hs i), simOwnSet h2 h4 h6⟩
theorem hu9 {A : Around} {k : Nat} (hr : Room k A) : A.units + 9 < cLine := by have := hr.un; omega
theorem odicN (hw : ∀ i, (X i).w = w := by exact fun _ => rfl) : QO K X (.Dict [] [] pos) (oDicN w) := ⟨tDNewN w, fun i => hw i ▸ pe_dnewN, simODicN⟩
theorem qnget (hR : ∀ i, Room k (X i).A) (ha : QE K X a f) (hb : QE K X b g) (hs : NoSl b := by exact fun _ _ => rfl) (hw : ∀ i, (X i).w = w := by exact fun _ => rfl) (hK : ∀ i, (X i).K = K := by exact fun _ => rfl) : QE K X (.Subscript a b pos) (eNGet w f g) :=
  let ⟨t, h1, h2⟩ := ha.ex; let ⟨u, h3, h4⟩ := hb.ex; ⟨tNGet K w t u, fun i => by have e := hK i; have e2 := hw i; subst e; subst e2; exact pe_nget (hu9 (hR i)) (h1 i) (h3 i) hs, simNGet h2 h4⟩
theorem qnin (hR : ∀ i, Room k (X i).A) (hi : QE K X a f) (ho : QE K X b g) (hm : behindInMarks .In b = false := by rfl) (hw : ∀ i, (X i).w = w := by exact fun _ => rfl) (hK : ∀ i, (X i).K = K := by exact fun _ => rfl) : QE K X (.Compare a [.In] [b] pos) (fNIn w false f g) :=
  let ⟨t, h1, h2⟩ := hi.ex; let ⟨u, h3, h4⟩ := ho.ex; ⟨tNIn K w false t u, fun i => by have e := hK i; have e2 := hw i; subst e; subst e2; exact pe_cmp (pc_nin (hu9 (hR i)) (h1 i) (h3 i)) hm, simNIn false h4 h2⟩
theorem qnnotin (hR : ∀ i, Room k (X i).A) (hi : QE K X a f) (ho : QE K X b g) (hm : behindInMarks .NotIn b = false := by rfl) (hw : ∀ i, (X i).w = w := by exact fun _ => rfl) (hK : ∀ i, (X i).K = K := by exact fun _ => rfl) : QE K X (.Compare a [.NotIn] [b] pos) (fNIn w true f g) :=
  let ⟨t, h1, h2⟩ := hi.ex; let ⟨u, h3, h4⟩ := ho.ex; ⟨tNIn K w true t u, fun i => by have e := hK i; have e2 := hw i; subst e; subst e2; exact pe_cmp (pc_nnotin (hu9 (hR i)) (h1 i) (h3 i)) hm, simNIn true h4 h2⟩
theorem tnin (hR : ∀ i, Room k (X i).A) (hi : QE K X a f) (ho : QE K X b g) (hm : behindInMarks .In b = false := by rfl) (hw : ∀ i, (X i).w = w := by exact fun _ => rfl) (hK : ∀ i, (X i).K = K := by exact fun _ => rfl) : QT K X (.Compare a [.In] [b] pos) (fTst (fNIn w false f g)) :=
  let ⟨t, h1, h2⟩ := hi.ex; let ⟨u, h3, h4⟩ := ho.ex; ⟨tTest (tNIn K w false t u), fun i => by have e := hK i; have e2 := hw i; subst e; subst e2; exact pt_cmp (pc_nin (hu9 (hR i)) (h1 i) (h3 i)) hm, simTst (simNIn false h4 h2)⟩
theorem tnnotin (hR : ∀ i, Room k (X i).A) (hi : QE K X a f) (ho : QE K X b g) (hm : behindInMarks .NotIn b = false := by rfl) (hw : ∀ i, (X i).w = w := by exact fun _ => rfl) (hK : ∀ i, (X i).K = K := by exact fun _ => rfl) : QT K X (.Compare a [.NotIn] [b] pos) (fTst (fNIn w true f g)) :=
  let ⟨t, h1, h2⟩ := hi.ex; let ⟨u, h3, h4⟩ := ho.ex; ⟨tTest (tNIn K w true t u), fun i => by have e := hK i; have e2 := hw i; subst e; subst e2; exact pt_cmp (pc_nnotin (hu9 (hR i)) (h1 i) (h3 i)) hm, simTst (simNIn true h4 h2)⟩
theorem snput {i' : Expr} (hR : ∀ i, Room k (X i).A) (he : QE K X e f) (ho : QE K X o fo) (hi : QE K X i' h) (hs : ∀ i, swapsWith e (some (.Subscript o i' pos')) pos.line (X i).env = pure false := by exact fun _ => rfl) (hw : ∀ i, (X i).w = w := by exact fun _ => rfl) (hK : ∀ i, (X i).K = K := by exact fun _ => rfl) : QS K X (.Assign [.Subscript o i' pos'] e pos) (sNPutD w f fo h) :=
  let ⟨t, h1, h2⟩ := he.ex; let ⟨u, h3, h4⟩ := ho.ex; let ⟨v, h5, h6⟩ := hi.ex; ⟨sNPut K w u v t, fun i => by have e := hK i; have e2 := hw i; subst e; subst e2; exact ps_nput (hu9 (hR i)) (h3 i) (h5 i) (h1 i) (hs i), simNPut h2 h4 h6⟩
theorem qng2 (hR : ∀ i, Room k (X i).A) (ho : QE K X o f) (he : QE K X a g) (hf : QE K X b h) (m : ∀ i, M2 (X i) o "get" apos a b cpos := by exact fun _ => ⟨rfl, rfl, rfl, rfl⟩) (hw : ∀ i, (X i).w = w := by exact fun _ => rfl) (hK : ∀ i, (X i).K = K := by exact fun _ => rfl) : QE K X (.Call (.Attribute o "get" apos) [a, b] [] cpos) (eNG2 w f g h) :=
  let ⟨t, h1, h2⟩ := ho.ex; let ⟨u, h3, h4⟩ := he.ex; let ⟨v, h5, h6⟩ := hf.ex; ⟨tNGet2 K w t u v, fun i => by have e := hK i; have e2 := hw i; subst e; subst e2; exact pe_nget2 (hu9 (hR i)) (h1 i) (h3 i) (h5 i) (m i), simNG2 h2 h4 h6⟩
end
end L3

set_option Elab.async false
set_option linter.all false
set_option maxRecDepth 100000
namespace L3
open PySem PySem.Spec L2
section
variable {P : Program} {w : World} {K : PySem.W.Frag} {mg : Str → Option Value} {base : Heap} {x gx qual : Str} {st : Stmt} {f : Addr} {N ps : List Str} {k n : Nat} {ms : List Md} {sp : S3} {t3 : T3S} {C : Addr} {m : Str}
theorem mkb3 (F : ∃ f, Df K x qual st f ∧ Mk K C f ∧ mg gx = some (.ref C)) (hb : BindN x qual st ps) (S : FnScope N ps (defScope st)) (hl : ps.length = ms.length + 1) (hN : N.length = ms.length + 1 + n) (hw : ∀ f, QB K (CxR k P w K mg base N qual (defScope st) f) (defBody st) t3)
    (hsp : ∀ ds QR QO, sp ds QR QO → ds.length = ms.length + 1 → t3 (endE (.pab :: ms) ds QR QO) (startE n (.pab :: ms) ds)) : MkB3 P w K mg base (k + 1) gx C ms sp := by
  obtain ⟨f, F, M, hm⟩ := F
  obtain ⟨fd, h1, h2⟩ := fk (ms := .pab :: ms) F hb S hl hN (hw f) hsp
  exact ⟨f, fd, ps, M, h1, hm, h2⟩
theorem sm3 (F : ∃ f, Df K x qual st f ∧ PySem.W.findIn K (.ref C) m = some (some (.ref f)) ∧ PySem.W.fnIn K f = true ∧ PySem.W.isFn K (.ref f) = true ∧ PySem.W.noSeq K C = true) (hb : BindN x qual st ps) (S : FnScope N ps (defScope st)) (hl : ps.length = ms.length) (hN : N.length = ms.length + n) (hw : ∀ f, QB K (CxR k P w K mg base N qual (defScope st) f) (defBody st) t3)
    (hsp : ∀ ds QR QO, sp ds QR QO → ds.length = ms.length → t3 (endE ms ds QR QO) (startE n ms ds)) : Sm3 P w K mg base (k + 1) C m ms sp := by
  obtain ⟨f, F, a1, a2, a3, a4⟩ := F
  obtain ⟨fd, h1, h2⟩ := fk F hb S hl hN (hw f) hsp
  exact ⟨f, fd, ps, a1, a2, a3, a4, h1, h2⟩
theorem dsm_mk {oc kV doc pm cdv ct : Value} {od an : Option Addr} {sl : Array (Option Value)} (a : PySem.W.findIn K (.ref C) m = some (some (.ref f))) (l : K.lookup f = some ⟨oc, od, .func (PySem.W.fnOf x qual (defArgs st) (defBody st) (defScope st) .none kV doc pm an cdv ct), sl⟩) (c : PySem.W.codeIn K cdv qual = true) (k : PySem.W.keepIn K (.ref f) = true)
    (fi : PySem.W.fnIn K f = true) (i : PySem.W.isFn K (.ref f) = true) (q : PySem.W.noSeq K C = true) : ∃ f, Df K x qual st f ∧ PySem.W.findIn K (.ref C) m = some (some (.ref f)) ∧ PySem.W.fnIn K f = true ∧ PySem.W.isFn K (.ref f) = true ∧ PySem.W.noSeq K C = true := ⟨f, df_mk l c k, a, fi, i, q⟩
end
end L3

set_option Elab.async false
set_option linter.all false
set_option maxRecDepth 100000
namespace L3
open PySem PySem.Spec L2
/-! ### a comprehension with two fors, the inner one over a range -/
def SimIX (K : PySem.W.Frag) (wk : Bool) (w2 : TI) (w3 : T3I) : Prop :=
  ∀ (F : Fr) (U : US) (ρ : En) (σ : St) (H : Hp) (Q3 : It3 → En → Prop) (R2 : It → Hp → Prop), F.K = K → Rel F U ρ σ H → w3 ρ Q3 →
    (∀ J it ρ' H', Rel F U ρ' σ H' → Stp ρ σ H ρ' H' → JOk K U H' (fun _ => True) wk J it.items → Q3 it ρ' → R2 J H') → w2 σ H R2
def lcL2 (g : T3G) (tt : T3T) (w1 : T3I) (g1 : T3G) (tt1 : T3T) (te : T3E) (vs vs1 : List Nat) (Q : List D → En → Prop) : List D → List D → En → Prop
  | [], acc, ρ => Q acc ρ
  | x :: xs, acc, ρ => noW ρ vs = true ∧ g x (wipeE ρ vs) fun ρ2 => tt ρ2 fun b ρ3 =>
    if b = true then w1 ρ3 fun it1 ρ4 => lcL g1 tt1 te vs1 (fun acc' ρ5 => lcL2 g tt w1 g1 tt1 te vs vs1 Q xs acc' (restE ρ vs ρ5)) it1.items acc ρ4
    else lcL2 g tt w1 g1 tt1 te vs vs1 Q xs acc (restE ρ vs ρ3)
def oLc2 (w : T3I) (g : T3G) (tt : T3T) (w1 : T3I) (g1 : T3G) (tt1 : T3T) (te : T3E) (vs vs1 : List Nat) : T3O' := fun ρ Q => w ρ fun it ρ1 => lcL2 g tt w1 g1 tt1 te vs vs1 (fun ds ρ2 => okL ρ1 it.r ρ2 ∧ Q (.lst ds) (unlockE ρ1 it.r ρ2)) it.items [] (lockE ρ1 it.r)
section
variable {F : Fr} {U U2 : US} {ρ ρ' ρ2 : En} {σ σ2 : St} {H H' H2 : Hp} {K : PySem.W.Frag}
theorem simLc2 {wk wk1 : Bool} {wi wi1 : TI} {g g1 : TG} {tt tt1 : TT} {te : TE} {vs vs1 ix ix1 : List Nat} {w3 w31 : T3I} {g3 g31 : T3G} {tt3 tt31 : T3T} {te3 : T3E} (hw : SimI K wk wi w3) (hg : SimG K wk g g3 ix) (ht : SimT K tt tt3) (hw1 : SimIX K wk1 wi1 w31) (hg1 : SimG K wk1 g1 g31 ix1) (ht1 : SimT K tt1 tt31) (he : SimE K te te3)
    (hix : ix.all (fun i => vs.contains i) = true) (hix1 : ix1.all (fun i => vs1.contains i) = true) :
    SimEO K (tLc2 wi g tt wi1 g1 tt1 te vs vs1) (oLc2 w3 g3 tt3 w31 g31 tt31 te3 vs vs1) := by
  have hix : ∀ i ∈ ix, i ∈ vs := fun i hi => by simpa using List.all_eq_true.mp hix i hi
  have hix1 : ∀ i ∈ ix1, i ∈ vs1 := fun i hi => by simpa using List.all_eq_true.mp hix1 i hi
  intro F U ρ σ H Q3 Q2 e R q k
  refine hw F U ρ σ H _ _ e R q fun J it ρ1 H1 R1 s1 jok h1 => ?_
  intro D hD
  have Rf := loopIn R1 it.r
  have noU1 : ¬ U D := R1.noU hD
  have Rg : Rel (F.at U (lockE ρ1 it.r) σ H1) (fun b => U b ∨ b = D) (lockE ρ1 it.r) σ (upd H1 D (.lst [])) := Rf.grow hD (ext_new hD) upd_same
  have noL : ¬ Own (lockE ρ1 it.r) σ D := fun z => noU1 (Rf.ownU z)
  let Fl : Fr := F.at U (lockE ρ1 it.r) σ H1
  have eK : Fl.K = K := e
  refine ⟨fun i m H' => m = it.items.length - i ∧ i ≤ it.items.length ∧ ∃ ρ' acc dacc, Rel Fl (fun b => U b ∨ b = D) ρ' σ H' ∧ H' D = some (.lst acc) ∧ RpAll F.K H' (fun b => U b ∨ b = D) dacc acc ∧ (∀ a, Own ρ' σ a → Own (lockE ρ1 it.r) σ a) ∧
    lcL2 g3 tt3 w31 g31 tt31 te3 vs vs1 (fun ds ρ2 => okL ρ1 it.r ρ2 ∧ Q3 (.lst ds) (unlockE ρ1 it.r ρ2)) (it.items.drop i) dacc ρ', ⟨_, rfl, Nat.zero_le _, lockE ρ1 it.r, [], [], Rg, upd_same, by simp only [RpAll], fun _ h => h, h1⟩, ?_⟩
  rintro i m H' ⟨rfl, hi, ρ', acc, dacc, R', hacc, racc, hown, q'⟩
  have jk := jok Fl (fun b => U b ∨ b = D) ρ' σ H' eK R' R'.pres0 (fun a o h n => R'.keep a o h n) i
  obtain ⟨j1, j2⟩ := jk
  have noD : ¬ Own ρ' σ D := fun z => noL (hown D z)
  by_cases hl : i < it.items.length
  · right
    obtain ⟨d, hd⟩ : ∃ d, it.items[i]? = some d := ⟨_, List.getElem?_eq_getElem hl⟩
    have ed : it.items.drop i = d :: it.items.drop (i + 1) := by
      rw [List.drop_eq_getElem_cons hl]
      congr 1
      rw [List.getElem?_eq_getElem hl] at hd
      exact Option.some.inj hd
    rw [ed] at q'
    obtain ⟨no, q'⟩ := q'
    obtain ⟨g1', g2⟩ := j1 d hd
    refine ⟨g1', fun H2 => ∃ ρ' acc dacc, Rel Fl (fun b => U b ∨ b = D) ρ' σ H2 ∧ H2 D = some (.lst acc) ∧ RpAll F.K H2 (fun b => U b ∨ b = D) dacc acc ∧ (∀ a, Own ρ' σ a → Own (lockE ρ1 it.r) σ a) ∧
      lcL2 g3 tt3 w31 g31 tt31 te3 vs vs1 (fun ds ρ2 => okL ρ1 it.r ρ2 ∧ Q3 (.lst ds) (unlockE ρ1 it.r ρ2)) (it.items.drop (i + 1)) dacc ρ', fun H2 z => ⟨it.items.length - (i + 1), by omega, rfl, hl, z⟩, fun x H3 hy => ?_⟩
    obtain ⟨ex, rx⟩ := g2 x H3 hy
    rw [← eK] at rx
    have Rx := R'.ext ex
    have Px : Pres H' (fun b => U b ∨ b = D) H3 (fun b => U b ∨ b = D) := fun a o h n => ⟨ex a o h, n⟩
    refine hg Fl (fun b => U b ∨ b = D) (wipeE ρ' vs) (L2.wipe σ vs) H3 d x _ _ eK (Rx.wipe no) rx q' fun ρ3 σ3 R3 o3 w3 q3 => ?_
    have w3 : L2.wipe σ3 vs = L2.wipe σ vs := (w3 vs hix).trans wipe_idem
    refine ⟨w3, ht Fl _ ρ3 σ3 H3 _ _ eK R3 q3 fun b ρ4 H4 R4 s4 q4 => ?_⟩
    have no3 : ¬ Own ρ3 σ3 D := fun z => noD (Own_wipe (o3 D z))
    have own3 : ∀ a, Own ρ3 σ3 a → Own (lockE ρ1 it.r) σ a := fun a z => hown a (Own_wipe (o3 a z))
    have P4 : Pres H3 (fun b => U b ∨ b = D) H4 (fun b => U b ∨ b = D) := s4.pres R3
    cases b with
    | false =>
      obtain ⟨R6, o6⟩ := Rx.rest R4 P4 w3 no
      exact ⟨_, acc, dacc, R6, s4.keep D _ (ex D _ hacc) no3, RpAll.pres P4 _ _ (RpAll.pres Px _ _ racc), fun a z => own3 a (s4.own a (o6 a z)), q4⟩
    | true =>
      refine hw1 Fl _ ρ4 σ3 H4 _ _ eK R4 q4 fun J1 it1 ρ5 H5 R5 s5 jok1 h5 => ?_
      have s45 := s4.trans s5
      have P5 : Pres H3 (fun b => U b ∨ b = D) H5 (fun b => U b ∨ b = D) := s45.pres R3
      have own5 : ∀ a, Own ρ5 σ3 a → Own (lockE ρ1 it.r) σ a := fun a z => own3 a (s45.own a z)
      have hacc5 : H5 D = some (.lst acc) := s45.keep D _ (ex D _ hacc) no3
      have racc5 := RpAll.pres P5 _ _ (RpAll.pres Px _ _ racc)
      refine ⟨fun j m H' => m = it1.items.length - j ∧ j ≤ it1.items.length ∧ ∃ ρ6 acc dacc, Rel Fl (fun b => U b ∨ b = D) ρ6 σ3 H' ∧ H' D = some (.lst acc) ∧ RpAll F.K H' (fun b => U b ∨ b = D) dacc acc ∧ (∀ a, Own ρ6 σ3 a → Own (lockE ρ1 it.r) σ a) ∧ Pres H5 (fun b => U b ∨ b = D) H' (fun b => U b ∨ b = D) ∧
        lcL g31 tt31 te3 vs1 (fun acc' ρ5 => lcL2 g3 tt3 w31 g31 tt31 te3 vs vs1 (fun ds ρ2 => okL ρ1 it.r ρ2 ∧ Q3 (.lst ds) (unlockE ρ1 it.r ρ2)) (it.items.drop (i + 1)) acc' (restE ρ' vs ρ5)) (it1.items.drop j) dacc ρ6,
        ⟨_, rfl, Nat.zero_le _, ρ5, acc, dacc, R5, hacc5, racc5, own5, fun a o h n => ⟨h, n⟩, h5⟩, ?_⟩
      rintro j m H6 ⟨rfl, hj, ρ6, acc6, dacc6, R6, hacc6, racc6, own6, P6, q6⟩
      obtain ⟨k1, k2⟩ := jok1 Fl (fun b => U b ∨ b = D) ρ6 σ3 H6 eK R6 P6 (fun a o h n => absurd trivial n) j
      have no6 : ¬ Own ρ6 σ3 D := fun z => noL (own6 D z)
      by_cases hl1 : j < it1.items.length
      · right
        obtain ⟨d1, hd1⟩ : ∃ d, it1.items[j]? = some d := ⟨_, List.getElem?_eq_getElem hl1⟩
        have ed1 : it1.items.drop j = d1 :: it1.items.drop (j + 1) := by
          rw [List.drop_eq_getElem_cons hl1]
          congr 1
          rw [List.getElem?_eq_getElem hl1] at hd1
          exact Option.some.inj hd1
        rw [ed1] at q6
        obtain ⟨nn, q6⟩ := q6
        obtain ⟨m1, m2⟩ := k1 d1 hd1
        refine ⟨m1, fun H' => ∃ ρ6 acc dacc, Rel Fl (fun b => U b ∨ b = D) ρ6 σ3 H' ∧ H' D = some (.lst acc) ∧ RpAll F.K H' (fun b => U b ∨ b = D) dacc acc ∧ (∀ a, Own ρ6 σ3 a → Own (lockE ρ1 it.r) σ a) ∧ Pres H5 (fun b => U b ∨ b = D) H' (fun b => U b ∨ b = D) ∧
          lcL g31 tt31 te3 vs1 (fun acc' ρ5 => lcL2 g3 tt3 w31 g31 tt31 te3 vs vs1 (fun ds ρ2 => okL ρ1 it.r ρ2 ∧ Q3 (.lst ds) (unlockE ρ1 it.r ρ2)) (it.items.drop (i + 1)) acc' (restE ρ' vs ρ5)) (it1.items.drop (j + 1)) dacc ρ6,
          fun H2 z => ⟨it1.items.length - (j + 1), by omega, rfl, hl1, z⟩, fun x1 H7 hy1 => ?_⟩
        obtain ⟨ex1, rx1⟩ := m2 x1 H7 hy1
        rw [← eK] at rx1
        have Rx1 := R6.ext ex1
        have Px1 : Pres H6 (fun b => U b ∨ b = D) H7 (fun b => U b ∨ b = D) := fun a o h n => ⟨ex1 a o h, n⟩
        refine hg1 Fl (fun b => U b ∨ b = D) (wipeE ρ6 vs1) (L2.wipe σ3 vs1) H7 d1 x1 _ _ eK (Rx1.wipe nn) rx1 q6 fun ρ7 σ7 R7 o7 w7 q7 => ?_
        have w7 : L2.wipe σ7 vs1 = L2.wipe σ3 vs1 := (w7 vs1 hix1).trans wipe_idem
        refine ⟨w7, ht1 Fl _ ρ7 σ7 H7 _ _ eK R7 q7 fun b ρ8 H8 R8 s8 q8 => ?_⟩
        have no7 : ¬ Own ρ7 σ7 D := fun z => no6 (Own_wipe (o7 D z))
        have own7 : ∀ a, Own ρ7 σ7 a → Own (lockE ρ1 it.r) σ a := fun a z => own6 a (Own_wipe (o7 a z))
        cases b with
        | false =>
          have P8 : Pres H7 (fun b => U b ∨ b = D) H8 (fun b => U b ∨ b = D) := s8.pres R7
          obtain ⟨R9, o9⟩ := Rx1.rest R8 P8 w7 nn
          exact ⟨_, acc6, dacc6, R9, s8.keep D _ (ex1 D _ hacc6) no7, RpAll.pres P8 _ _ (RpAll.pres Px1 _ _ racc6), fun a z => own7 a (s8.own a (o9 a z)), (P6.trans Px1).trans P8, q8⟩
        | true =>
          refine he Fl _ ρ8 σ7 H8 _ _ eK R8 q8 fun r y ρ9 H9 R9 s9 q9 h9 => ?_
          have s89 := s8.trans s9
          have P9 : Pres H7 (fun b => U b ∨ b = D) H9 (fun b => U b ∨ b = D) := s89.pres R7
          obtain ⟨R10, o10⟩ := Rx1.rest R9 P9 w7 nn
          have own10 : ∀ a, Own (restE ρ6 vs1 ρ9) σ3 a → Own (lockE ρ1 it.r) σ a := fun a z => own7 a (s89.own a (o10 a z))
          have no10 : ¬ Own (restE ρ6 vs1 ρ9) σ3 D := fun z => noL (own10 D z)
          have racc9 := RpAll.pres P9 _ _ (RpAll.pres Px1 _ _ racc6)
          cases r with
          | sl _ => exact h9.elim
          | bx _ _ _ => exact h9.elim
          | val d' =>
            have Pw : Pres H9 (fun b => U b ∨ b = D) (upd H9 D (.lst (acc6 ++ [y]))) (fun b => U b ∨ b = D) := fun a o h n => ⟨by rw [upd_ne (fun e => n (.inr e))]; exact h, n⟩
            refine ⟨acc6, s89.keep D _ (ex1 D _ hacc6) no7, by rw [racc9.len]; exact h9.1, restE ρ6 vs1 ρ9, acc6 ++ [y], dacc6 ++ [d'], R10.poke no10 (.inr rfl) hD, upd_same, ?_, own10, ((P6.trans Px1).trans P9).trans Pw, h9.2⟩
            exact RpAll.pres Pw _ _ (racc9.app (.one q9))
      · left
        have e2 : j = it1.items.length := by omega
        subst e2
        rw [List.drop_length] at q6
        refine ⟨k2 (Nat.le_refl _), ?_⟩
        obtain ⟨R11, o11⟩ := Rx.rest R6 (P5.trans P6) w3 no
        exact ⟨restE ρ' vs ρ6, acc6, dacc6, R11, hacc6, racc6, fun a z => own6 a (o11 a z), q6⟩
  · left
    have e2 : i = it.items.length := by omega
    subst e2
    rw [List.drop_length] at q'
    obtain ⟨ok, q'⟩ := q'
    refine ⟨j2 (Nat.le_refl _), ?_⟩
    have Ro := loopOut R1 it.r R' ok
    refine k (.lst dacc) D _ H' Ro (s1.trans ⟨fun a o h n => R'.keep a o h fun z => n (Own_lockE R1 z), fun a z => ?_, fun a o h => R'.ktr a o h⟩) (back_none s1 hD) ⟨acc, hacc, racc⟩ q'
    rcases Own_unlock z with z | z
    · exact Own_lockE R1 (hown a z)
    · exact z
theorem simIR1X {t : TA} {g : T3A} (h : SimA K t g) : SimIX K false (iRng1 t) (iR1 g) := by
  intro F U ρ σ H Q3 R2 e R q k
  refine h F U ρ σ H _ _ e R q fun rs vs ρ1 H1 R1 s1 q1 h1 => ?_
  cases q1 with
  | nil => exact h1.elim
  | cons q1 qs =>
    cases qs with
    | cons _ _ => exact h1.elim
    | nil =>
      obtain ⟨d, e1, h1⟩ := wd_out h1
      cases d <;> first | exact h1.elim | skip
      exact ⟨_, by rw [q1.int R1 e1], h1.1.1, h1.1.2, k _ ⟨_, .val .non⟩ ρ1 H1 R1 s1 jok_r h1.2⟩
end
structure QIX {ι : Type} (K : PySem.W.Frag) (X : ι → Cx) (wk : Bool) (tg iter : Expr) (f : T3I) : Prop where
  ex : ∃ t, (∀ i, PI (X i) tg iter t) ∧ SimIX K wk t f
section
variable {ι : Type} {K : PySem.W.Frag} {X : ι → Cx} {tg tg1 iter iter1 a : Expr} {fa : T3A} {p pos spos : Pos} {ifs ifs1 : List Expr} {ft ft1 : T3T} {y : Str}
theorem irng1x (hm : ∀ i, (X i).mg "range" = none) (ha : QA K X [a] fa) (hg : ∀ i, Gl (X i) "range" := by exact fun _ => rfl) (hs : ∀ i, starEach [a] (X i).env = [(false, eval a (X i).env)] := by exact fun _ => rfl) : QIX K X false tg (.Call (.Name "range" p) [a] [] pos) (iR1 fa) :=
  let ⟨_, a1, a2⟩ := ha.ex; ⟨_, fun i => pi_range1 (hg i) (hm i) (a1 i) (hs i), simIR1X a2⟩
/-- y = [.. for .. in .. for .. in range(..)] -/
theorem slcG2 {wk wk1 : Bool} {elt : Expr} {scope : Scope} {py : Pos} {w w1 : T3I} {g3 g31 : T3G} {te : T3E} {ix ix1 : List Nat} (n : Nat) (own : List (Str × Nat)) (vs1 : List Nat) (hi : QI K X wk tg iter w) (hg : QG K (Blk X scope) wk tg g3 ix) (ht : QTs K (Blk X scope) ifs ft)
    (hi1 : QIX K (Blk X scope) wk1 tg1 iter1 w1) (hg1 : QG K (Blk X scope) wk1 tg1 g31 ix1) (ht1 : QTs K (Blk X scope) ifs1 ft1) (he : QE K (Blk X scope) elt te)
    (ok : ∀ i, BlkOk (X i).N (X i).env.scope scope own) (hN : ∀ i, (X i).N[n]? = some y) (hyl : ∀ i, (X i).env.scope.names.lookup y = some .local)
    (hsw : ∀ i, swapsWith (.ListComp elt [⟨tg, iter, ifs, 0⟩, ⟨tg1, iter1, ifs1, 0⟩] scope pos) (some (.Name y py)) spos.line (X i).env = pure true) (hc : ∀ i, (X i).calm = true) (hnd : ∀ i, (X i).N.Nodup)
    (hix : ix.all (fun i => (own.map (·.2)).contains i) = true) (hix1 : ix1.all (fun i => vs1.contains i) = true) (hv : ∀ i ∈ vs1, i ∈ own.map (·.2)) (hs : ∀ i x, foldedSetIterable iter (X i).env x = pure x) (hs1 : ∀ env x, foldedSetIterable iter1 env x = pure x) :
    ∃ t, (∀ i, PS (X i) (.Assign [.Name y py] (.ListComp elt [⟨tg, iter, ifs, 0⟩, ⟨tg1, iter1, ifs1, 0⟩] scope pos) spos) (tAsg t (gName n))) ∧ SimEO K t (oLc2 w g3 ft w1 g31 ft1 te (own.map (·.2)) vs1) :=
  let ⟨_, a1, a2⟩ := hi.ex; let ⟨_, b1, b2⟩ := hg.ex; let ⟨_, c1, c2⟩ := ht.ex; let ⟨_, d1, d2⟩ := he.ex
  let ⟨_, e1, e2⟩ := hi1.ex; let ⟨_, f1, f2⟩ := hg1.ex; let ⟨_, g1, g2⟩ := ht1.ex
  ⟨_, fun i => ps_setLc2 (hc i) (hnd i) (hN i) (hyl i) (hsw i) (a1 i) (ok i) hv (fun s H C cl fp => b1 (i, s, H, C, cl, fp)) (fun s H C cl fp => c1 (i, s, H, C, cl, fp)) (fun s H C cl fp => e1 (i, s, H, C, cl, fp)) (fun s H C cl fp => f1 (i, s, H, C, cl, fp)) (fun s H C cl fp => g1 (i, s, H, C, cl, fp)) (fun s H C cl fp => d1 (i, s, H, C, cl, fp)) (hs i) hs1, simLc2 a2 b2 c2 e2 f2 g2 d2 hix hix1⟩
theorem slc2 {wk wk1 : Bool} {elt : Expr} {scope : Scope} {py : Pos} {w w1 : T3I} {g3 g31 : T3G} {te : T3E} {ix ix1 : List Nat} (n : Nat) (own : List (Str × Nat)) (vs1 : List Nat) (hi : QI K X wk tg iter w) (hg : QG K (Blk X scope) wk tg g3 ix) (ht : QTs K (Blk X scope) ifs ft)
    (hi1 : QIX K (Blk X scope) wk1 tg1 iter1 w1) (hg1 : QG K (Blk X scope) wk1 tg1 g31 ix1) (ht1 : QTs K (Blk X scope) ifs1 ft1) (he : QE K (Blk X scope) elt te)
    (ok : ∀ i, BlkOk (X i).N (X i).env.scope scope own) (hsw : ∀ i, swapsWith (.ListComp elt [⟨tg, iter, ifs, 0⟩, ⟨tg1, iter1, ifs1, 0⟩] scope pos) (some (.Name y py)) spos.line (X i).env = pure true) (hN : ∀ i, (X i).N[n]? = some y := by exact fun _ => rfl) (hyl : ∀ i, (X i).env.scope.names.lookup y = some .local := by exact fun _ => rfl)
    (hc : ∀ i, (X i).calm = true := by exact fun _ => rfl) (hnd : ∀ i, (X i).N.Nodup := by exact fun _ => by decide)
    (hix : ix.all (fun i => (own.map (·.2)).contains i) = true := by rfl) (hix1 : ix1.all (fun i => vs1.contains i) = true := by rfl) (hv : ∀ i ∈ vs1, i ∈ own.map (·.2) := by decide) (hs : ∀ i x, foldedSetIterable iter (X i).env x = pure x := by exact fun _ _ => rfl) (hs1 : ∀ env x, foldedSetIterable iter1 env x = pure x := by exact fun _ _ => rfl) :
    QS K X (.Assign [.Name y py] (.ListComp elt [⟨tg, iter, ifs, 0⟩, ⟨tg1, iter1, ifs1, 0⟩] scope pos) spos) (sAsg (eShr (oLc2 w g3 ft w1 g31 ft1 te (own.map (·.2)) vs1)) (gN n)) :=
  let ⟨_, h1, h2⟩ := slcG2 n own vs1 hi hg ht hi1 hg1 ht1 he ok hN hyl hsw hc hnd hix hix1 hv hs hs1; ⟨_, h1, simAsg (simShr h2) (simGN n)⟩
end
end L3

set_option Elab.async false
set_option linter.all false
set_option maxRecDepth 100000
namespace L3
open PySem PySem.Spec L2
/-! ### statements that may raise -/
/-- what is wished of an exception: its class, its fields (the last set first), the slots -/
abbrev E3X := Addr → List (Str × D) → En → Prop
structure KX (F : Fr) (X3 : E3X) (W : WX) : Prop where
  ex : ∀ (U : US) (ρ : En) (σ : St) (H : Hp) (C dd : Addr) (fs : List (Str × D)) (gs : List (Str × V)), Rel F U ρ σ H → H dd = some (.xd gs) → ¬ U dd → RpF F.K H U fs gs → X3 C fs ρ → W (.ref C) (some dd) σ H
def SimSX (K : PySem.W.Frag) (t2 : WX → TS) (t3 : E3X → T3S) : Prop :=
  ∀ (F : Fr) (U : US) (ρ : En) (σ : St) (H : Hp) (X3 : E3X) (W : WX) (D3 : E3) (D2 : Ends), F.K = K → KX F X3 W → Rel F U ρ σ H → t3 X3 D3 ρ → KS F D3 D2 → t2 W D2 σ H
def SimEX (K : PySem.W.Frag) (t2 : WX → TE) (t3 : E3X → T3E) : Prop :=
  ∀ (F : Fr) (U : US) (ρ : En) (σ : St) (H : Hp) (X3 : E3X) (W : WX) (Q3 : Rs → En → Prop) (Q2 : VK), F.K = K → KX F X3 W → Rel F U ρ σ H → t3 X3 ρ Q3 → KE F U ρ σ H Q3 Q2 → t2 W σ H Q2
def E3X.under (X3 : E3X) (ρ0 : En) (r : Rs) : E3X := fun C fs ρ => okL ρ0 r ρ ∧ X3 C fs (unlockE ρ0 r ρ)
section
variable {F : Fr} {U U2 : US} {ρ ρ' ρ2 : En} {σ σ2 : St} {H H' H2 : Hp} {K : PySem.W.Frag}
theorem KX.under {X3 : E3X} {W : WX} (k : KX F X3 W) (R : Rel F U ρ σ H) (r : Rs) : KX (F.at U (lockE ρ r) σ H) (X3.under ρ r) W :=
  ⟨fun U' ρ' σ' H' C dd fs gs R' h1 h2 h3 q => k.ex _ _ _ _ C dd fs gs (loopOut R r R' q.1) h1 h2 h3 q.2⟩
theorem simLiftS {t : TS} {f : T3S} (h : SimS K t f) : SimSX K (fun _ => t) (fun _ => f) := fun F U ρ σ H X3 W D3 D2 e kx R q k => h F U ρ σ H D3 D2 e R q k
theorem simLiftE {t : TE} {f : T3E} (h : SimE K t f) : SimEX K (fun _ => t) (fun _ => f) := fun F U ρ σ H X3 W Q3 Q2 e kx R q k => h F U ρ σ H Q3 Q2 e R q k
theorem simSeqX {t u : WX → TS} {f g : E3X → T3S} (h : SimSX K t f) (h' : SimSX K u g) : SimSX K (fun W => tSeq (t W) (u W)) (fun X3 => sSeq (f X3) (g X3)) := fun F U ρ σ H X3 W D3 D2 e kx R q k =>
  h F U ρ σ H X3 W { D3 with nx := g X3 D3 } { D2 with nx := u W D2 } e kx R q ⟨fun U ρ σ H R q => h' F U ρ σ H X3 W D3 D2 e kx R q k, k.bk, k.ct, k.rt, k.ro, k.rf⟩
theorem simIfX {c : TT} {t u : WX → TS} {c3 : T3T} {f g : E3X → T3S} (hc : SimT K c c3) (h : SimSX K t f) (h' : SimSX K u g) : SimSX K (fun W => tIfS c (t W) (u W)) (fun X3 => sIf c3 (f X3) (g X3)) := fun F U ρ σ H X3 W D3 D2 e kx R q k =>
  hc F U ρ σ H _ _ e R q fun b ρ1 H1 R1 s1 h1 => by
    cases b with
    | true => exact h F U ρ1 σ H1 X3 W D3 D2 e kx R1 h1 k
    | false => exact h' F U ρ1 σ H1 X3 W D3 D2 e kx R1 h1 k
theorem simWhileX {c : TT} {tb : WX → TS} {c3 : T3T} {tb3 : E3X → T3S} (hc : SimT K c c3) (hb : SimSX K tb tb3) : SimSX K (fun W => tWhile c (tb W)) (fun X3 => sWhile c3 (tb3 X3)) := by
  intro F U ρ σ H X3 Wx D3 D2 e kx R q k
  obtain ⟨W, ⟨m, w⟩, q⟩ := q
  refine ⟨fun m σ' H' => ∃ U' ρ', Rel F U' ρ' σ' H' ∧ W m ρ', ⟨m, U, ρ, R, w⟩, ?_⟩
  rintro m σ' H' ⟨U', ρ', R', w'⟩
  refine hc F U' ρ' σ' H' _ _ e R' (q m ρ' w') fun b ρ1 H1 R1 s1 h1 => ?_
  cases b with
  | false => exact k.nx _ _ _ _ R1 h1
  | true =>
    refine ⟨fun σ2 H2 => ∃ m', m' < m ∧ ∃ U2 ρ2, Rel F U2 ρ2 σ2 H2 ∧ W m' ρ2, fun σ2 H2 ⟨m', hm, z⟩ => ⟨m', hm, z⟩, ?_⟩
    refine hb F U' ρ1 σ' H1 X3 Wx _ _ e kx R1 h1 ⟨fun U4 ρ4 σ4 H4 R4 ⟨m', hm, z⟩ => ⟨m', hm, U4, ρ4, R4, z⟩, k.nx, fun U4 ρ4 σ4 H4 R4 ⟨m', hm, z⟩ => ⟨m', hm, U4, ρ4, R4, z⟩, k.rt, k.ro, k.rf⟩
def sForX (w : T3I) (g : T3G) (tb : E3X → T3S) : E3X → T3S := fun X3 E ρ => w ρ fun it ρ1 => forL g (tb (X3.under ρ1 it.r)) (E.under ρ1 it.r) it.items (lockE ρ1 it.r)
theorem simForX {wk : Bool} {w : TI} {g : TG} {tb : WX → TS} {w3 : T3I} {g3 : T3G} {tb3 : E3X → T3S} {ix : List Nat} (hw : SimI K wk w w3) (hg : SimG K wk g g3 ix) (hb : SimSX K tb tb3) : SimSX K (fun W => tFor w g (tb W)) (sForX w3 g3 tb3) := by
  intro F U ρ σ H X3 Wx D3 D2 e kx R q k
  refine hw F U ρ σ H _ _ e R q fun J it ρ1 H1 R1 s1 jok h1 => ?_
  have Rf := loopIn R1 it.r
  have ku := k.under R1 it.r
  have kxu := kx.under R1 it.r
  refine ⟨fun i m σ' H' => m = it.items.length - i ∧ i ≤ it.items.length ∧ ∃ U' ρ', Rel (F.at U (lockE ρ1 it.r) σ H1) U' ρ' σ' H' ∧ forL g3 (tb3 (X3.under ρ1 it.r)) (D3.under ρ1 it.r) (it.items.drop i) ρ', ⟨_, rfl, Nat.zero_le _, U, _, Rf, h1⟩, ?_⟩
  rintro i m σ' H' ⟨rfl, hi, U', ρ', R', q'⟩
  have eK : (F.at U (lockE ρ1 it.r) σ H1).K = K := e
  obtain ⟨j1, j2⟩ := jok _ U' ρ' σ' H' eK R' R'.pres0 R'.keep i
  by_cases hl : i < it.items.length
  · right
    obtain ⟨d, hd⟩ : ∃ d, it.items[i]? = some d := ⟨_, List.getElem?_eq_getElem hl⟩
    have ed : it.items.drop i = d :: it.items.drop (i + 1) := by
      rw [List.drop_eq_getElem_cons hl]
      congr 1
      rw [List.getElem?_eq_getElem hl] at hd
      exact Option.some.inj hd
    rw [ed] at q'
    obtain ⟨g1, g2⟩ := j1 d hd
    refine ⟨g1, fun σ2 H2 => ∃ U2 ρ2, Rel (F.at U (lockE ρ1 it.r) σ H1) U2 ρ2 σ2 H2 ∧ forL g3 (tb3 (X3.under ρ1 it.r)) (D3.under ρ1 it.r) (it.items.drop (i + 1)) ρ2, fun σ2 H2 z => ⟨it.items.length - (i + 1), by omega, rfl, hl, z⟩, fun x H3 hy => ?_⟩
    obtain ⟨ex, rx⟩ := g2 x H3 hy
    rw [← eK] at rx
    refine hg _ U' ρ' σ' H3 d x _ _ eK (R'.ext ex) rx q' fun ρ3 σ3 R3 _ _ q3 => ?_
    refine hb _ U' ρ3 σ3 H3 _ Wx _ _ eK kxu R3 q3 ⟨fun U4 ρ4 σ4 H4 R4 q4 => ⟨U4, ρ4, R4, q4⟩, ku.nx, fun U4 ρ4 σ4 H4 R4 q4 => ⟨U4, ρ4, R4, q4⟩, ku.rt, ku.ro, ku.rf⟩
  · left
    have e2 : i = it.items.length := by omega
    subst e2
    rw [List.drop_length] at q'
    exact ⟨j2 (Nat.le_refl _), ku.nx _ _ _ _ R' q'⟩
theorem simDropX {t : WX → TE} {f : E3X → T3E} (h : SimEX K t f) : SimSX K (fun W => tDrop (t W)) (fun X3 => sDrop (f X3)) := fun F U ρ σ H X3 W D3 D2 e kx R q k =>
  h F U ρ σ H X3 W _ _ e kx R q fun r v ρ1 H1 R1 s1 q1 h1 => k.nx U ρ1 σ H1 R1 h1
theorem simAsgX {t : WX → TE} {f : E3X → T3E} {g : TG} {g3 : T3G} {is : List Nat} (h : SimEX K t f) (hg : SimG K false g g3 is) : SimSX K (fun W => tAsg (t W) g) (fun X3 => sAsg (f X3) g3) := fun F U ρ σ H X3 W D3 D2 e kx R q k =>
  h F U ρ σ H X3 W _ _ e kx R q fun r v ρ1 H1 R1 s1 q1 h1 => by
    cases r with
    | sl i => exact h1.elim
    | bx _ _ _ => exact h1.elim
    | val d => exact hg F U ρ1 σ H1 d v _ _ e R1 (.inl q1) h1 fun ρ2 σ2 R2 _ _ q2 => k.nx U ρ2 σ2 H1 R2 q2
/-- return f(..), the result shared -/
def sRetV (f : T3E) : T3S := fun D ρ => f ρ fun r ρ1 => match r with
  | .val d => D.rt d ρ1
  | _ => False
theorem simRetX {t : WX → TE} {f : E3X → T3E} (h : SimEX K t f) : SimSX K (fun W => tRet (t W)) (fun X3 => sRetV (f X3)) := fun F U ρ σ H X3 W D3 D2 e kx R q k =>
  h F U ρ σ H X3 W _ _ e kx R q fun r v ρ1 H1 R1 s1 q1 h1 => by
    cases r with
    | val d => exact k.rt U ρ1 σ H1 d v R1 q1 h1
    | bx i f b => exact h1.elim
    | sl i => exact h1.elim

/-! ### defs that may raise -/
abbrev SX := List D → (D → List D → Prop) → (D → List D → Prop) → (Addr → List (Str × D) → List D → Prop) → Prop
def LiftX (K : PySem.W.Frag) (ms : List Md) (sp : SX) : Sp := fun vs H Q E => ∃ (U : US) (ds : List D) (QR QO : D → List D → Prop) (QX : Addr → List (Str × D) → List D → Prop), ArgsOk K H U ms ds vs ∧ sp ds QR QO QX ∧
  (∀ v H' U' d ds', After K H U ms ds vs H' U' ds' → Rp K H' U' d v → QR d ds' → Q v H') ∧
  (∀ a H' U' d ds', After K H U ms ds vs H' U' ds' → TopW K H' U' d a → U' a → H a = none → QO d ds' → Q (.ref a) H') ∧
  (∀ C dd fs gs H' U' ds', After K H U ms ds vs H' U' ds' → H' dd = some (.xd gs) → ¬ U' dd → RpF K H' U' fs gs → QX C fs ds' → E (.ref C) (some dd) H')
def endX (ms : List Md) (ds : List D) (QX : Addr → List (Str × D) → List D → Prop) : E3X := fun C fs ρ => wo (fin ms ds ρ) fun ds' => QX C fs ds'
theorem body3X {t2 : WX → TS} {t3 : E3X → T3S} {ms : List Md} {sp : SX} {N : List Str} {n : Nat} (hs : SimSX K t2 t3) (hn : N.length = ms.length + n) (hb : ∀ ds QR QO QX, sp ds QR QO QX → ds.length = ms.length → t3 (endX ms ds QX) (endE ms ds QR QO) (startE n ms ds)) :
    ∀ vs H Q E, LiftX K ms sp vs H Q E → t2 (fun cls d _ H => E cls d H) { nx := fun _ H' => Q .non H', rt := Q } (L2.start N vs) H := by
  intro vs H Q E ⟨U, ds, QR, QO, QX, A, h, h1, h2, h3⟩
  have R := Rel.enter (N := N) (n := n) A (by rw [hn, A.l1])
  have kx : KX (frE K H U (startE n ms ds) (L2.start N vs)) (endX ms ds QX) (fun cls d _ H => E cls d H) := ⟨fun U' ρ' σ' H' C dd fs gs R' q1 q2 q3 q => by
    obtain ⟨ds', e, q⟩ := wo_out q
    exact h3 C dd fs gs H' U' ds' (R'.leave A e) q1 q2 q3 q⟩
  refine hs _ U _ _ H (endX ms ds QX) _ (endE ms ds QR QO) _ rfl kx R (hb ds QR QO QX h (A.l2.trans A.l1.symm)) ⟨fun U' ρ' σ' H' R' q => ?_, fun _ _ _ _ _ q => q.elim, fun _ _ _ _ _ q => q.elim, fun U' ρ' σ' H' d v R' rp q => ?_, fun U' ρ' σ' H' d a i R' e1 e2 q => ?_, fun U' ρ' σ' H' d a R' f q => ?_⟩
  · obtain ⟨ds', e, q⟩ := wo_out q
    exact h1 .non H' U' .non ds' (R'.leave A e) rp_non q
  · obtain ⟨ds', e, q⟩ := wo_out q
    exact h1 v H' U' d ds' (R'.leave A e) rp q
  · have q : (match noPab ms with | true => wo (fin ms ds ρ') fun ds' => QO d ds' | false => False) := q
    cases np : noPab ms with
    | false => rw [np] at q; exact q.elim
    | true =>
      rw [np] at q
      obtain ⟨ds', e, q⟩ := wo_out q
      obtain ⟨b, eb, u, t⟩ := R'.slot i _ _ e1 e2
      cases eb
      refine h2 a H' U' d ds' (R'.leave A e) t u ?_ q
      rcases R'.new a (Own.root e1 rfl e2) with z | z
      · exfalso
        obtain ⟨j, m, dj, v, k1, k2, k3, k4⟩ := own_start A z
        have w : m.isW = true := sl_isW.symm.trans k4.1
        cases m <;> first | (cases w; done) | exact noPab_at np k1 | skip
        have hv : v = .ref a := by
          rcases k4.2 with z | z
          · cases z; rfl
          · cases z
        subst hv
        have hl : j < ds'.length := by
          have := (List.getElem?_eq_some_iff.mp k2).1
          rw [fin_len e]; exact this
        have hp := fin_par e k1 rfl (List.getElem?_eq_getElem hl)
        obtain ⟨_, el⟩ := R'.lock j _ _ hp rfl
        have el : σ'[j]? = some (some (.ref a)) := el.trans (start_arg k3)
        have := R'.inj i j _ _ _ _ a e1 hp e2 el ⟨rfl, .inl rfl⟩ ⟨rfl, .inl rfl⟩
        subst this
        rw [e1] at hp; cases hp
      · exact z
  · have q : (match noPab ms with | true => wo (fin ms ds ρ') fun ds' => QO d ds' | false => False) := q
    cases np : noPab ms with
    | false => rw [np] at q; exact q.elim
    | true =>
      rw [np] at q
      obtain ⟨ds', e, q⟩ := wo_out q
      exact h2 a H' U' d ds' (R'.leave A e) f.top f.u f.new q
/-- f(..), which may raise -/
def eCallX (ms : List Md) (sp : SX) (g : T3A) : E3X → T3E := fun X3 ρ Q => g ρ fun rs ρ1 => apart ms rs = true ∧ wo (argsD ms rs ρ1) fun ds => sp ds (fun d ds' => Q (.val d) (updE ms rs ds' ρ1)) (fun d ds' => Q (.val d) (updE ms rs ds' ρ1)) fun C fs ds' => X3 C fs (updE ms rs ds' ρ1)
theorem callX {ms : List Md} {sp : SX} {rs : List Rs} {vs : List V} {ds : List D} {ρ1 : En} {H1 : Hp} {Q3 : Rs → En → Prop} {Q2 : VK} {X3 : E3X} {W : WX} (np : noPab ms = true) (kx : KX F X3 W) (R : Rel F U ρ σ H) (s1 : Stp ρ σ H ρ1 H1) (R1 : Rel F U ρ1 σ H1) (q1 : RVs F U σ H1 rs vs) (ap : apart ms rs = true) (ed : argsD ms rs ρ1 = some ds)
    (h1 : sp ds (fun d ds' => Q3 (.val d) (updE ms rs ds' ρ1)) (fun d ds' => Q3 (.val d) (updE ms rs ds' ρ1)) fun C fs ds' => X3 C fs (updE ms rs ds' ρ1)) (k : KE F U ρ σ H Q3 Q2) : LiftX F.K ms sp vs H1 Q2 (WE W σ) := by
  obtain ⟨AO, own⟩ := args_ok R1 q1 ed ap
  refine ⟨U, ds, _, _, _, AO, h1, fun v H' U' d ds' A rp q => ?_, fun a H' U' d ds' A t u nw q => ?_, fun C dd fs gs H' U' ds' A e1 e2 e3 q => ?_⟩
  · obtain ⟨R2, S2⟩ := R1.afterS q1 ed ap (sameB_no np) A
    have up := A.upA AO (sameB_no np)
    have R3 : Rel F U (updE ms rs ds' ρ1) σ H' := R2.shrink up R.up fun a z => R1.ownU (S2.own a z)
    refine k (.val d) v _ _ R3 (s1.trans S2) ?_ q
    exact Rp.pres (fun a o h n => ⟨h, fun z => n (up a z)⟩) d v rp
  · obtain ⟨R2, S2⟩ := R1.afterS q1 ed ap (sameB_no np) A
    have up := A.upA AO (sameB_no np)
    have R3 : Rel F U (updE ms rs ds' ρ1) σ H' := R2.shrink up R.up fun a z => R1.ownU (S2.own a z)
    refine k (.val d) (.ref a) _ _ R3 (s1.trans S2) ?_ q
    have p : Pres H' U' H' U := fun a o h n => ⟨h, fun z => n (up a z)⟩
    have nU : ¬ U a := fun z => by
      obtain ⟨o, ho⟩ := R1.tr a z
      rw [nw] at ho; cases ho
    exact rp_of_top (t.pres p fun _ h => h) nU
  · exact kx.ex U' _ σ H' C dd fs gs (R1.after q1 ed ap A).1 e1 e2 e3 q
theorem simCallX {ms : List Md} {sp : SX} {u : TA} {g : T3A} (np : noPab ms = true) (h : SimA K u g) : SimEX K (fun W => tCallS (LiftX K ms sp) (WE W) u) (eCallX ms sp g) := by
  intro F U ρ σ H X3 W Q3 Q2 e kx R q k
  refine h F U ρ σ H _ _ e R q fun rs vs ρ1 H1 R1 s1 q1 ⟨ap, h1⟩ => ?_
  obtain ⟨ds, ed, h1⟩ := wo_out h1
  subst e
  exact callX np kx R s1 R1 q1 ap ed h1 k
end
end L3

set_option Elab.async false
set_option linter.all false
set_option maxRecDepth 100000
/-! several clauses 'except C as n' -/
namespace L2
open PySem PySem.Spec PyProof.Rows
def wManyA (K : PySem.W.Frag) (Wout : WX) (D : Ends) : List (Value × Nat × (Addr → Value → Option Addr → TS)) → WX
  | [] => Wout
  | (c, i, ts) :: r => fun cls d σ H => ∃ b, PySem.W.exmOne K cls c = some b ∧ (b = true → ∀ a, H a = none → ts a cls d { nx := fun σ' H' => D.nx (σ'.set i none) H', rt := D.rt, bk := fun σ' H' => D.bk (σ'.set i none) H', ct := fun σ' H' => D.ct (σ'.set i none) H' } (σ.set i (some (.ref a))) H) ∧ (b = false → wManyA K Wout D r cls d σ H)
inductive HdsA (X : Cx) : List ExceptHandler → List (Value × Nat × (Addr → Value → Option Addr → TS)) → Prop
  | nil : HdsA X [] []
  | cons {x n : Str} {c : Value} {i : Nat} {ts : Addr → Value → Option Addr → TS} {b₀ : Stmt} {suite : List Stmt} {np pos' : Pos} {hds : List ExceptHandler} {l : List (Value × Nat × (Addr → Value → Option Addr → TS))} (hc : Names X x c) (hi : X.N[i]? = some n) (hln : X.env.kindOf n = some .local)
      (hsu : ∀ (a : Addr) (oe : Obj) (cls : Value) (d : Option Addr) (pn : List (Addr × Obj)), Zc cls d oe → (∃ vs, oe.data = .fields vs) → PSs (X.suite a ((a, oe) :: pn)) (b₀ :: suite) (ts a cls d)) (r : HdsA X hds l) :
      HdsA X (.ExceptHandler (some (.Name x np)) (some n) (b₀ :: suite) pos' :: hds) ((c, i, ts) :: l)
section
variable {X : Cx} {body : List Stmt} {h₀ : ExceptHandler} {hds : List ExceptHandler} {l : List (Value × Nat × (Addr → Value → Option Addr → TS))} {pos : Pos} {tb : WX → TS} {Wout : WX}
theorem ps_try_manyA (hs : X.stack = X.env :: X.outer) (hf : X.env.frame = some X.env.locals) (hN : X.N.Nodup) (tk : Takes X Wout)
    (hb : ∀ (W : WX) (pn : List (Addr × Obj)) (xe : Value → Shared → Prop), Takes (X.tr pn xe) W → PassesOwn (model X.prog X.w) X.A X.env xe → PSs (X.tr pn xe) body (tb W))
    (hh : HdsA X (h₀ :: hds) l) : PS X (.Try body (h₀ :: hds) [] [] pos) (fun D σ H => tb (wManyA X.K Wout D l) D σ H) := by
  refine ⟨fun pins s σ H D I h => ?_⟩
  have ok := I.ok
  have hfr : X.A.frames = some (X.env :: X.outer) := by rw [ok.frames, hs]
  refine wpAny_Try_except ?_
  refine wpAny_mono ((hb (wManyA X.K Wout D l) (X.pn ++ pins) (fun e s₁ => wpAny (model X.prog X.w) X.A (noteFrame e X.env) (fun _ s₂ => wpAny (model X.prog X.w) X.A (setFlight e none) (fun _ s₃ =>
    wpAny (model X.prog X.w) X.A (handleBy e X.env (h₀ :: hds)) (SP X pins D) X.xe s₃) X.xe s₂) X.xe s₁) (fun u s' xx => ?_) PassesOwn.looking).run [] s σ H D (I.toTry _) h) (fun f s1 hsp => ?_) (fun e s1 he => he)
  · obtain ⟨a, B, sI, pins', σ', H', cls, d, rfl, J', nb, up, sky, na, os, ag, w⟩ := xx
    have J : Inv X pins σ' H' sI := J'.ofTry ok
    have sky' : Sky B (X.env :: X.outer) a (Zc cls d) X.env.locals s'.heap := by rw [← hs]; exact sky
    show wpAny (model X.prog X.w) X.A (noteFrame (.ref a) X.env) _ _ _
    refine Sky.land Zc.steady hfr hf sky' fun h3 fl3 up3 => ?_
    have J3 : Inv X pins σ' H' { s' with heap := h3 } := J.landed nb fl3.1 (up.trans up3) os ag
    obtain ⟨oe3, vs3, he3, hz3, hd3⟩ := fl3.there
    have notFr : ∀ {h : Heap} {o : Obj} {vs : Array Value}, h.FunFrames B (X.env :: X.outer) → h.get? a = some o → o.data = .fields vs → a ∉ frs (X.env :: X.outer) := fun {h o vs} ff e dd hm => by
      obtain ⟨_, o', e', hnf⟩ := ff.mem hm
      rw [e] at e'; cases e'
      exact hnf _ dd
    have nfr := notFr fl3.2.2.1 he3 hd3
    have nL : a ≠ X.env.locals := fun z => nfr (List.mem_filterMap.mpr ⟨X.env, List.mem_cons_self, by rw [hf, z]⟩)
    have nF : a ∉ X.fs := fun hm => by
      obtain ⟨e, he, q⟩ := List.mem_filterMap.mp hm
      exact nfr (List.mem_filterMap.mpr ⟨e, List.mem_cons_of_mem _ he, q⟩)
    have S3 := J3.suite he3 hd3 na nL nF
    have go : ∀ {hds' : List ExceptHandler} {l' : List (Value × Nat × (Addr → Value → Option Addr → TS))}, HdsA X hds' l' → wManyA X.K Wout D l' cls d σ' H' →
        wpAny (model X.prog X.w) X.A (handleBy (.ref a) X.env hds') (SP X pins D) X.xe { s' with heap := h3 } := by
      intro hds' l' hk
      induction hk with
      | nil =>
        intro w
        refine wpAny_handleBy_nil ?_
        obtain ⟨k1, k2, k3, oe, vs, T, oT, ts', he, hz, hd, h1, hr⟩ := id fl3
        unfold PySem.passOn
        refine wpAny_bind (wpAny_field he hd h1 ?_)
        rw [if_neg (show ¬ ((Value.ref T == Value.none) = true) from by simp)]
        have fin : wpAny (model X.prog X.w) X.A (setFlight (.ref a) X.env.frame) (fun _ s4 => wpAny (model X.prog X.w) X.A (throw (.ref a) : Sem Flow) (SP X pins D) X.xe s4) X.xe { s' with heap := h3 } := by
          rw [hf]
          refine HandSPX.setFlight_upZ fl3 fun h4 hh4 up4 => wpAny_throw (tk _ _ ?_)
          exact ⟨a, B, sI, pins, σ', H', cls, d, rfl, J, nb, (up.trans up3).trans up4, .inr (.inr (by rw [hs]; exact hh4)), na, os, ag, w⟩
        first
          | exact wpAny_bind (wpAny_pure (wpAny_bind fin))
          | exact wpAny_bind fin
      | @cons x n c i ts b₀ suite np pos' hds2 l2 hc hi hln hsu r ih =>
        intro w
        have hloc : Loc X.env.scope n := .inl hln
        obtain ⟨b, hb1, hyes, hno⟩ := w
        refine wpAny_handleBy_cons (codeAny_handlers_test ?_) (by intro q; cases q)
        have LT : PySem.W.Looks (model X.prog X.w) h3 (typeOf (.ref a)) cls := fun A Q E s k q => wpAny_typeOf_ref (k _ _ he3) (by rw [hz3.1]; exact q)
        have LM := PySem.W.exm_one (M := model X.prog X.w) (J3.kIn) LT hb1
        have test : ∀ {Q : Value → Shared → Prop} {E : Value → Shared → Prop}, Q c { s' with heap := h3 } → wpAny (model X.prog X.w) (X.A.mark (some (.ref a))) (eval (.Name x np) X.env) Q E { s' with heap := h3 } := fun {Q E} q => by
          obtain ⟨hg, hdbg, hm | ⟨hm, hv, hnn⟩⟩ := hc
          · exact ld_glob (X := X.suite a ((a, oe3) :: (X.pn ++ pins))) S3 hg hm q hdbg
          · exact ld_blt (X := X.suite a ((a, oe3) :: (X.pn ++ pins))) S3 hg hm hv q hnn hdbg
        refine test (LM.here ?_)
        cases b with
        | true =>
          refine codeAny_handlers_suite_as ?_
          refine HandSPX.lands_againZ fl3 fun h4 fl4 up4 => ?_
          have J4 : Inv X pins σ' H' { s' with heap := h4 } := J.landed nb fl4.1 ((up.trans up3).trans up4) os ag
          obtain ⟨oe4, vs4, he4, hz4, hd4⟩ := fl4.there
          have S4 := J4.suite he4 hd4 na nL nF
          refine store_ok (X := X.suite a ((a, oe4) :: (X.pn ++ pins))) (v := .ref a) S4 hN hi hloc rfl (fun s5 S5 => ?_) (.inr hln)
          refine wpAny_mono ((hsu a oe4 cls d (X.pn ++ pins) hz4 ⟨_, hd4⟩).run [] s5 _ H' _ S5 (hyes rfl a na)) (fun f s6 hsp => ?_) (fun _ _ z => False.elim z)
          have end_ : ∀ {σ6 : St} {H6 : Hp} {Q : Shared → Prop}, Inv (X.suite a ((a, oe4) :: (X.pn ++ pins))) [] σ6 H6 s6 → (∀ s7, Inv X pins (σ6.set i none) H6 s7 → Q s7) →
              wpAny (model X.prog X.w) X.A (do bindName X.env n .none; unbindBehindTheSuite X.env n pos') (fun _ s7 => Q s7) X.xe s6 := fun {σ6 H6 Q} S6 hq => gone_ok (S6.unsuite ok) hN hi hln hq
          cases f with
          | next =>
            obtain ⟨σ6, H6, S6, q6⟩ := hsp
            exact end_ S6 fun s7 J7 => ⟨_, _, J7, q6⟩
          | brk =>
            obtain ⟨σ6, H6, S6, q6⟩ := hsp
            exact end_ S6 fun s7 J7 => ⟨_, _, J7, q6⟩
          | cont =>
            obtain ⟨σ6, H6, S6, q6⟩ := hsp
            exact end_ S6 fun s7 J7 => ⟨_, _, J7, q6⟩
          | ret u =>
            obtain ⟨v6, σ6, H6, S6, r6, q6⟩ := hsp
            exact end_ S6 fun s7 J7 => ⟨_, _, _, J7, r6, q6⟩
        | false =>
          show wpAny _ X.A (handleBy (.ref a) X.env hds2) _ _ _
          exact ih (hno rfl)
    exact go hh w
  · cases f with
    | next =>
      obtain ⟨σ', H', J', q⟩ := hsp
      exact wpAny_execs_nil ⟨σ', H', J'.ofTry ok, q⟩
    | brk =>
      obtain ⟨σ', H', J', q⟩ := hsp
      exact ⟨σ', H', J'.ofTry ok, q⟩
    | cont =>
      obtain ⟨σ', H', J', q⟩ := hsp
      exact ⟨σ', H', J'.ofTry ok, q⟩
    | ret u =>
      obtain ⟨v, σ', H', J', r, q⟩ := hsp
      exact ⟨v, σ', H', J'.ofTry ok, r, q⟩
end
end L2

set_option Elab.async false
set_option linter.all false
set_option maxRecDepth 100000
set_option maxHeartbeats 2000000
/-! isinstance of a caught exception that has fields -/
namespace PySem.W
open PySem PySem.Spec PySem.Calls PyProof.Rows
section
variable {prog : Program} {w : World} {A : Around} {E : Value → Shared → Prop} {s : Shared} {K : Frag} {x D : Addr} {ox : Obj} {od : Option Obj}
theorem findObj_dataX {C : Addr} {name : Str} {a g : Value} (hc : (clsIn K C).isSome = true) (ha : findIn K (.ref C) name = some (some a)) (hg : specialIn K a "__get__" = some (some g)) (ht : takesIn K a = some true) : findObj K C od name = some (.bind g a) := by
  obtain ⟨cd, hc⟩ := Option.isSome_iff_exists.mp hc
  unfold findObj
  rw [hc, Option.bind_some, ha, Option.bind_some]
  cases od <;> simp [hg, ht]
theorem kin_classX {Q : Option Value → Shared → Prop} (hga : findIn K (.ref D) "__getattribute__" = some (some (.builtin "BaseException.__getattribute__"))) (hgt : findIn K (.ref D) "__getattr__" = some none) (hsub : subIn K (.ref D) (.type "BaseException") = some true)
    (hdct : hasDictIn K D = true) (ha : findIn K (.ref D) "__class__" = some (some (.builtin "object.__class__")))
    (hn : specialIn K (.builtin "object.__class__") "__get__" = some (some (.builtin "getset_descriptor.__get__"))) (htk : takesIn K (.builtin "object.__class__") = some true) (hm : mroIn K D (.type "object") = some true)
    (X : K.In s.heap) (I : InstAt s.heap x ox D od) (h : Q (some (.ref D)) { s with toks := s.toks + 1 }) : wpAny (model prog w) A (getAttr? (.ref x) "__class__") Q E s := by
  have hf : findObj K D od "__class__" = some (.bind (.builtin "getset_descriptor.__get__") (.builtin "object.__class__")) := findObj_dataX (by obtain ⟨cd, hc, _⟩ := any_some hdct; rw [hc]; rfl) ha hn htk
  obtain ⟨hp, g, d, t, os⟩ := s
  have L0 := I.type (M := model prog w)
  have L1 := looks_findIn (M := model prog w) X hga
  have L2 := looks_findIn (M := model prog w) X hgt
  have L3 := looks_find (M := model prog w) X I hf
  have sub : Looks (model prog w) hp (isInstance (.ref x) (.type "BaseException")) true := L0.andThen (looks_subIn X hsub)
  have hx0 : (false && onTheHeap (Value.builtin "BaseException.__getattribute__")) = false := rfl
  have hx2 : (Value.builtin "BaseException.__getattribute__" == Value.builtin "object.__getattribute__") = false := by decide +kernel
  have hx1 : (onTheHeap (Value.ref D) && Value.builtin "BaseException.__getattribute__" == Value.builtin "object.__getattribute__") = false := by rw [hx2]; rfl
  unfold getAttr? getAttrBy? getAttrBy
  refine wpAny_bind (wpAny_mkText (wpAny_bind (wpAny_attempt (wpAny_holding (wpAny_bind (L0.at (wpAny_bind (L1.at ?_))))))))
  show wpAny _ _ (if (onTheHeap (Value.ref D) && Value.builtin "BaseException.__getattribute__" == Value.builtin "object.__getattribute__") = true then _ else _) _ _ _
  rw [hx1, if_neg Bool.false_ne_true]
  unfold getAttrByItsOwn hookBefore
  refine wpAny_bind ?_
  rw [if_pos (show onTheHeap (Value.ref D) = true from rfl)]
  refine L2.at ?_
  refine wpAny_bind (wpAny_attempt (wpAny_holding ?_))
  unfold callGetattribute
  rw [hx0, if_neg Bool.false_ne_true]
  unfold boundAndCalled
  rw [PySem.F.excAttr_ValueError.ga.bind (.ref x)]
  refine wpAny_bind (wpAny_pure ?_)
  show wpAny _ _ (call (.builtin "BaseException.__getattribute__") [.ref x, .str "__class__" t]) _ _ _
  refine wpAny_call (codeAny_call_builtin PySem.F.excAttr_ValueError.ga.plain PySem.F.entry_bexc_ga ?_)
  refine @check_slot (model prog w) _ _ ⟨hp, g, d, t + 1, os⟩ "BaseException.__getattribute__" "BaseException" "__getattribute__" (.ref x) [.str "__class__" t] [] _ (by decide +kernel) (by decide +kernel) sub (PySem.F.args_bexc_ga (.ref x) (.str "__class__" t)) ?_
  unfold Builtin.«object.__getattribute__»
  refine wpAny_bind (wpAny_of_eq (a := ((Value.ref x : Value), [Value.str "__class__" t])) (by first | rfl | (simp only [slotArgs]; rfl)) ?_)
  refine wpAny_bind (wpAny_pure (wpAny_bind (L0.at (wpAny_bind (L3.at ?_)))))
  show wpAny _ _ (holding [Value.builtin "object.__class__"] (call (.builtin "getset_descriptor.__get__") [.builtin "object.__class__", .ref x, .ref D]) >>= ret) _ _ _
  refine wpAny_bind (wpAny_holding (wpAny_call (class_get (s := ⟨hp, g, d, t + 1, os⟩) (ox := ox) (od := od) X I hm ?_)))
  refine wpAny_pure ?_
  show wpAny _ _ (handedOut (.ref D)) _ _ _
  rw [handedOut_of (v := .ref D) rfl]
  first
    | exact wpAny_pure (wpAny_pure h)
    | exact wpAny_pure h
    | exact wpAny_pure (wpAny_bind (wpAny_pure (wpAny_pure h)))
theorem kitx_excX (hga : findIn K (.ref D) "__getattribute__" = some (some (.builtin "BaseException.__getattribute__"))) (hgt : findIn K (.ref D) "__getattr__" = some none) (hsub : subIn K (.ref D) (.type "BaseException") = some true) (hdct : hasDictIn K D = true) (ha : findIn K (.ref D) "__class__" = some (some (.builtin "object.__class__")))
    (hn : specialIn K (.builtin "object.__class__") "__get__" = some (some (.builtin "getset_descriptor.__get__"))) (htk : takesIn K (.builtin "object.__class__") = some true) (hm : mroIn K D (.type "object") = some true) :
    KitX K (.ref x) (.ref D) (fun h => ∃ od, InstAt h x ox D od) where
  ty := fun _ _ _ ⟨_, I⟩ => I.type
  it := fun _ _ X _ => by
    obtain ⟨cdD, hcD, _⟩ := any_some hdct
    unfold clsIn at hcD
    split at hcD
    · rename_i c' d' cd' sl' ho
      intro A' Q' E' s' k q
      unfold isType loadHead
      exact wpAny_bind (wpAny_loadPart (k _ _ (X _ _ ho)) (wpAny_pure q))
    · cases hcD
  ne := fun h tp dd its n sl X htp => by
    obtain ⟨cdD, hcD, _⟩ := any_some hdct
    refine Bool.eq_false_iff.mpr fun q => ?_
    have e : D = tp := Value.ref.inj (beq_iff_eq.mp q)
    subst e
    unfold clsIn at hcD
    split at hcD
    · rename_i c' d' cd' sl' ho
      have z := (X _ _ ho).symm.trans htp
      cases z
    · cases hcD
  ca := fun X ⟨_, I⟩ k => kin_classX hga hgt hsub hdct ha hn htk hm X I k
end
end PySem.W
namespace L2
open PySem PySem.Spec PyProof.Rows
/-- isinstance(e, c), e the exception that the suite holds, dd its dict -/
def rIsX (K : PySem.W.Frag) (D a dd : Addr) : List V → Hp → VK → Prop := fun xs H Q => ∃ (c : V) (cv : Value) (b : Bool) (gs : List (Str × V)), xs = [.ref a, c] ∧ (∀ u, RelV c u → u = cv) ∧ H dd = some (.xd gs) ∧ PySem.W.kitOne K (.ref D) cv = some b ∧ Q (.bl b) H
theorem call_isX {X : Cx} {a D dd : Addr} {oe : Obj} {pn : List (Addr × Obj)} (C : ExcC X.K D) (hz : Zc (.ref D) (some dd) oe) (hf : ∃ vs, oe.data = .fields vs) : CallR (X.suite a ((a, oe) :: pn)) (.builtin "isinstance") (rIsX X.K D a dd) := by
  intro pins s σ H xs us Q I r h
  obtain ⟨c, cv, b, gs, rfl, hcv, hdd, e, q⟩ := h
  cases r with
  | cons rx rr =>
    cases rr with
    | cons rt rr =>
      cases rr
      cases rx
      have ec := hcv _ rt
      subst ec
      obtain ⟨hget, _⟩ := I.pin (a, oe) (List.mem_append.mpr (.inl List.mem_cons_self))
      obtain ⟨vs, hv⟩ := hf
      have hx : ObjOk X.prog X.w H s.heap dd (.xd gs) := I.hok dd _ hdd
      obtain ⟨mA, hns, hr⟩ := hx
      obtain ⟨od, ho, hl⟩ := lookIn_ns hns
      have J : PySem.W.InstAt s.heap a oe D (some od) := ⟨hget, hz.1, by unfold PySem.W.notCls; rw [hv] <;> rfl, by rw [hz.2]; exact ho⟩
      exact PySem.W.kia_one (PySem.W.kitx_excX C.hg C.hk C.hs C.hd C.ha C.hn C.ht C.hm) I.kIn ⟨_, J⟩ e (fun z => nomatch z) fun tk => ⟨.bl b, H, I.kept (t' := tk) fun _ _ z => z, rfl, q⟩
end L2

set_option Elab.async false
set_option linter.all false
set_option maxRecDepth 100000
namespace L3
open PySem PySem.Spec L2
/-! ### try / except C as n -/
/-- a clause: which classes it takes, its name's slot, its suite (of the exception, its dict, its class) -/
abbrev Hd3 := (Addr → Option Bool) × Nat × (Addr → Addr → Addr → T3S)
def suiteE (E : E3) (i : Nat) : E3 :=
  { nx := fun ρ => unl ρ i = true ∧ E.nx (ρ.set i .emp), rt := E.rt, ro := E.ro, bk := fun ρ => unl ρ i = true ∧ E.bk (ρ.set i .emp), ct := fun ρ => unl ρ i = true ∧ E.ct (ρ.set i .emp) }
def xMany (Wo : E3X) (E : E3) : List Hd3 → E3X
  | [] => Wo
  | (e, i, ts) :: r => fun C fs ρ => match e C with
    | some true => unl ρ i = true ∧ ∀ a dd, ts a dd C (suiteE E i) (ρ.set i (.shr (.exc a dd C fs)))
    | some false => xMany Wo E r C fs ρ
    | none => False
inductive HdsS (K : PySem.W.Frag) : List (Value × Nat × (Addr → Value → Option Addr → TS)) → List Hd3 → Prop
  | nil : HdsS K [] []
  | cons {c : Value} {i : Nat} {ts : Addr → Value → Option Addr → TS} {e : Addr → Option Bool} {t3 : Addr → Addr → Addr → T3S} {l : List (Value × Nat × (Addr → Value → Option Addr → TS))} {l3 : List Hd3} (he : ∀ C b, e C = some b → PySem.W.exmOne K (.ref C) c = some b) (hs : ∀ a dd C, SimS K (ts a (.ref C) (some dd)) (t3 a dd C)) (r : HdsS K l l3) : HdsS K ((c, i, ts) :: l) ((e, i, t3) :: l3)
section
variable {F : Fr} {U U2 : US} {ρ ρ' ρ2 : En} {σ σ2 : St} {H H' H2 : Hp} {K : PySem.W.Frag}
theorem kx_many {l : List (Value × Nat × (Addr → Value → Option Addr → TS))} {l3 : List Hd3} (h : HdsS K l l3) {X3 : E3X} {W : WX} {D3 : E3} {D2 : Ends} (e : F.K = K) (kx : KX F X3 W) (k : KS F D3 D2) : KX F (xMany X3 D3 l3) (wManyA K W D2 l) := by
  induction h with
  | nil => exact kx
  | @cons c i ts e' t3 l l3 he hs r ih =>
    refine ⟨fun U ρ σ H C dd fs gs R q1 q2 q3 q => ?_⟩
    have q : (match e' C with | some true => unl ρ i = true ∧ ∀ a dd, t3 a dd C (suiteE D3 i) (ρ.set i (.shr (.exc a dd C fs))) | some false => xMany X3 D3 l3 C fs ρ | none => False) := q
    cases ec : e' C with
    | none => rw [ec] at q; exact q.elim
    | some b =>
      rw [ec] at q
      refine ⟨b, he C b ec, fun eb a na => ?_, fun eb => ?_⟩
      · subst eb
        obtain ⟨u, q⟩ := q
        obtain ⟨s, h1, h2⟩ := unl_out u
        have rp : Rp F.K H U (.exc a dd C fs) (.ref a) := by
          simp only [Rp]
          exact ⟨trivial, gs, q1, q2, q3⟩
        refine hs a dd C F U _ _ H (suiteE D3 i) _ e (R.setShr h1 h2 rp) (q a dd) ⟨fun U' ρ' σ' H' R' z => ?_, fun U' ρ' σ' H' R' z => ?_, fun U' ρ' σ' H' R' z => ?_, k.rt, k.ro, k.rf⟩
        · obtain ⟨s', g1, g2⟩ := unl_out z.1
          exact k.nx _ _ _ _ (R'.setEmp g1 g2) z.2
        · obtain ⟨s', g1, g2⟩ := unl_out z.1
          exact k.bk _ _ _ _ (R'.setEmp g1 g2) z.2
        · obtain ⟨s', g1, g2⟩ := unl_out z.1
          exact k.ct _ _ _ _ (R'.setEmp g1 g2) z.2
      · subst eb
        exact ih.ex U ρ σ H C dd fs gs R q1 q2 q3 q
def sTryX (tb : E3X → T3S) (l3 : List Hd3) : E3X → T3S := fun X3 E ρ => tb (xMany X3 E l3) E ρ
theorem simTryX {tb : WX → TS} {tb3 : E3X → T3S} {l : List (Value × Nat × (Addr → Value → Option Addr → TS))} {l3 : List Hd3} (hb : SimSX K tb tb3) (hh : HdsS K l l3) : SimSX K (fun W => fun D σ H => tb (wManyA K W D l) D σ H) (sTryX tb3 l3) :=
  fun F U ρ σ H X3 W D3 D2 e kx R q k => hb F U ρ σ H (xMany X3 D3 l3) (wManyA K W D2 l) D3 D2 e (kx_many hh e kx k) R q k
/-! ### in the suite -/
/-- err.f, err the exception a that the suite holds in slot i -/
def eXf (a dd C C0 : Addr) (f : Str) (i : Nat) : T3E := fun ρ Q => match ρ[i]? with
  | some (.shr (.exc a1 dd1 C1 fs)) => (a1 = a ∧ dd1 = dd ∧ C1 = C ∧ C = C0) ∧ wo (fs.lookup f) fun d => Q (.val d) ρ
  | _ => False
theorem rpF_get : ∀ {fs : List (Str × D)} {gs : List (Str × V)} {f : Str} {d : D}, RpF K H U fs gs → fs.lookup f = some d → ∃ v, gs.lookup f = some v ∧ Rp K H U d v
  | [], _, _, _, _, e => by cases e
  | (k, x) :: fs, gs, f, d, h, e => by
    simp only [RpF] at h
    obtain ⟨v, r, rfl, h1, h2⟩ := h
    rw [List.lookup_cons] at e ⊢
    by_cases hk : f = k
    · subst hk
      simp only [beq_self_eq_true] at e ⊢
      cases e
      exact ⟨v, rfl, h1⟩
    · have hb : (f == k) = false := by simpa using hk
      rw [hb] at e ⊢
      exact rpF_get h2 e
theorem simXf {a dd C C0 : Addr} {f : Str} {i : Nat} : SimE K (tXf a (.ref C) (some dd) C0 f (tVar i)) (eXf a dd C C0 f i) := by
  intro F U ρ σ H Q3 Q2 e R q k
  have q : (match ρ[i]? with | some (.shr (.exc a1 dd1 C1 fs)) => (a1 = a ∧ dd1 = dd ∧ C1 = C ∧ C = C0) ∧ wo (fs.lookup f) fun d => Q3 (.val d) ρ | _ => False) := q
  cases h1 : ρ[i]? with
  | none => rw [h1] at q; exact q.elim
  | some s =>
    rw [h1] at q
    cases s <;> first | exact q.elim | skip
    rename_i d
    cases d <;> first | exact q.elim | skip
    obtain ⟨⟨rfl, rfl, rfl, rfl⟩, q5⟩ := q
    obtain ⟨d, el, q6⟩ := wo_out q5
    have hi : i < σ.length := by rw [← R.len]; exact (List.getElem?_eq_some_iff.mp h1).1
    have h3 : σ[i]? = some σ[i] := List.getElem?_eq_getElem hi
    obtain ⟨v, ev, rp⟩ := R.slot i _ _ h1 h3
    rw [ev] at h3
    simp only [Rp] at rp
    obtain ⟨rfl, gs, g1, g2, g3⟩ := rp
    obtain ⟨u, lu, ru⟩ := rpF_get g3 el
    exact ⟨_, h3, rfl, rfl, _, gs, u, rfl, g1, lu, k (.val d) u ρ H R (.refl R) ru q6⟩
/-- isinstance(err, T) -/
def cIsX (a dd C : Addr) (kit : Addr → D → Option Bool) (rs : List Rs) (ρ : En) (Q : Rs → En → Prop) : Prop := match rs with
  | [.val (.exc a1 dd1 C1 fs), .val tv] => (a1 = a ∧ dd1 = dd ∧ C1 = C) ∧ wo (kit C tv) fun b => Q (.val (.bl b)) ρ
  | _ => False
/-- what isinstance is told of the classes -/
def KitOk (K : PySem.W.Frag) (kit : Addr → D → Option Bool) : Prop := ∀ C tv b, kit C tv = some b → (∃ D, tv = .cls D ∧ PySem.W.kitOne K (.ref C) (.ref D) = some b) ∨ ∃ n, tv = .ty n ∧ PySem.W.kitOne K (.ref C) (.type n) = some b
theorem simIsX {a dd C : Addr} {kit : Addr → D → Option Bool} (hk : KitOk K kit) : SimCR K (rIsX K C a dd) (cIsX a dd C kit) := by
  intro F U ρ σ H vs rs Q3 Q2 e R q h k
  subst e
  unfold cIsX at h
  split at h
  · rename_i a1 dd1 C1 fs tv
    obtain ⟨⟨rfl, rfl, rfl⟩, h5⟩ := h
    obtain ⟨b, eb, h6⟩ := wo_out h5
    cases q with
    | cons q1 qs =>
      cases qs with
      | cons q2 qs =>
        cases qs
        have q1 : Rp F.K H U (.exc a1 dd1 C1 fs) _ := q1
        have q2 : Rp F.K H U tv _ := q2
        simp only [Rp] at q1
        obtain ⟨rfl, gs, g1, _, _⟩ := q1
        rcases hk C1 tv b eb with ⟨D, rfl, kb⟩ | ⟨n, rfl, kb⟩
        · simp only [Rp] at q2
          subst q2
          exact ⟨_, .ref D, b, gs, rfl, fun u ru => ru, g1, kb, k (.val (.bl b)) _ _ _ R (.refl R) (show Rp _ _ _ _ _ from rp_bl) h6⟩
        · simp only [Rp] at q2
          subst q2
          exact ⟨_, .type n, b, gs, rfl, fun u ru => ru, g1, kb, k (.val (.bl b)) _ _ _ R (.refl R) (show Rp _ _ _ _ _ from rp_bl) h6⟩
  · exact h.elim
end
end L3

set_option Elab.async false
set_option linter.all false
set_option maxRecDepth 100000
namespace L3
open PySem PySem.Spec L2
open PyProof.Rows (b2i envOfC)
/-! ### syntax and its reading, where it may raise -/
structure QEX {ι : Type} (K : PySem.W.Frag) (X : ι → Cx) (e : Expr) (f : E3X → T3E) : Prop where
  ex : ∃ t : WX → TE, (∀ i W, Takes (X i) W → PE (X i) e (t W)) ∧ SimEX K t f
structure QSX {ι : Type} (K : PySem.W.Frag) (X : ι → Cx) (st : Stmt) (f : E3X → T3S) : Prop where
  ex : ∃ t : WX → TS, (∀ i W, Takes (X i) W → PS (X i) st (t W)) ∧ SimSX K t f
structure QBX {ι : Type} (K : PySem.W.Frag) (X : ι → Cx) (st : List Stmt) (f : E3X → T3S) : Prop where
  ex : ∃ t : WX → TS, (∀ i W, Takes (X i) W → PSs (X i) st (t W)) ∧ SimSX K t f
section
variable {ι : Type} {X : ι → Cx} {K : PySem.W.Frag} {pos p p2 pos' apos cpos spos : Pos} {e a b c tg iter : Expr} {es : List Expr} {f g : E3X → T3E} {x y : Str} {st : Stmt} {sts body els : List Stmt} {fs gs : E3X → T3S} {ft : T3T} {fa : T3A}
theorem xs (h : QS K X st fs0) : QSX K X st (fun _ => fs0) := let ⟨_, a1, a2⟩ := h.ex; ⟨_, fun i _ _ => a1 i, simLiftS a2⟩
theorem xb (h : QB K X sts fs0) : QBX K X sts (fun _ => fs0) := let ⟨_, a1, a2⟩ := h.ex; ⟨_, fun i _ _ => a1 i, simLiftS a2⟩
theorem xn : QBX K X [] (fun _ => sNext) := xb bn
theorem xc (h1 : QSX K X st fs) (h2 : QBX K X sts gs) : QBX K X (st :: sts) (fun X3 => sSeq (fs X3) (gs X3)) := let ⟨t, a1, a2⟩ := h1.ex; let ⟨u, b1, b2⟩ := h2.ex; ⟨fun W => tSeq (t W) (u W), fun i W tk => pss_cons (a1 i W tk) (b1 i W tk), simSeqX a2 b2⟩
theorem x1 (h1 : QSX K X st fs) : QBX K X [st] fs := let ⟨t, a1, a2⟩ := h1.ex; ⟨t, fun i W tk => pss_one (a1 i W tk), a2⟩
theorem xexpr (he : QEX K X e f) (hs : ∀ i, swapsWith e none pos.line (X i).env = pure false := by exact fun _ => rfl) : QSX K X (.Expr e pos) (fun X3 => sDrop (f X3)) := let ⟨t, a1, a2⟩ := he.ex; ⟨fun W => tDrop (t W), fun i W tk => ps_expr (a1 i W tk) (hs i), simDropX a2⟩
theorem xret (he : QEX K X e f) : QSX K X (.Return (some e) pos) (fun X3 => sRetV (f X3)) := let ⟨t, a1, a2⟩ := he.ex; ⟨fun W => tRet (t W), fun i W tk => ps_ret (a1 i W tk), simRetX a2⟩
theorem xif (hc : QT K X c ft) (ha : QBX K X body fs) (hb : QBX K X els gs) : QSX K X (.If c body els pos) (fun X3 => sIf ft (fs X3) (gs X3)) := let ⟨t, a1, a2⟩ := hc.ex; let ⟨u, b1, b2⟩ := ha.ex; let ⟨v, c1, c2⟩ := hb.ex; ⟨fun W => tIfS t (u W) (v W), fun i W tk => ps_if (a1 i) (b1 i W tk) (c1 i W tk), simIfX a2 b2 c2⟩
theorem xset (n : Nat) (he : QEX K X e f) (hN : ∀ i, (X i).N[n]? = some x := by exact fun _ => rfl) (hnd : ∀ i, (X i).N.Nodup := by exact fun _ => by decide) (hx : ∀ i, Loc (X i).env.scope x := by first | exact fun _ => Or.inl rfl | exact fun _ => Or.inr rfl)
    (hs : ∀ i, swapsWith e (some (.Name x pos')) pos.line (X i).env = pure false := by exact fun _ => rfl) (hf : ∀ i, (X i).fn x = true ∨ (X i).env.scope.names.lookup x = some .local := by first | exact fun _ => Or.inl rfl | exact fun _ => Or.inr rfl) :
    QSX K X (.Assign [.Name x pos'] e pos) (fun X3 => sAsg (f X3) (gN n)) := let ⟨t, a1, a2⟩ := he.ex; ⟨fun W => tAsg (t W) (gName n), fun i W tk => ps_set (hnd i) (hN i) (hx i) (a1 i W tk) (hs i) (hf i), simAsgX a2 (simGN n)⟩
theorem xwhile (hc : QT K X c ft) (hb : QBX K X body fs) (hp : ∀ i, PassesOwn (model (X i).prog (X i).w) (X i).A (X i).env (X i).xe) : QSX K X (.While c body [] pos) (fun X3 => sWhile ft (fs X3)) :=
  let ⟨t, a1, a2⟩ := hc.ex; let ⟨u, b1, b2⟩ := hb.ex; ⟨fun W => tWhile t (u W), fun i W tk => ps_while (hp i) (a1 i) (b1 i W tk), simWhileX a2 b2⟩
theorem xfor {wk : Bool} {w : T3I} {g3 : T3G} {ix : List Nat} (hi : QI K X wk tg iter w) (hg : QG K X wk tg g3 ix) (hb : QBX K X body fs) (hp : ∀ i, PassesOwn (model (X i).prog (X i).w) (X i).A (X i).env (X i).xe) (hc : ∀ i, (X i).calm = true := by exact fun _ => rfl)
    (hs : ∀ i x, foldedSetIterable iter (X i).env x = pure x := by exact fun _ _ => rfl) :
    QSX K X (.For tg iter body [] pos) (sForX w g3 fs) := let ⟨t, a1, a2⟩ := hi.ex; let ⟨u, b1, b2⟩ := hg.ex; let ⟨v, c1, c2⟩ := hb.ex; ⟨fun W => tFor t u (v W), fun i W tk => ps_for (hp i) (hc i) (a1 i) (b1 i) (c1 i W tk) (hs i), simForX a2 b2 c2⟩
end
end L3

set_option Elab.async false
set_option linter.all false
set_option maxRecDepth 100000
namespace L3
open PySem PySem.Spec L2 PyProof.Rows
section
variable {X : Cx} {CX : CXT} {k : Nat} {f C : Addr} {fd : FuncData} {ps : List Str} {sp : Sp} {E : L2.St → XK} {x m : Str} {p pos apos : Pos} {e o : Expr} {es : List Expr} {ta : TE} {t : TA}
/-- as run_make, what is let out by the slots -/
theorem run_makeS {pins : List (Addr × Obj)} {σ : L2.St} {H : Hp} {s : Shared} {Q : VK} {us : List Value} {vs : List V} (M : Mk X.K C f) (F : FnOk X.prog X.w X.K X.mg X.base CX k f fd ps sp) (hr : Room (k + 1) X.A) (hb : Binds X.K fd ps [])
    (hx : PassesAt CX X σ (E σ)) (I : Inv X pins σ H s) (r : Vals vs us)
    (h : ∀ x dx, H x = none → H dx = none → dx ≠ x → sp (.ref x :: vs) (upd (upd H dx (.own x)) x (.ins C dx [])) (fun v H2 => v = .non ∧ Q (.ref x) H2) (E σ)) :
    wpAny (model X.prog X.w) X.A (call (.ref C) us) (EP X pins σ Q) X.xe s := by
  have hq := h (s.heap.objs.size + 1) s.heap.objs.size (I.hok.fresh (Nat.le_succ _)) (I.hok.fresh (Nat.le_refl _)) (Nat.ne_of_lt (Nat.lt_succ_self _))
  have I2 := Inv.made (C := C) I
  have r2 : Vals (V.ref (s.heap.objs.size + 1) :: vs) (Value.ref (s.heap.objs.size + 1) :: us) := .cons rfl r
  have hl : (Value.ref (s.heap.objs.size + 1) :: us).length = ps.length := by
    have e := r2.length
    rw [F.len _ _ _ _ hq] at e
    exact e.symm
  have b := hb _ (Value.ref (s.heap.objs.size + 1) :: us) I2.kIn (by rw [List.append_nil]; exact hl)
  rw [List.append_nil] at b
  refine wpAny_call (make_map (f := f) I.kIn M.makes M.init (beq_iff_eq.mp M.fn) (codeAny_mono (F.run _ X.stack _ _ ⟨Value.ref (s.heap.objs.size + 1) :: us, []⟩ (Value.ref (s.heap.objs.size + 1) :: us) _ _ (E σ) (hr.make C us [])
    (I2.env0.make C us []) b r2 hq) fun r s' hq' => ?_))
  cases r with
  | error e => exact hx pins _ _ e s' I2 hq'
  | ok fl =>
    cases fl with
    | ret u =>
      obtain ⟨v, H', I3, rv, ev, q3⟩ := I2.after hq'
      subst ev
      exact ⟨rv, ⟨V.ref (s.heap.objs.size + 1), H', I3, rfl, q3⟩⟩
    | next => exact False.elim hq'
    | brk => exact False.elim hq'
    | cont => exact False.elim hq'
def tMakeS (C : Addr) (sp : Sp) (E : L2.St → XK) (t : TA) : TE := fun σ H Q => t σ H fun vs H1 => ∀ x dx, H1 x = none → H1 dx = none → dx ≠ x →
  sp (.ref x :: vs) (upd (upd H1 dx (.own x)) x (.ins C dx [])) (fun v H2 => v = .non ∧ Q (.ref x) H2) (E σ)
theorem pe_makeS (M : Mk X.K C f) (F : FnOk X.prog X.w X.K X.mg X.base CX k f fd ps sp) (hr : Room (k + 1) X.A) (hg : Gl X x) (hm : X.mg x = some (.ref C)) (hb : Binds X.K fd ps []) (hx : ∀ σ, PassesAt CX X σ (E σ))
    (ha : PA X (e :: es) t) (hdb : (x == ("__debug__" : Str)) = false := by decide) (he : starEach (e :: es) X.env = (false, eval e X.env) :: starEach es X.env := by rfl) (hpl : (backTo pos (starEach es X.env)).any (·.1) = false := by rfl) :
    PE X (.Call (.Name x p) (e :: es) [] pos) (tMakeS C sp E t) := by
  refine ⟨fun pins s σ H Q I h => ?_⟩
  refine wpAny_Call_Name_kw (ld_glob I hg hm ?_ hdb)
  refine PySem.W.callWith_K (h₀ := X.base) I.ok.mod.kin M.kp (thn (ha.run pos pins s σ H _ I h) fun us s1 ⟨vs, H1, I1, r, q⟩ => ⟨I1.kIn, ?_⟩) he hpl
  exact run_makeS M F hr hb (hx σ) I1 r q
/-- a def that raises nothing when asked so -/
theorem FnOk.down {P : Program} {w : World} {K : PySem.W.Frag} {mg : Str → Option Value} {base : Heap} {sp' : Sp} (F : FnOk P w K mg base (L2.CX P w) k f fd ps sp) (h : ∀ vs H Q E, sp' vs H Q E → sp vs H Q fun _ _ _ => False) : FnOk P w K mg base CX0 k f fd ps sp' := by
  refine ⟨fun vs H Q E q => F.len _ _ _ _ (h _ _ _ _ q), fun A outer s H args us vs Q E hr e0 hb r q => ?_⟩
  refine codeAny_mono (F.run A outer s H args us vs Q _ hr e0 hb r (h _ _ _ _ q)) fun r s' z => ?_
  cases r with
  | error e =>
    obtain ⟨_, _, _, _, _, _, _, _, _, _, _, _, z⟩ := z
    exact z.elim
  | ok fl => cases fl <;> exact z
end
end L3
namespace L3
open PySem PySem.Spec L2
open PyProof.Rows (b2i envOfC)
/-! ### defs that may raise -/
section
variable {P : Program} {w : World} {K : PySem.W.Frag} {mg : Str → Option Value} {base : Heap} {x gx qual : Str} {params : Arguments} {body : List Stmt} {scope : Scope} {st : Stmt} {f C : Addr} {fd : FuncData} {N ps : List Str} {k n : Nat} {ms : List Md} {sp : SX} {t3 : E3X → T3S} {m : Str}
abbrev CxDX (P : Program) (w : World) (K : PySem.W.Frag) (mg : Str → Option Value) (base : Heap) (N : List Str) (qual : Str) (scope : Scope) (f : Addr) : (Value × Around × List Env × Shared × Hp × XK) → Cx :=
  fun z => cxOf (L2.CX P w) P w K mg base N qual scope f z.1 z.2.1 z.2.2.1 z.2.2.2.1 z.2.2.2.2.1 z.2.2.2.2.2
abbrev CxRX (k : Nat) (P : Program) (w : World) (K : PySem.W.Frag) (mg : Str → Option Value) (base : Heap) (N : List Str) (qual : Str) (scope : Scope) (f : Addr) : {z : Value × Around × List Env × Shared × Hp × XK // Room k (z.2.1.deeper (envOfC qual scope z.2.2.2.1.heap.objs.size f z.1))} → Cx :=
  fun z => CxDX P w K mg base N qual scope f z.1
theorem passRX : ∀ i, PassesOwn (model (CxRX k P w K mg base N qual scope f i).prog (CxRX k P w K mg base N qual scope f i).w) (CxRX k P w K mg base N qual scope f i).A (CxRX k P w K mg base N qual scope f i).env (CxRX k P w K mg base N qual scope f i).xe := fun i => passes_of rfl
theorem fnX {dvs : List V} {kws : List (Str × V)} (F : FunD K x qual params body scope dvs kws f fd) (S : FnScope N ps scope) (hl : ps.length = ms.length) (hN : N.length = ms.length + n) (hw : QBX K (CxRX k P w K mg base N qual scope f) body t3)
    (hsp : ∀ ds QR QO QX, sp ds QR QO QX → ds.length = ms.length → t3 (endX ms ds QX) (endE ms ds QR QO) (startE n ms ds)) : FnOk P w K mg base (L2.CX P w) (k + 1) f fd ps (LiftX K ms sp) := by
  obtain ⟨t, h1, h2⟩ := hw.ex
  refine funD_ok F S (fun vs H Q E h => ?_) fun cdv A outer s H vs Q E hr h => ⟨t fun cls d _ H => E cls d H, h1 ⟨(cdv, A, outer, s, H, E), hr⟩ _ (takes_of rfl rfl rfl rfl), body3X h2 hN hsp vs H Q E h⟩
  obtain ⟨U, ds, QR, QO, QX, A, _⟩ := h
  rw [hl]; exact A.l1.symm
structure C3X (P : Program) (w : World) (K : PySem.W.Frag) (mg : Str → Option Value) (base : Heap) (k : Nat) (x : Str) (ms : List Md) (sp : SX) : Prop where
  ex : ∃ (f : Addr) (fd : FuncData) (ps : List Str), FnOk P w K mg base (L2.CX P w) k f fd ps (LiftX K ms sp) ∧ mg x = some (.ref f) ∧ PySem.W.keepIn K (.ref f) = true ∧ Binds K fd ps []
structure Me3X (P : Program) (w : World) (K : PySem.W.Frag) (mg : Str → Option Value) (base : Heap) (k : Nat) (C : Addr) (m : Str) (ms : List Md) (sp : SX) : Prop where
  ex : ∃ (f : Addr) (fd : FuncData) (ps : List Str), Cls K C ∧ Meth K C m f ∧ FnOk P w K mg base (L2.CX P w) k f fd ps (LiftX K ms sp) ∧ Binds K fd ps []
structure Mk3X (P : Program) (w : World) (K : PySem.W.Frag) (mg : Str → Option Value) (base : Heap) (k : Nat) (x : Str) (C : Addr) (ms : List Md) (sp : SX) : Prop where
  ex : ∃ (f : Addr) (fd : FuncData) (ps : List Str), Mk K C f ∧ FnOk P w K mg base (L2.CX P w) k f fd ps (LiftX K (.par :: ms) sp) ∧ mg x = some (.ref C) ∧ Binds K fd ps []
theorem lift_down {sp' : S3} (h : ∀ ds QR QO, sp' ds QR QO → sp ds QR QO fun _ _ _ => False) : ∀ vs H Q E, Lift K ms sp' vs H Q E → LiftX K ms sp vs H Q fun _ _ _ => False :=
  fun vs H Q E ⟨U, ds, QR, QO, A, q, r1, r2⟩ => ⟨U, ds, QR, QO, _, A, h _ _ _ q, r1, r2, fun _ _ _ _ _ _ _ _ _ _ _ z => z⟩
theorem C3X.down {sp' : S3} (c : C3X P w K mg base k x ms sp) (h : ∀ ds QR QO, sp' ds QR QO → sp ds QR QO fun _ _ _ => False) : C3 P w K mg base k x ms sp' :=
  let ⟨f, fd, ps, F, h1, h2, h3⟩ := c.ex; ⟨f, fd, ps, F.down (lift_down h), h1, h2, h3⟩
theorem Me3X.down {sp' : S3} (c : Me3X P w K mg base k C m ms sp) (h : ∀ ds QR QO, sp' ds QR QO → sp ds QR QO fun _ _ _ => False) : Me3 P w K mg base k C m ms sp' :=
  let ⟨f, fd, ps, h0, h1, F, h3⟩ := c.ex; ⟨f, fd, ps, h0, h1, F.down (lift_down h), h3⟩
theorem Mk3X.down {sp' : S3} (c : Mk3X P w K mg base k x C ms sp) (h : ∀ ds QR QO, sp' ds QR QO → sp ds QR QO fun _ _ _ => False) : Mk3 P w K mg base k x C ms sp' :=
  let ⟨f, fd, ps, h0, F, h1, h3⟩ := c.ex; ⟨f, fd, ps, h0, F.down (lift_down h), h1, h3⟩
theorem fkX (F : Df K x qual st f) (hb : BindN x qual st ps) (S : FnScope N ps (defScope st)) (hl : ps.length = ms.length) (hN : N.length = ms.length + n) (hw : QBX K (CxRX k P w K mg base N qual (defScope st) f) (defBody st) t3)
    (hsp : ∀ ds QR QO QX, sp ds QR QO QX → ds.length = ms.length → t3 (endX ms ds QX) (endE ms ds QR QO) (startE n ms ds)) : ∃ fd, FnOk P w K mg base (L2.CX P w) (k + 1) f fd ps (LiftX K ms sp) ∧ Binds K fd ps [] := by
  obtain ⟨fd, F⟩ := F.ex
  exact ⟨fd, fnX F S hl hN hw hsp, F.bindsN hb⟩
theorem ckX (F : ∃ f, Df K x qual st f ∧ mg gx = some (.ref f)) (hb : BindN x qual st ps) (S : FnScope N ps (defScope st)) (hl : ps.length = ms.length) (hN : N.length = ms.length + n) (hw : ∀ f, QBX K (CxRX k P w K mg base N qual (defScope st) f) (defBody st) t3)
    (hsp : ∀ ds QR QO QX, sp ds QR QO QX → ds.length = ms.length → t3 (endX ms ds QX) (endE ms ds QR QO) (startE n ms ds)) : C3X P w K mg base (k + 1) gx ms sp := by
  obtain ⟨f, F, hm⟩ := F
  obtain ⟨fd, h1, h2⟩ := fkX F hb S hl hN (hw f) hsp
  obtain ⟨_, F⟩ := F.ex
  exact ⟨f, fd, ps, h1, hm, F.kp, h2⟩
theorem me3X (c : Cls K C) (F : ∃ f, Df K x qual st f ∧ Meth K C m f) (hb : BindN x qual st ps) (S : FnScope N ps (defScope st)) (hl : ps.length = ms.length) (hN : N.length = ms.length + n) (hw : ∀ f, QBX K (CxRX k P w K mg base N qual (defScope st) f) (defBody st) t3)
    (hsp : ∀ ds QR QO QX, sp ds QR QO QX → ds.length = ms.length → t3 (endX ms ds QX) (endE ms ds QR QO) (startE n ms ds)) : Me3X P w K mg base (k + 1) C m ms sp := by
  obtain ⟨f, F, M⟩ := F
  obtain ⟨fd, h1, h2⟩ := fkX F hb S hl hN (hw f) hsp
  exact ⟨f, fd, ps, c, M, h1, h2⟩
theorem mk3X (F : ∃ f, Df K x qual st f ∧ Mk K C f ∧ mg gx = some (.ref C)) (hb : BindN x qual st ps) (S : FnScope N ps (defScope st)) (hl : ps.length = ms.length + 1) (hN : N.length = ms.length + 1 + n) (hw : ∀ f, QBX K (CxRX k P w K mg base N qual (defScope st) f) (defBody st) t3)
    (hsp : ∀ ds QR QO QX, sp ds QR QO QX → ds.length = ms.length + 1 → t3 (endX (.par :: ms) ds QX) (endE (.par :: ms) ds QR QO) (startE n (.par :: ms) ds)) : Mk3X P w K mg base (k + 1) gx C ms sp := by
  obtain ⟨f, F, M, hm⟩ := F
  obtain ⟨fd, h1, h2⟩ := fkX (ms := .par :: ms) F hb S hl hN (hw f) hsp
  exact ⟨f, fd, ps, M, h1, hm, h2⟩
end
section
variable {F : Fr} {U U2 : US} {ρ ρ' ρ2 : En} {σ σ2 : St} {H H' H2 : Hp} {K : PySem.W.Frag}
/-- C(..), which may raise; the new object is shared at once -/
def eMakeX (C : Addr) (ms : List Md) (sp : SX) (g : T3A) : E3X → T3E := fun X3 ρ Q => g ρ fun rs ρ1 => apart ms rs = true ∧ wo (argsD ms rs ρ1) fun ds => sp (.obj C [] :: ds) (fun r ds' => r.isNon = true ∧ match ds' with
  | o :: ds'' => Q (.val o) (updE ms rs ds'' ρ1)
  | [] => False) (fun _ _ => False) (fun C' fs ds' => match ds' with
  | _ :: ds'' => X3 C' fs (updE ms rs ds'' ρ1)
  | [] => False)
theorem simMakeX {C : Addr} {ms : List Md} {sp : SX} {u : TA} {g : T3A} (np : noPab ms = true) (h : SimA K u g) : SimEX K (fun W => tMakeS C (LiftX K (.par :: ms) sp) (WE W) u) (eMakeX C ms sp g) := by
  intro F U ρ σ H X3 W Q3 Q2 e kx R q k
  refine h F U ρ σ H _ _ e R q fun rs vs ρ1 H1 R1 s1 q1 ⟨ap, h1⟩ => ?_
  obtain ⟨ds, ed, h1⟩ := wo_out h1
  subst e
  obtain ⟨AO, own⟩ := args_ok R1 q1 ed ap
  intro x dx hx hd hne
  refine ⟨fun b => U b ∨ b = x, .obj C [] :: ds, _, _, _, make_args (rs := rs) R1 rfl AO own hx hd, h1, fun v H' U' d ds' A rp q => ?_, fun _ _ _ _ _ _ _ _ _ q => q.elim, fun C' dd fs gs H' U' ds' A e1 e2 e3 q => ?_⟩
  · obtain ⟨hnon, q⟩ := q
    refine ⟨isNon_rp hnon rp, ?_⟩
    cases ds' with
    | nil => exact q.elim
    | cons o ds'' =>
      have q : Q3 (.val o) (updE ms rs ds'' ρ1) := q
      obtain ⟨x', ex', ux, tx⟩ : SlotOk F.K H' U' (.par o) (some (.ref x)) := A.par 0 .par (.ref x) o rfl rfl rfl rfl
      cases ex'
      have A' := A.tail hx hd R1.tr fun a w => R1.ownU (own a w)
      have up := A'.upA AO (sameB_no np)
      obtain ⟨R2, S2⟩ := R1.afterS q1 ed ap (sameB_no np) A'
      have R3 : Rel F U (updE ms rs ds'' ρ1) σ H' := R2.shrink up R1.up fun a z => R1.ownU (S2.own a z)
      have p : Pres H' U' H' U := fun b o h n => ⟨h, fun z => n (up b z)⟩
      have nU : ¬ U x := fun z => by
        obtain ⟨o, ho⟩ := R1.tr x z
        rw [hx] at ho; cases ho
      exact k (.val o) (.ref x) _ _ R3 (s1.trans S2) (rp_of_top (tx.pres p fun _ h => h) nU) q
  · cases ds' with
    | nil => exact q.elim
    | cons o ds'' =>
      have q : X3 C' fs (updE ms rs ds'' ρ1) := q
      have A' := A.tail hx hd R1.tr fun a w => R1.ownU (own a w)
      exact kx.ex U' _ σ H' C' dd fs gs (R1.after q1 ed ap A').1 e1 e2 e3 q
end
end L3

set_option Elab.async false
set_option linter.all false
set_option maxRecDepth 100000
namespace L3
open PySem PySem.Spec L2
open PyProof.Rows (b2i envOfC)
section
variable {ι : Type} {X : ι → Cx} {K : PySem.W.Frag} {pos p np pos' apos cpos spos : Pos} {e a b c tg iter : Expr} {es : List Expr} {f g : E3X → T3E} {x y n m : Str} {st : Stmt} {sts body els suite : List Stmt} {b₀ : Stmt} {fs gs : E3X → T3S} {ft : T3T} {fa : T3A} {ms : List Md} {sp : SX} {k j : Nat} {C C0 : Addr}
theorem xcall (cf : ∀ i, C3X (X i).prog (X i).w K (X i).mg (X i).base k x ms sp) (hR : ∀ i, Room j (X i).A) (hk : k ≤ j) (ha : QA K X (e :: es) fa) (hK : ∀ i, (X i).K = K := by exact fun _ => rfl) (hg : ∀ i, Gl (X i) x := by exact fun _ => rfl) (hdb : (x == ("__debug__" : Str)) = false := by decide)
    (he : ∀ i, starEach (e :: es) (X i).env = (false, eval e (X i).env) :: starEach es (X i).env := by exact fun _ => rfl) (hpl : ∀ i, (backTo pos (starEach es (X i).env)).any (·.1) = false := by exact fun _ => rfl) (np : noPab ms = true := by rfl) :
    QEX K X (.Call (.Name x p) (e :: es) [] pos) (eCallX ms sp fa) :=
  let ⟨u, h1, h2⟩ := ha.ex
  ⟨fun W => tCallS (LiftX K ms sp) (WE W) u, fun i W tk => by
    obtain ⟨f, fd, ps, F, hm, kp, b⟩ := (cf i).ex
    have e := hK i
    subst e
    exact pe_callS F ((hR i).mono hk) (hg i) hm kp b (passAt tk) (h1 i) hdb (he i) (hpl i), simCallX np h2⟩
theorem xmake (cf : ∀ i, Mk3X (X i).prog (X i).w K (X i).mg (X i).base k x C ms sp) (hR : ∀ i, Room j (X i).A) (hk : k + 1 ≤ j) (ha : QA K X (e :: es) fa) (hK : ∀ i, (X i).K = K := by exact fun _ => rfl) (hg : ∀ i, Gl (X i) x := by exact fun _ => rfl) (hdb : (x == ("__debug__" : Str)) = false := by decide)
    (he : ∀ i, starEach (e :: es) (X i).env = (false, eval e (X i).env) :: starEach es (X i).env := by exact fun _ => rfl) (hpl : ∀ i, (backTo pos (starEach es (X i).env)).any (·.1) = false := by exact fun _ => rfl) (np : noPab ms = true := by rfl) :
    QEX K X (.Call (.Name x p) (e :: es) [] pos) (eMakeX C ms sp fa) :=
  let ⟨u, h1, h2⟩ := ha.ex
  ⟨fun W => tMakeS C (LiftX K (.par :: ms) sp) (WE W) u, fun i W tk => by
    obtain ⟨f, fd, ps, M, F, hm, b⟩ := (cf i).ex
    have e := hK i
    subst e
    exact pe_makeS M F ((hR i).mono hk) (hg i) hm b (passAt tk) (h1 i) hdb (he i) (hpl i), simMakeX np h2⟩

/-! ### try / except -/
abbrev TrX (X : ι → Cx) : {z : ι × List (Addr × Obj) × (Value → Shared → Prop) // PassesOwn (model (X z.1).prog (X z.1).w) (X z.1).A (X z.1).env z.2.2} → Cx := fun z => (X z.1.1).tr z.1.2.1 z.1.2.2
abbrev SuX (X : ι → Cx) (a dd C : Addr) : {z : ι × Obj × List (Addr × Obj) // Zc (.ref C) (some dd) z.2.1 ∧ ∃ vs, z.2.1.data = .fields vs} → Cx := fun z => (X z.1.1).suite a ((a, z.1.2.1) :: z.1.2.2)
structure QH (K : PySem.W.Frag) (X : ι → Cx) (hds : List ExceptHandler) (l3 : List Hd3) : Prop where
  ex : ∃ l, (∀ i, HdsA (X i) hds l) ∧ HdsS K l l3
theorem hn : QH K X [] [] := ⟨[], fun _ => .nil, .nil⟩
theorem hc {hds : List ExceptHandler} {l3 : List Hd3} {e : Addr → Option Bool} {t3 : Addr → Addr → Addr → T3S} (i : Nat) (hnm : ∀ i, (X i).mg x = some (.ref C0)) (he : ∀ C b, e C = some b → PySem.W.exmOne K (.ref C) (.ref C0) = some b)
    (hs : ∀ a dd C, QB K (SuX X a dd C) (b₀ :: suite) (t3 a dd C)) (r : QH K X hds l3) (hi : ∀ j, (X j).N[i]? = some n := by exact fun _ => rfl) (hln : ∀ j, (X j).env.kindOf n = some .local := by exact fun _ => rfl) (hg : ∀ i, Gl (X i) x := by exact fun _ => rfl) (hdb : (x == ("__debug__" : Str)) = false := by decide) :
    QH K X (.ExceptHandler (some (.Name x np)) (some n) (b₀ :: suite) pos' :: hds) ((e, i, t3) :: l3) := by
  obtain ⟨l, h1, h2⟩ := r.ex
  let ts : Addr → Value → Option Addr → TS := fun a cls d => match cls, d with
    | .ref C, some dd => Classical.choose (hs a dd C).ex
    | _, _ => tNever
  refine ⟨(.ref C0, i, ts) :: l, fun j => .cons ⟨hg j, hdb, .inl (hnm j)⟩ (hi j) (hln j) (fun a oe cls d pn hz hf => ?_) (h1 j), .cons he (fun a dd C => (Classical.choose_spec (hs a dd C).ex).2) h2⟩
  cases cls <;> first | exact pss_never | skip
  rename_i C
  cases d with
  | none => exact pss_never
  | some dd => exact (Classical.choose_spec (hs a dd C).ex).1 ⟨(j, oe, pn), hz, hf⟩
theorem xtry {h₀ : ExceptHandler} {hds : List ExceptHandler} {l3 : List Hd3} (hb : QBX K (TrX X) body fs) (hh : QH K X (h₀ :: hds) l3) (hnd : ∀ i, (X i).N.Nodup) (hs : ∀ i, (X i).stack = (X i).env :: (X i).outer := by exact fun _ => rfl) (hf : ∀ i, (X i).env.frame = some (X i).env.locals := by exact fun _ => rfl)
    (hK : ∀ i, (X i).K = K := by exact fun _ => rfl) : QSX K X (.Try body (h₀ :: hds) [] [] pos) (sTryX fs l3) :=
  let ⟨t, a1, a2⟩ := hb.ex
  let ⟨l, b1, b2⟩ := hh.ex
  ⟨fun W => fun D σ H => t (wManyA K W D l) D σ H, fun i W tk => hK i ▸ ps_try_manyA (hs i) (hf i) (hnd i) tk (fun W pn xe tk hp => a1 ⟨(i, pn, xe), hp⟩ W tk) (b1 i), simTryX a2 b2⟩
/-! ### in the suite -/
theorem qxf {dd : Addr} {a : Addr} {C : Addr} {fl : Str} (n : Nat) (T : XfC K C0) (hno : PySem.W.findIn K (.ref C0) fl = some none) (hK : ∀ i, (X i).K = K := by exact fun _ => rfl) (hN : ∀ i, (X i).N[n]? = some x := by exact fun _ => rfl) (hv : ∀ i, Vis (X i).env.scope x := by first | exact fun _ => Or.inl rfl | exact fun _ => Or.inr (Or.inl rfl) | exact fun _ => Or.inr (Or.inr rfl))
    (hb : ∀ i, attributeBase (.Name x p) fl (X i).env (eval (.Name x p) (X i).env) = eval (.Name x p) (X i).env := by exact fun _ => rfl) (hd : (x == ("__debug__" : Str)) = false := by decide) (hcd : (x == ("__classdict__" : Str)) = false := by decide) :
    QE K (SuX X a dd C) (.Attribute (.Name x p) fl pos) (eXf a dd C C0 fl n) :=
  ⟨_, fun z => pe_xf (by rw [hK]; exact T) (by rw [hK]; exact hno) z.2.1 z.2.2 (pe_var (X := (X z.1.1).suite a ((a, z.1.2.1) :: z.1.2.2)) (hN z.1.1) (hv z.1.1) hd hcd) (hb z.1.1), simXf⟩
/-- as rIsX, with what the class must say -/
def rIsX' (K : PySem.W.Frag) (D a dd : Addr) : List V → Hp → VK → Prop := fun xs H Q => ExcC K D ∧ rIsX K D a dd xs H Q
theorem call_isX' {Y : Cx} {a D dd : Addr} {oe : Obj} {pn : List (Addr × Obj)} (hz : Zc (.ref D) (some dd) oe) (hf : ∃ vs, oe.data = .fields vs) : CallR (Y.suite a ((a, oe) :: pn)) (.builtin "isinstance") (rIsX' Y.K D a dd) := by
  intro pins s σ H xs us Q I r h
  exact call_isX h.1 hz hf pins s σ H xs us Q I r h.2
def KitOk' (K : PySem.W.Frag) (kit : Addr → D → Option Bool) : Prop := ∀ C tv b, kit C tv = some b → ExcC K C ∧ ((∃ D, tv = .cls D ∧ PySem.W.kitOne K (.ref C) (.ref D) = some b) ∨ ∃ n, tv = .ty n ∧ PySem.W.kitOne K (.ref C) (.type n) = some b)
theorem simIsX' {a dd C : Addr} {kit : Addr → D → Option Bool} (hk : KitOk' K kit) : SimCR K (rIsX' K C a dd) (cIsX a dd C kit) := by
  intro F U ρ σ H vs rs Q3 Q2 e R q h k
  refine ⟨?_, simIsX (kit := kit) (fun C tv b eb => (hk C tv b eb).2) F U ρ σ H vs rs Q3 Q2 e R q h k⟩
  unfold cIsX at h
  split at h
  · obtain ⟨⟨_, _, rfl⟩, h5⟩ := h
    obtain ⟨b, eb, _⟩ := wo_out h5
    exact (hk _ _ b eb).1
  · exact h.elim
theorem qisX {dd : Addr} {a : Addr} {C : Addr} {e2 : Expr} {e1 : Expr} {kit : Addr → D → Option Bool} (hk : KitOk' K kit) (hm : ∀ i, (X i).mg "isinstance" = none) (ha : QA K (SuX X a dd C) [e1, e2] fa) (hK : ∀ i, (X i).K = K := by exact fun _ => rfl) (hg : ∀ i, Gl (X i) "isinstance" := by exact fun _ => rfl)
    (hst : ∀ i, starEach [e1, e2] (X i).env = (false, eval e1 (X i).env) :: starEach [e2] (X i).env := by exact fun _ => rfl) (hpl : ∀ i, (backTo pos (starEach [e2] (X i).env)).any (·.1) = false := by exact fun _ => rfl) : QE K (SuX X a dd C) (.Call (.Name "isinstance" p) [e1, e2] [] pos) (eCB (cIsX a dd C kit) fa) :=
  qcb (fun z => by have := call_isX' (Y := X z.1.1) z.2.1 z.2.2 (a := a) (pn := z.1.2.2); rw [hK] at this; exact this) (simIsX' hk) (fun z => hm z.1.1) PyProof.Rows.boot_isinstance ha (fun z => hg z.1.1) (by decide) (by decide) (fun z => hst z.1.1) (fun z => hpl z.1.1)
end
/-! ### raise C(..) -/
def valsD : List Rs → Option (List D)
  | [] => some []
  | .val d :: rs => (valsD rs).map (d :: ·)
  | _ => none
/-- the promise of an exception's __init__ over the heap: fl says the fields, the last set first -/
def spInit (K : PySem.W.Frag) (C : Addr) (fl : List D → Option (List (Str × D))) : Sp := fun vs H Q _ => ∃ (a : Addr) (ws : List V) (U : US) (ds : List D) (fs : List (Str × D)), vs = .ref a :: ws ∧ ws.length = ds.length ∧ H a = some (exo a C none) ∧ (∀ b, U b → ∃ o, H b = some o) ∧ ¬ U a ∧ RpAll K (del H a) U ds ws ∧ fl ds = some fs ∧
  ∀ (d : Addr) (gs : List (Str × V)) (H2 : Hp), H d = none → H2 a = some (exo a C (some d)) → H2 d = some (exd d gs) → (∀ b, b ≠ a → b ≠ d → H2 b = H b) → RpF K (del H a) U fs gs → Q .non H2
structure Xc3 (P : Program) (w : World) (K : PySem.W.Frag) (mg : Str → Option Value) (base : Heap) (k : Nat) (x : Str) (C : Addr) (fl : List D → Option (List (Str × D))) : Prop where
  ex : OexC K C ∧ ∃ (fI : Addr) (fd : FuncData) (ps : List Str), PySem.W.findIn K (.ref C) "__init__" = some (some (.ref fI)) ∧ PySem.W.typeIn K (.ref fI) = some (.type "function") ∧ FnOk P w K mg base CX0 k fI fd ps (spInit K C fl) ∧ Binds K fd ps [] ∧ mg x = some (.ref C)
def sRaiseX (C : Addr) (fl : List D → Option (List (Str × D))) (g : T3A) : E3X → T3S := fun X3 _ ρ => g ρ fun rs ρ1 => wo (valsD rs) fun ds => ds.length ≤ 1000 ∧ wo (fl ds) fun fs => X3 C fs ρ1
section
variable {F : Fr} {U U2 : US} {ρ ρ' ρ2 : En} {σ σ2 : St} {H H' H2 : Hp} {K : PySem.W.Frag}
theorem valsD_rp : ∀ {rs : List Rs} {vs : List V} {ds : List D}, RVs F U σ H rs vs → valsD rs = some ds → RpAll F.K H U ds vs
  | _, _, ds, .nil, e => by
    simp only [valsD] at e
    cases e
    simp only [RpAll]
  | r :: rs, _, ds, .cons q qs, e => by
    cases r <;> first | (simp only [valsD] at e; cases e; done) | skip
    rename_i d
    simp only [valsD] at e
    obtain ⟨ds', e1, rfl⟩ := Option.map_eq_some_iff.mp e
    simp only [RpAll]
    exact ⟨_, _, rfl, q, valsD_rp qs e1⟩
theorem simRaiseX {C : Addr} {fl : List D → Option (List (Str × D))} {u : TA} {g : T3A} (h : SimA K u g) : SimSX K (fun W => fun _ σ H => tMkO C (spInit K C fl) [] u σ H fun cls d H' => W cls d σ H') (sRaiseX C fl g) := by
  intro F U ρ σ H X3 W D3 D2 e kx R q k
  refine h F U ρ σ H _ _ e R q fun rs vs ρ1 H1 R1 s1 q1 h1 => ?_
  obtain ⟨ds, ed, hl, h1⟩ := wo_out h1
  obtain ⟨fs, ef, h1⟩ := wo_out h1
  subst e
  have rp := valsD_rp q1 ed
  refine ⟨by rw [rp.len]; exact hl, fun a ha => ?_⟩
  rw [List.append_nil]
  have nU : ∀ {b}, H1 b = none → ¬ U b := fun {b} hb z => by
    obtain ⟨o, ho⟩ := R1.tr b z
    rw [hb] at ho; cases ho
  have eD : del (upd H1 a (exo a C none)) a = H1 := by
    funext b
    by_cases z : b = a
    · subst z; rw [del_same, ha]
    · rw [del_ne z, upd_ne z]
  refine ⟨a, vs, U, ds, fs, rfl, rp.len, upd_same, fun b z => ?_, nU ha, by rw [eD]; exact rp, ef, fun d gs H2 hd e1 e2 e3 rf => ?_⟩
  · obtain ⟨o, ho⟩ := R1.tr b z
    exact ⟨o, by rw [upd_ne fun z => by subst z; rw [ha] at ho; cases ho]; exact ho⟩
  · have da : d ≠ a := fun z => by subst z; rw [upd_same] at hd; cases hd
    have hd1 : H1 d = none := by rw [upd_ne da] at hd; exact hd
    have eH : upd (del H2 a) d (.xd gs) = upd H1 d (.xd gs) := by
      funext b
      by_cases z : b = d
      · subst z; rw [upd_same, upd_same]
      · rw [upd_ne z, upd_ne z]
        by_cases z2 : b = a
        · subst z2; rw [del_same, ha]
        · rw [del_ne z2, e3 b z2 z, upd_ne z2]
    refine ⟨rfl, d, gs, e1, e2, hd1, ?_⟩
    rw [eH]
    have ext : ∀ b o, H1 b = some o → upd H1 d (.xd gs) b = some o := fun b o hb => by rw [upd_ne fun z => by subst z; rw [hd1] at hb; cases hb]; exact hb
    rw [eD] at rf
    have P2 : Pres H1 U (upd H1 d (.xd gs)) U := fun b o hb n => ⟨ext b o hb, n⟩
    exact kx.ex U ρ1 σ _ C d fs gs (R1.ext ext) upd_same (nU hd1) (RpF.pres P2 fs gs rf) h1
end
end L3

set_option Elab.async false
set_option linter.all false
set_option maxRecDepth 100000
namespace L2
open PySem PySem.Spec PyProof.Rows
/-- from here on the dict of slot i is never written -/
def tFrzS (i : Nat) (t : TS) : TS := fun D σ H => ∃ d kvs, σ[i]? = some (some (.ref d)) ∧ H d = some (.dK kvs) ∧ ∀ od, t D σ (upd H d (.frz od (.dK kvs)))
theorem ps_frzS {X : Cx} {st : Stmt} {t : TS} (i : Nat) (h : PS X st t) : PS X st (tFrzS i t) := by
  refine ⟨fun pins s σ H D I hw => ?_⟩
  obtain ⟨d, kvs, _, hd, hw⟩ := hw
  obtain ⟨od, I1⟩ := I.lock hd trivial
  exact h.run pins s σ _ _ I1 (hw od)
end L2
namespace L3
open PySem PySem.Spec L2
open PyProof.Rows (b2i envOfC)
section
variable {F : Fr} {U U2 : US} {ρ ρ' ρ2 : En} {σ σ2 : L2.St} {H H' H2 : Hp} {K : PySem.W.Frag}
/-! ### an owned dict is frozen and may be walked -/
theorem Rel.freezeK (R : Rel F U ρ σ H) {i : Nat} {kvs : List (Key × D)} (h : ρ[i]? = some (.own (.dic kvs))) : ∃ a vs, σ[i]? = some (some (.ref a)) ∧ H a = some (.dK vs) ∧ ∀ od, ∃ U', Rel F U' (ρ.set i (.shr (.dik kvs))) σ (upd H a (.frz od (.dK vs))) := by
  have hi : i < σ.length := by rw [← R.len]; exact (List.getElem?_eq_some_iff.mp h).1
  have hσ : σ[i]? = some σ[i] := List.getElem?_eq_getElem hi
  obtain ⟨a, ea, u, t⟩ := R.slot i _ _ h hσ
  have e3 : σ[i]? = some (some (.ref a)) := hσ.trans (by rw [ea])
  have oa : Own ρ σ a := Own.root h rfl e3
  obtain ⟨vs, t1, t2⟩ := t
  refine ⟨a, vs, e3, t1, fun od => ?_⟩
  have neq : ∀ x o, H x = some o → x ≠ a → upd H a (.frz od (.dK vs)) x = some o := fun x o hx n => by rw [upd_ne n]; exact hx
  have P : Pres H U (upd H a (.frz od (.dK vs))) (fun x => U x ∧ x ≠ a) := fun x o hx n => ⟨neq x o hx fun e => n (e ▸ u), fun z => n z.1⟩
  have own' : ∀ x, Own (ρ.set i (.shr (.dik kvs))) σ x → Own ρ σ x ∧ x ≠ a := fun x ⟨j, s, o, q1, q2, q3⟩ => by
    rcases set_get q1 with ⟨e, rfl, _⟩ | ⟨ne, q1⟩
    · exact absurd q3 (reg_noW rfl)
    · exact ⟨⟨j, s, o, q1, q2, q3⟩, fun e => ne (R.inj i j _ _ _ _ a h q1 e3 q2 ⟨rfl, .inl rfl⟩ (e ▸ q3))⟩
  refine ⟨fun x => U x ∧ x ≠ a, by rw [List.length_set]; exact R.len, fun j s o q1 q2 => ?_, fun j e o q1 q2 => ?_, fun j k s t o o' x q1 q2 q3 q4 q5 q6 => ?_, fun x z => ?_, fun x o hx n => ?_, fun x o hx => ?_, fun x o h n z => R.shar x o h n z.1, fun x z n => ⟨R.up x z n, fun e => n (R.own0 (e ▸ oa) z)⟩, fun x z => R.new x (own' x z).1, fun j s l q1 q2 => ?_, R.wu, R.b0, R.u0⟩
  · rcases set_get q1 with ⟨e, rfl, _⟩ | ⟨ne, q1⟩
    · subst e
      rw [e3] at q2; cases q2
      refine ⟨_, rfl, ?_⟩
      simp only [Rp]
      exact ⟨a, od, vs, rfl, upd_same, fun z => z.2 rfl, RpK.pres P _ _ t2⟩
    · refine (R.slot j s o q1 q2).pres P fun x hx ux => ?_
      have nx : x ≠ a := fun e => by
        subst e
        exact ne (R.inj i j _ _ _ _ x h q1 e3 q2 ⟨rfl, .inl rfl⟩ hx)
      exact ⟨⟨ux, nx⟩, fun w hw => neq x w hw nx⟩
  · rcases set_get q1 with ⟨e1, e2, _⟩ | ⟨ne, q1⟩
    · cases e2
    · rcases R.bor j e o q1 q2 with ⟨v, e1, q⟩ | ⟨b, e1, q, n⟩
      · exact .inl ⟨v, e1, Rp.pres P e v q⟩
      · exact .inr ⟨b, e1, q.pres P fun x hx o' h' => neq x o' h' fun z => n x hx (z ▸ oa), fun x hx z => n x hx (own' x z).1⟩
  · rcases set_get q1 with ⟨e, rfl, _⟩ | ⟨ne, q1'⟩
    · exact absurd q5 (reg_noW rfl)
    · rcases set_get q2 with ⟨e, rfl, _⟩ | ⟨ne2, q2'⟩
      · exact absurd q6 (reg_noW rfl)
      · exact R.inj j k s t o o' x q1' q2' q3 q4 q5 q6
  · obtain ⟨o, ho⟩ := R.tr x z.1
    exact ⟨o, neq x o ho z.2⟩
  · refine neq x o (R.keep x o hx n) fun e => ?_
    subst e
    rcases R.new x oa with z | z
    · exact n z
    · rw [hx] at z; cases z
  · by_cases e : x = a
    · subst e; exact ⟨_, upd_same⟩
    · obtain ⟨o', ho⟩ := R.ktr x o hx
      exact ⟨o', neq x o' ho e⟩
  · rcases set_get q1 with ⟨e, rfl, _⟩ | ⟨ne, q1⟩
    · cases q2
    · exact R.lock j s l q1 q2
def sFrzK (i : Nat) (f : T3S) : T3S := fun E ρ => match ρ[i]? with
  | some (.own (.dic kvs)) => f E (ρ.set i (.shr (.dik kvs)))
  | _ => False
theorem simFrzK {t : TS} {f : T3S} (i : Nat) (h : SimS K t f) : SimS K (tFrzS i t) (sFrzK i f) := by
  intro F U ρ σ H D3 D2 e R q k
  have q : (match ρ[i]? with | some (.own (.dic kvs)) => f D3 (ρ.set i (.shr (.dik kvs))) | _ => False) := q
  cases hs : ρ[i]? with
  | none => rw [hs] at q; exact q.elim
  | some s =>
    rw [hs] at q
    cases s <;> first | exact q.elim | skip
    rename_i d
    cases d <;> first | exact q.elim | skip
    obtain ⟨a, vs, e3, t1, g⟩ := R.freezeK hs
    refine ⟨a, vs, e3, t1, fun od => ?_⟩
    obtain ⟨U', R'⟩ := g od
    exact h F U' _ σ _ D3 D2 e R' q k
/-- a frozen dict, read as any dict -/
def eAsD (f : T3E) : T3E := fun ρ Q => f ρ fun r ρ1 => match r with
  | .val (.dik kvs) => Q (.val (.dic kvs)) ρ1
  | _ => False
theorem simAsD {t : TE} {f : T3E} (h : SimE K t f) : SimE K t (eAsD f) := by
  intro F U ρ σ H Q3 Q2 e R q k
  refine h F U ρ σ H _ _ e R q fun r v ρ1 H1 R1 s1 q1 h1 => ?_
  cases r <;> first | exact h1.elim | skip
  rename_i d
  cases d <;> first | exact h1.elim | skip
  refine k (.val (.dic _)) v ρ1 H1 R1 s1 ?_ h1
  have q1 : Rp F.K H1 U (.dik _) v := q1
  show Rp F.K H1 U (.dic _) v
  simp only [Rp] at q1 ⊢
  obtain ⟨a, o, vs, e1, e2, e3, e4⟩ := q1
  exact ⟨a, vs, e1, .inr ⟨o, e2⟩, e3, e4⟩
/-- for k in d, d frozen -/
def kD : Key → D
  | .inl i => .int i
  | .inr s => .str s
theorem kD_rp {k : Key} : Rp K H U (kD k) (kV k) := by
  cases k with
  | inl i => simp only [kD, Rp]; rfl
  | inr s => simp only [kD, Rp]; rfl
theorem RpK.keys : ∀ {ds : List (Key × D)} {vs : List (Key × V)}, RpK K H U ds vs → vs.map (·.1) = ds.map (·.1)
  | [], _, h => by simp only [RpK] at h; subst h; rfl
  | (k, d) :: ds, _, h => by
    simp only [RpK] at h
    obtain ⟨v, r, rfl, _, h2⟩ := h
    simp [RpK.keys h2]
def iKy (f : T3E) : T3I := fun ρ Q => f ρ fun r ρ1 => match r with
  | .val (.dik kvs) => Q ⟨kvs.map fun p => kD p.1, .val .non⟩ ρ1
  | _ => False
theorem simIKy {t : TE} {f : T3E} (h : SimE K t f) : SimI K false (iKeys t) (iKy f) := by
  intro F U ρ σ H Q3 R2 e R q k
  refine h F U ρ σ H _ _ e R q fun r v ρ1 H1 R1 s1 q1 h1 => ?_
  cases r <;> first | exact h1.elim | skip
  rename_i d
  cases d <;> first | exact h1.elim | skip
  rename_i kvs
  have q1 : Rp F.K H1 U (.dik kvs) v := q1
  simp only [Rp] at q1
  obtain ⟨a, o, vs, rfl, e2, e3, e4⟩ := q1
  refine ⟨a, o, rfl, .inl ⟨vs, e2, k _ ⟨_, .val .non⟩ ρ1 H1 R1 s1 ?_ h1⟩⟩
  intro F2 U2 ρ2 σ2 H2 eK R2' p kp i
  have e5 := (p a _ e2 e3).1
  have ek := e4.keys
  have el : vs.length = kvs.length := by have := congrArg List.length ek; simpa using this
  refine ⟨fun d hd => ?_, fun hi => ⟨e5, by rw [List.length_map] at hi; omega⟩⟩
  have hi : i < kvs.length := by have := (List.getElem?_eq_some_iff.mp hd).1; rwa [List.length_map] at this
  refine ⟨⟨e5, by omega⟩, fun x H3 hy => ?_⟩
  obtain ⟨rfl, k', v', hk, rfl⟩ := hy
  refine ⟨fun _ _ h => h, .inl ?_⟩
  have : (vs.map (·.1))[i]? = some k' := by rw [List.getElem?_map, hk]; rfl
  rw [ek, List.getElem?_map] at this
  obtain ⟨pr, hp, rfl⟩ := Option.map_eq_some_iff.mp this
  rw [List.getElem?_map, hp] at hd
  cases hd
  exact kD_rp
/-! ### str(i), sum(..), d.get(k), list(d) -/
def cStr (rs : List Rs) (ρ : En) (Q : Rs → En → Prop) : Prop := w1 rs ρ fun d => match d with
  | .int i => i.natAbs.log2 < 1920 ∧ Q (.val (.str (toString i))) ρ
  | _ => False
end
end L3

set_option Elab.async false
set_option linter.all false
set_option maxRecDepth 100000
namespace L3
open PySem PySem.Spec L2
open PyProof.Rows (b2i envOfC)
section
variable {F : Fr} {U U2 : US} {ρ ρ' ρ2 : En} {σ σ2 : L2.St} {H H' H2 : Hp} {K : PySem.W.Frag}
theorem simStrI : SimCR K (fun xs H Q => ∃ i, xs = [.int i] ∧ i.natAbs.log2 < 1920 ∧ Q (.str (toString i)) H) cStr := by
  intro F U ρ σ H vs rs Q3 Q2 e R q h k
  obtain ⟨x, v, d, rfl, rfl, q1, e1, h⟩ := w1_out q h
  cases d <;> first | exact h.elim | skip
  exact ⟨_, by rw [q1.int R e1], h.1, k (.val (.str _)) _ _ _ R (.refl R) (show Rp _ _ _ _ _ from rp_str) h.2⟩
/-- sum(..) of ints -/
def intsOf : List D → Option (List Int)
  | [] => some []
  | .int i :: ds => (intsOf ds).map (i :: ·)
  | _ => none
theorem ints_rp : ∀ {ds : List D} {vs : List V} {ns : List Int}, RpAll K H U ds vs → intsOf ds = some ns → vs = ns.map V.int
  | [], _, ns, h, e => by
    simp only [intsOf] at e; cases e
    simp only [RpAll] at h; exact h
  | d :: ds, _, ns, h, e => by
    cases d <;> first | (simp only [intsOf] at e; cases e; done) | skip
    simp only [intsOf] at e
    obtain ⟨ns', e1, rfl⟩ := Option.map_eq_some_iff.mp e
    simp only [RpAll, Rp] at h
    obtain ⟨v, r, rfl, rfl, h2⟩ := h
    rw [ints_rp h2 e1]; rfl
def cSum (rs : List Rs) (ρ : En) (Q : Rs → En → Prop) : Prop := w1 rs ρ fun d => match d with
  | .lst ds => wo (intsOf ds) fun ns => Q (.val (.int ns.sum)) ρ
  | _ => False
theorem simSum : SimCR K (rSum K) cSum := by
  intro F U ρ σ H vs rs Q3 Q2 e R q h k
  subst e
  obtain ⟨x, v, d, rfl, rfl, q1, e1, h⟩ := w1_out q h
  cases d <;> first | exact h.elim | skip
  obtain ⟨a, vs, rfl, z1, z2⟩ := q1.lst R e1
  obtain ⟨ns, en, h⟩ := wo_out h
  have ev := ints_rp z2 en
  subst ev
  exact ⟨a, ns, rfl, z1, k (.val (.int _)) _ _ _ R (.refl R) (show Rp _ _ _ _ _ from rp_int) h⟩
/-- d.get(k) -/
def eDG1 (fd fy : T3E) : T3E := fun ρ Q => fd ρ fun x ρ1 => wd x ρ1 fun dx => match dx with
  | .dic _ => fy ρ1 fun y ρ2 => wdk x y ρ2 fun kvs k => Q (.val ((getD' kvs k).getD .non)) ρ2
  | _ => False
theorem simDG1 {td ty : TE} {fd fy : T3E} (h : SimE K td fd) (hy : SimE K ty fy) : SimE K (tDGet1 td ty) (eDG1 fd fy) := by
  intro F U ρ σ H Q3 Q2 e R q k
  refine h F U ρ σ H _ _ e R q fun x v ρ1 H1 R1 s1 q1 h1 => ?_
  obtain ⟨d, ed, h1⟩ := wd_out h1
  cases d <;> first | exact h1.elim | skip
  obtain ⟨a, vs, rfl, z1, z2⟩ := q1.dic R1 ed
  refine ⟨a, rfl, .inl ⟨vs, z1⟩, hy F U ρ1 σ H1 _ _ e R1 h1 fun y w ρ2 H2 R2 s2 q2 h2 => ?_⟩
  have q1' : RV F U σ H2 x (.ref a) := q1.pres (s2.pres R1)
  obtain ⟨a', kvs, ws, j, ea, y1, y2, rfl, h4⟩ := wdk_out R2 q1' q2 h2
  cases ea
  refine ⟨valV ws j, .inl ⟨ws, j, y1, rfl, rfl⟩, ?_⟩
  rcases y2.get j with ⟨n, n'⟩ | ⟨d', v', n, ev, rv⟩
  · rw [n']; rw [n] at h4
    exact k (.val .non) .non ρ2 H2 R2 (s1.trans s2) (show Rp F.K H2 U .non .non from rp_non) h4
  · rw [ev]; rw [n] at h4
    exact k (.val d') v' ρ2 H2 R2 (s1.trans s2) rv h4
/-- list(d), d a dict -/
def oListK (g : T3A) : T3O' := fun ρ Q => g ρ fun rs ρ1 => w1 rs ρ1 fun d => match d with
  | .dic kvs => Q (.lst (kvs.map fun p => kD p.1)) ρ1
  | _ => False
theorem keysAll : ∀ {ds : List (Key × D)} {vs : List (Key × V)}, RpK K H U ds vs → RpAll K H U (ds.map fun p => kD p.1) (vs.map fun kv => kV kv.1)
  | [], _, h => by simp only [RpK] at h; subst h; simp only [List.map_nil, RpAll]
  | (k, d) :: ds, _, h => by
    simp only [RpK] at h
    obtain ⟨v, r, rfl, _, h2⟩ := h
    simp only [List.map_cons, RpAll]
    exact ⟨_, _, rfl, kD_rp, keysAll h2⟩
theorem simOListK {u : TA} {g : T3A} (h : SimA K u g) : SimEO K (tCB (fun xs H Q => ∃ (a : Addr) (kvs : List (Key × V)), xs = [.ref a] ∧ Rd H a (.dK kvs) ∧ ∀ p, H p = none → Q (.ref p) (upd H p (.lst (kvs.map fun kv => kV kv.1)))) u) (oListK g) := by
  intro F U ρ σ H Q3 Q2 e R q k
  refine h F U ρ σ H _ _ e R q fun rs vs ρ1 H1 R1 s1 q1 h1 => ?_
  obtain ⟨x, v, d, rfl, rfl, q1, e1, h⟩ := w1_out q1 h1
  cases d <;> first | exact h.elim | skip
  obtain ⟨a, vs, rfl, z1, z2⟩ := q1.dic R1 e1
  refine ⟨a, vs, rfl, z1, fun p hp => ?_⟩
  obtain ⟨R2, S2, P2⟩ := freshEO R1 (o := .lst (vs.map fun kv => kV kv.1)) hp
  exact k (.lst _) p ρ1 _ R2 (s1.trans S2) (back_none s1 hp) ⟨_, upd_same, RpAll.pres P2 _ _ (keysAll z2)⟩ h
/-- {e: e', ..}, the keys ints and texts -/
def dPairsG : List (T3E × T3E) → En → (List (Key × D) → En → Prop) → Prop
  | [], ρ, Q => Q [] ρ
  | (kf, f) :: r, ρ, Q => kf ρ fun y ρ0 => match y with
    | .val dk => wo dk.key fun j => f ρ0 fun x ρ1 => match x with
      | .val d => dPairsG r ρ1 fun kvs ρ2 => Q ((j, d) :: kvs) ρ2
      | _ => False
    | _ => False
def oDispG (ps : List (T3E × T3E)) : T3O' := fun ρ Q => dPairsG ps ρ fun kvs ρ1 => kvs.length ≤ 15 ∧ Q (.dic (mergeD [] kvs)) ρ1
inductive SimPG (K : PySem.W.Frag) : List (TE × TE) → List (T3E × T3E) → Prop
  | nil : SimPG K [] []
  | cons {tk t : TE} {kf f : T3E} {r : List (TE × TE)} {r3 : List (T3E × T3E)} : SimE K tk kf → SimE K t f → SimPG K r r3 → SimPG K ((tk, t) :: r) ((kf, f) :: r3)
theorem simPairsG {r : List (TE × TE)} {r3 : List (T3E × T3E)} (h : SimPG K r r3) : ∀ (F : Fr) (U : US) (ρ : En) (σ : L2.St) (H : Hp) (Q3 : List (Key × D) → En → Prop) (Q2 : List (V × V) → Hp → Prop), F.K = K → Rel F U ρ σ H → dPairsG r3 ρ Q3 →
    (∀ kvs ws ρ' H', Rel F U ρ' σ H' → Stp ρ σ H ρ' H' → RpK F.K H' U kvs ws → Q3 kvs ρ' → Q2 (ws.map fun kv => (kV kv.1, kv.2)) H') → tPairs r σ H Q2 := by
  induction h with
  | nil => exact fun F U ρ σ H Q3 Q2 e R q k => k [] [] ρ H R (.refl R) (by simp only [RpK]) q
  | @cons tk t kf f r r3 hk h _ ih =>
    intro F U ρ σ H Q3 Q2 e R q k
    refine hk F U ρ σ H _ _ e R q fun y w ρ0 H0 R0 s0 q0 h0 => ?_
    cases y with
    | sl _ => exact h0.elim
    | bx _ _ _ => exact h0.elim
    | val dk =>
      obtain ⟨j, ej, h0⟩ := wo_out h0
      have ew := key_out ej (show Rp F.K H0 U dk w from q0)
      subst ew
      refine h F U ρ0 σ H0 _ _ e R0 h0 fun x v ρ1 H1 R1 s1 q1 h1 => ?_
      cases x with
      | sl _ => exact h1.elim
      | bx _ _ _ => exact h1.elim
      | val d =>
        refine ih F U ρ1 σ H1 _ _ e R1 h1 fun kvs ws ρ2 H2 R2 s2 q2 h2 => ?_
        refine k ((j, d) :: kvs) ((j, v) :: ws) ρ2 H2 R2 ((s0.trans s1).trans s2) ?_ h2
        simp only [RpK]
        exact ⟨v, ws, rfl, Rp.pres (s2.pres R1) _ _ q1, q2⟩
theorem simODispG {r : List (TE × TE)} {r3 : List (T3E × T3E)} (h : SimPG K r r3) : SimEO K (tDisp r) (oDispG r3) := by
  intro F U ρ σ H Q3 Q2 e R q k p hp
  obtain ⟨R1, S1, P1⟩ := freshEO R (o := .dK []) hp
  refine simPairsG h F _ ρ σ _ _ _ e R1 q fun kvs ws ρ2 H2 R2 s2 q2 h2 => ?_
  have no : ¬ Own ρ σ p := fun z => R.noU hp (R.ownU z)
  have e2 : H2 p = some (.dK []) := s2.keep p _ upd_same no
  have S2 : Stp ρ σ H ρ2 H2 := S1.trans s2
  refine ⟨e2, ws, rfl, by rw [q2.len]; exact h2.1, ?_⟩
  have no2 : ¬ Own ρ2 σ p := fun z => no (s2.own p z)
  have Pw : Pres H2 (fun b => U b ∨ b = p) (upd H2 p (.dK (mergeK [] ws))) (fun b => U b ∨ b = p) := fun x o h n => ⟨by rw [upd_ne (fun e => n (.inr e))]; exact h, n⟩
  refine k (.dic (mergeD [] kvs)) p ρ2 _ ?_ ⟨fun x o h n => ?_, S2.own, fun x o h => ?_⟩ hp ⟨_, upd_same, RpK.pres Pw _ _ (q2.merge (by simp only [RpK]))⟩ h2.2
  · -- a write at p, which no slot owns
    exact R2.poke no2 (.inr rfl) (up_new R hp)
  · have nx : x ≠ p := fun e => by subst e; rw [hp] at h; cases h
    rw [upd_ne nx]; exact S2.keep x o h n
  · by_cases e : x = p
    · subst e; exact ⟨_, upd_same⟩
    · obtain ⟨o', h'⟩ := S2.tr x o h
      exact ⟨o', by rw [upd_ne e]; exact h'⟩

end
section
variable {ι : Type} {X : ι → Cx} {K : PySem.W.Frag} {pos p apos cpos : Pos} {e a b o : Expr} {x : Str} {f g : T3E} {fa : T3A} {st : Stmt} {fs : T3S} {tg : Expr}
theorem sfrzK (n : Nat) (h : QS K X st fs) : QS K X st (sFrzK n fs) := let ⟨t, a1, a2⟩ := h.ex; ⟨tFrzS n t, fun i => ps_frzS n (a1 i), simFrzK n a2⟩
theorem qasd (h : QE K X e f) : QE K X e (eAsD f) := let ⟨t, a1, a2⟩ := h.ex; ⟨t, a1, simAsD a2⟩
theorem ikys (h : QE K X e f) : QI K X false tg e (iKy f) := let ⟨t, a1, a2⟩ := h.ex; ⟨iKeys t, fun i => pi_keys (a1 i), simIKy a2⟩
theorem qstr1 (hm : ∀ i, (X i).mg "str" = none) (ha : QA K X [e] fa) (hg : ∀ i, Gl (X i) "str" := by exact fun _ => rfl)
    (hst : ∀ i, starEach [e] (X i).env = (false, eval e (X i).env) :: starEach [] (X i).env := by exact fun _ => rfl) (hpl : ∀ i, (backTo pos (starEach [] (X i).env)).any (·.1) = false := by exact fun _ => rfl) : QE K X (.Call (.Name "str" p) [e] [] pos) (eCB cStr fa) := qct (fun i => call_str_int) simStrI hm (by first | exact PyProof.Rows.boot_str | rfl) ha hg (by decide) (by decide) hst hpl
theorem qsum (hc : ∀ i, (X i).calm = true) (hm : ∀ i, (X i).mg "sum" = none) (ha : QA K X [e] fa) (hg : ∀ i, Gl (X i) "sum" := by exact fun _ => rfl) (hK : ∀ i, (X i).K = K := by exact fun _ => rfl)
    (hst : ∀ i, starEach [e] (X i).env = (false, eval e (X i).env) :: starEach [] (X i).env := by exact fun _ => rfl) (hpl : ∀ i, (backTo pos (starEach [] (X i).env)).any (·.1) = false := by exact fun _ => rfl) : QE K X (.Call (.Name "sum" p) [e] [] pos) (eCB cSum fa) := qcb (fun i => hK i ▸ cr_sum (hc i)) simSum hm (by first | exact PyProof.Rows.boot_sum | rfl) ha hg (by decide) (by decide) hst hpl
theorem qdg1 {k : Nat} (hR : ∀ i, Room k (X i).A) (ho : QE K X o f) (he : QE K X a g) (m : ∀ i, M1 (X i) o "get" apos a cpos := by exact fun _ => ⟨rfl, rfl, rfl, rfl⟩) : QE K X (.Call (.Attribute o "get" apos) [a] [] cpos) (eDG1 f g) :=
  let ⟨_, a1, a2⟩ := ho.ex; let ⟨_, b1, b2⟩ := he.ex; ⟨_, fun i => pe_dget1 (hu_of (hR i)) (a1 i) (b1 i) (m i), simDG1 a2 b2⟩
theorem olistK (hc : ∀ i, (X i).calm = true) (hm : ∀ i, (X i).mg "list" = none) (ha : QA K X [e] fa) (hg : ∀ i, Gl (X i) "list" := by exact fun _ => rfl)
    (hst : ∀ i, starEach [e] (X i).env = (false, eval e (X i).env) :: starEach [] (X i).env := by exact fun _ => rfl) (hpl : ∀ i, (backTo pos (starEach [] (X i).env)).any (·.1) = false := by exact fun _ => rfl) : QO K X (.Call (.Name "list" p) [e] [] pos) (oListK fa) :=
  let ⟨u, h1, h2⟩ := ha.ex; ⟨_, fun i => pe_callTy (call_listD (hc i)) (hg i) (hm i) PyProof.Rows.boot_list (h1 i) (by decide) (by decide) (hst i) (hpl i), simOListK h2⟩
structure QDG {ι : Type} (K : PySem.W.Frag) (X : ι → Cx) (pos : Pos) (ks : List (Option Expr)) (vs : List Expr) (ps : List (T3E × T3E)) : Prop where
  ex : ∃ t, (∀ i, PPs (X i) pos ks vs t) ∧ SimPG K t ps
theorem qdgn : QDG K X pos [] [] [] := ⟨_, fun _ => pps_nil, .nil⟩
theorem qdgc {k v : Expr} {ks : List (Option Expr)} {vs : List Expr} {ps : List (T3E × T3E)} (hk : QE K X k g) (hv : QE K X v f) (hr : QDG K X pos ks vs ps) : QDG K X pos (some k :: ks) (v :: vs) ((g, f) :: ps) :=
  let ⟨_, h0, h9⟩ := hk.ex; let ⟨_, h1, h2⟩ := hv.ex; let ⟨_, h3, h4⟩ := hr.ex; ⟨_, fun i => pps_cons (h0 i) (h1 i) (h3 i), .cons h9 h2 h4⟩
theorem odispG {keys : List (Option Expr)} {values : List Expr} {ps : List (T3E × T3E)} (h : QDG K X pos keys values ps) (hall : keys.all (·.isSome) = true := by rfl) (hl : keys.length = values.length := by rfl) (h0 : keys ≠ [] := by exact fun z => by cases z)
    (h15 : keys.length ≤ 15 := by decide) : QO K X (.Dict keys values pos) (oDispG ps) := let ⟨_, h1, h2⟩ := h.ex; ⟨_, fun i => pe_disp (h1 i) hall hl h0 h15, simODispG h2⟩
end
end L3

set_option Elab.async false
set_option linter.all false
set_option maxRecDepth 100000
/-! list.extend of a tuple; tuple[::-1] -/
namespace L3
open PySem PySem.Spec L2
open PyProof.Rows (IsTup)
section
variable {prog : Program} {w : World} {A : Around} {E : Value → Shared → Prop} {s : Shared}
theorem list_extend_tup (l b : Addr) (items items2 : Array Value) (n : Nat) (hlong : ¬ (!items.isEmpty && Builtin.List.listTooLong (items.size + items2.size)) = true) (hs1 : items.size ≤ sizeLine) (hs2 : items.size + items2.size ≤ sizeLine + 1) :
    Meets (Builtin.«list.extend» ⟨[.ref l, .ref b], []⟩) (fun _ R s => s.heap.get? l = some { cls := .type "list", dict := none, data := .seq items n, slots := #[] } ∧ IsTup s.heap b items2 ∧ R (.ok (.ret Value.none)) { s with heap := s.heap.update l (Obj.mapSeq fun x => x ++ items2) }) := by
  rintro prog w A R s ⟨hl, ⟨o, ho, hc, m, hd⟩, h⟩
  have hz' : (items ++ items2).size ≤ sizeLine + 1 := by rw [Array.size_append]; exact hs2
  show wpAny _ A.in1 (Builtin.List.listExtendWith (.ref l) (.ref b) .none) _ _ s
  unfold Builtin.List.listExtendWith
  refine wpAny_bind (wpAny_typeOf ⟨o, ho, hc⟩ ?_)
  have h1 : (Builtin.List.listSameRef (.ref l) (.ref b) || Value.type "tuple" == Value.type "list" || Value.type "tuple" == Value.type "tuple") = true := by simp
  simp only [h1, if_true]
  refine wpAny_bind ?_
  unfold Builtin.List.listItems
  refine wpAny_bind (wpAny_seqItems ho hd (wpAny_pure ?_))
  refine wpAny_bind ?_
  refine wpAny_bind (wpAny_seqItems hl rfl (wpAny_pure ?_))
  rw [if_neg hlong]
  show wpAny _ A.in1 (updateSeq l (· ++ items2) >>= fun _ => ret .none) _ _ s
  refine wpAny_bind (wpAny_updateSeq hl rfl (hz := hs1) (_hz' := hz') ?_)
  exact wpAny_pure h
end
end L3
namespace HT
open PySem PySem.Spec PyProof.Rows
section
variable {prog : Program} {w : World} {A : Around} {E : Value → Shared → Prop} {s : Shared}
theorem adjust_rev (n : Nat) : Builtin.Slice.sliceAdjust none none (-1) (n : Int) = ((n : Int) - 1, -1) := by
  unfold Builtin.Slice.sliceAdjust
  simp
theorem places_rev (n : Nat) : Builtin.Slice.slicePlaces ((n : Int) - 1) (-1) (-1) = n := by
  unfold Builtin.Slice.slicePlaces
  have h1 : ¬ ((-1 : Int) > 0) := by omega
  simp only [h1, if_false]
  have e : ((n : Int) - 1 - -1 - 1) / - -1 = n - 1 := by
    rw [show ((n : Int) - 1 - -1 - 1) = n - 1 by omega, show (- -1 : Int) = 1 by decide, Int.ediv_one]
  rw [e]
  split <;> omega
theorem pick_rev (xs : Array Value) : ((List.range xs.size).filterMap fun (m : Nat) => xs[(((xs.size : Int) - 1) + (m : Int) * (-1)).toNat]?).toArray = xs.toList.reverse.toArray := by
  have e : (fun (m : Nat) => xs[(((xs.size : Int) - 1) + (m : Int) * (-1)).toNat]?) = (fun j => xs[j]?) ∘ (fun m => xs.size - 1 - m) := by
    funext m
    have : (((xs.size : Int) - 1) + (m : Int) * (-1)).toNat = xs.size - 1 - m := by omega
    rw [this]; rfl
  rw [e, ← List.filterMap_map, PySem.W.krv_range, List.filterMap_reverse, PySem.W.krv_all]
theorem sliceApplied_rev {sl : Addr} {vs : Value} {n : Nat} {Q : Int × Int × Nat → Shared → Prop} (hs : s.heap.IsSliceOf sl .none .none vs) (ps : IsPart vs (some (-1)))
    (h : Q ((n : Int) - 1, -1, n) s) : wpAny (model prog w) A (Builtin.Slice.sliceApplied (.ref sl) (pure (n : Int))) Q E s := by
  obtain ⟨os, hos, hcs, hds⟩ := id hs
  unfold Builtin.Slice.sliceApplied Builtin.Slice.sliceFields
  refine wpAny_bind (wpAny_bind (wpAny_field hos hds (x := .none) rfl (wpAny_bind (wpAny_field hos hds (x := .none) rfl (wpAny_bind (wpAny_field hos hds (x := vs) rfl (wpAny_pure ?_)))))))
  refine wpAny_bind (slicePart_ ps ?_)
  show wpAny _ _ (if ((-1 : Int) == 0) = true then _ else _) _ _ s
  rw [if_neg (by decide)]
  refine wpAny_bind (slicePart_ .none (wpAny_bind (slicePart_ .none (wpAny_bind (wpAny_pure ?_)))))
  show wpAny _ _ (match Builtin.Slice.sliceAdjust none none (-1) (n : Int) with | (lo, hi) => pure (lo, (-1 : Int), Builtin.Slice.slicePlaces lo hi (-1))) _ _ s
  rw [adjust_rev n]
  show wpAny _ _ (pure ((n : Int) - 1, (-1 : Int), Builtin.Slice.slicePlaces ((n : Int) - 1) (-1) (-1))) _ _ s
  rw [places_rev]
  exact wpAny_pure h
theorem getItem_tuple_rev {t sl : Addr} {items : Array Value} {vs : Value} {Q : Value → Shared → Prop} (ht : IsTup s.heap t items) (hs : s.heap.IsSliceOf sl .none .none vs) (ps : IsPart vs (some (-1)))
    (h : Q (.ref s.heap.objs.size) { s with heap := s.heap.push { cls := .type "tuple", data := .seq items.toList.reverse.toArray } })
    (hsz : items.size ≤ sizeLine) : wpAny (model prog w) A (getItem (.ref t) (.ref sl)) Q E s := by
  have htake : sizeOk (.seq items.toList.reverse.toArray) := by
    show items.toList.reverse.toArray.size ≤ sizeLine
    rw [List.size_toArray, List.length_reverse, Array.length_toList]; exact hsz
  obtain ⟨os, hos, hcs, hds⟩ := id hs
  have hTs : s.TypeIs (.ref sl) "slice" := ⟨os, hos, hcs⟩
  unfold getItem
  try with_reducible refine wpAny_holding ?_
  first | refine wpAny_bind (wpAny_pure ?_) | skip
  refine wpAny_bind (wpAny_sequenceKey ht.typeIs (by decide) ?_)
  refine wpAny_bind (wpAny_callSpecial?_slot (name := Str.ofString "__getitem__") ht.typeIs PyProof.Rows.slot_tuple_getitem
    (wpAny_call_entry PyProof.Rows.slot_tuple_getitem ht.typeIs entry_tuple_getitem ?_ (args_tuple_getitem _ _)))
  show wpAny _ _ (Builtin.Tuple.tupleItemsOf (.ref t) >>= _) _ _ s
  refine wpAny_bind (tupleItemsOf_ ht ?_)
  refine wpAny_bind (wpAny_typeOf hTs ?_)
  rw [if_pos (by decide)]
  refine wpAny_bind (sliceApplied_rev hs ps ?_)
  have hno : ¬ ((((items.size : Int) - 1) == 0 && (-1 : Int) == 1 && items.size == items.size) = true) := by
    intro q
    rw [Bool.and_eq_true, Bool.and_eq_true] at q
    exact absurd q.1.2 (by decide)
  show wpAny _ _ (if (((items.size : Int) - 1) == 0 && (-1 : Int) == 1 && items.size == items.size) = true then _ else _) _ _ s
  rw [if_neg hno, pick_rev]
  first
    | exact wpAny_bind (m := Builtin.Tuple.tupleExact _) (wpAny_newObj_type (wpAny_pure ⟨_, rfl, wpAny_pure h⟩) htake)
    | exact wpAny_bind (m := Builtin.Tuple.tupleExact _) (wpAny_newObj_type (wpAny_bind (wpAny_pure (wpAny_pure ⟨_, rfl, wpAny_pure h⟩))) htake)
    | exact wpAny_bind (wpAny_bind (m := Builtin.Tuple.tupleExact _) (wpAny_newObj_type (wpAny_pure (wpAny_pure ⟨_, rfl, wpAny_pure h⟩)) htake))
    | exact wpAny_bind (wpAny_bind (m := Builtin.Tuple.tupleExact _) (wpAny_newObj_type (wpAny_pure ⟨_, rfl, wpAny_pure h⟩) htake))
end
end HT
namespace L2
open PySem PySem.Spec PyProof.Rows L3
def rExtendT (K : PySem.W.Frag) : V → List V → Hp → VK → Prop := fun x vs H Q => ∃ l b xs zs, x = .ref l ∧ vs = [.ref b] ∧ H l = some (.lst xs) ∧ SqT K H b zs ∧ xs.length + zs.length ≤ sizeLine ∧ Q .non (upd H l (.lst (xs ++ zs)))
theorem mt_extendT {X : Cx} : MtM X "list.extend" (rExtendT X.K) := by
  intro pins s σ H x vs v us Q I rx rv h
  obtain ⟨l, b, xs, zs, rfl, rfl, hH, hB, hz, q⟩ := h
  cases rx
  obtain ⟨u, rfl, ru⟩ := rv.one
  cases ru
  obtain ⟨z, its, n, r, hl, e⟩ := I.lstM hH
  obtain ⟨its2, r2, e2, hl2⟩ := I.tuple hB
  have hlen2 := r2.length
  have hsz : its.toArray.size + its2.toArray.size ≤ sizeLine := by rw [List.size_toArray, List.size_toArray]; omega
  have hlong : ¬ (!its.toArray.isEmpty && Builtin.List.listTooLong (its.toArray.size + its2.toArray.size)) = true := by
    rw [notLongL hsz, Bool.and_false]
    exact Bool.false_ne_true
  refine call_meets F.slot_list_extend ⟨_, e, rfl⟩ F.entry_list_extend (F.args_list_extend_2 _ _)
    (list_extend_tup l b its.toArray its2.toArray n hlong (by rw [List.size_toArray]; omega) (by omega)) ⟨e, e2, ?_⟩
  refine ⟨.non, _, I.lset (its' := its ++ its2) (t' := s.toks) hH e (by simp) (r.append r2) ?_, rfl, q⟩
  rw [List.length_append]
  omega
theorem mt_extendX {X : Cx} {K : PySem.W.Frag} (hK : X.K = K) : MtR X "list.extend" (rExtendT K) := hK ▸ mt_extendT
def tRevT (K : PySem.W.Frag) (te : TE) : TE := fun σ H Q => te σ H fun x H1 => ∃ a xs, x = .ref a ∧ SqT K H1 a xs ∧ ∀ (p : Addr) (o : Obj), H1 p = none → o.dict = none → Q (.ref p) (upd H1 p (.frz o (.tup xs.reverse)))
theorem pe_revT {X : Cx} {e : Expr} {te : TE} {k : Nat} {p1 p2 p3 pos : Pos} (he : PE X e te) : PE X (.Subscript e (.Slice none none (some (.UnaryOp .USub (.Constant (.int 1) k p1) p2)) p3) pos) (tRevT X.K te) := by
  refine ⟨fun pins s σ H Q I h => ?_⟩
  refine Subscript_ (thn (he.run pins s σ H _ I h) fun v s1 ⟨x, H1, I1, r1, q1⟩ => ?_)
  obtain ⟨a, xs, ex, hx, q⟩ := q1
  subst ex
  cases r1
  have hst : PO X (some (.UnaryOp .USub (.Constant (.int 1) k p1) p2)) (tPart (tUn (rU fun i => .int (-i)) (tC (.int 1)))) := po_some (pe_un un_neg pe_int)
  refine wpAny_Slice (thn (po_none.run pins s1 σ H1 (fun o H2 => o = none ∧ H2 = H1) I1 ⟨rfl, rfl⟩) fun vl s2 ⟨l, H2, I2, pl, el, e2⟩ => ?_)
  subst el e2
  refine thn (po_none.run pins s2 σ H2 (fun o H3 => o = none ∧ H3 = H2) I2 ⟨rfl, rfl⟩) fun vu s3 ⟨u, H3, I3, pu, eu, e3⟩ => ?_
  subst eu e3
  refine thn (hst.run pins s3 σ H3 (fun o H4 => o = some (-1) ∧ H4 = H3) I3 ⟨1, rfl, -1, rfl, rfl, rfl⟩) fun vs s4 ⟨o, H4, I4, ps, eo, e4⟩ => ?_
  subst eo e4
  cases pl
  cases pu
  have I5 : Inv X pins σ H4 { s4 with heap := s4.heap.push { cls := .type "slice", data := .fields #[.none, .none, vs] } } := I4.kept (t' := s4.toks) fun b ob q => Heap.get?_push_of_some _ q
  obtain ⟨its, r, ht, hz⟩ := I5.tuple hx
  have hlen := r.length
  show wpAny (model X.prog X.w) X.A (subscriptTail e (.Slice none none (some (.UnaryOp .USub (.Constant (.int 1) k p1) p2)) p3) (.ref a) (.ref s4.heap.objs.size)) (EP X pins σ Q) X.xe { s4 with heap := s4.heap.push { cls := .type "slice", data := .fields #[.none, .none, vs] } }
  refine tail_any (ops := [.ref a, .ref s4.heap.objs.size]) ht.typeIs (PyProof.Rows.slot_tuple_getitem.lookup) ?_ (by with_unfolding_all rfl)
  refine HT.getItem_tuple_rev ht (Heap.IsSliceOf.new _ .none .none vs) ps ?_ (by rw [List.size_toArray]; omega)
  refine ⟨.ref _, _, tnewI I5 (t' := s4.toks) r.reverse ?_, rfl, q _ (tupObj _) (I5.hok.fresh (Nat.le_refl _)) rfl⟩
  rw [List.length_reverse]; exact hz
end L2
namespace L3
open PySem PySem.Spec L2
section
variable {F : Fr} {U U2 : US} {ρ ρ' ρ2 : En} {σ σ2 : L2.St} {H H' H2 : Hp} {K : PySem.W.Frag}
def mExtendT : M3 := fun r rs ρ Q => match rs with
  | [x] => wd x ρ fun dx => match dx with
    | .tup es => ww r ρ fun dl up => match dl with
      | .lst ds => ds.length + es.length ≤ sizeLine ∧ Q (.val .non) (up (.lst (ds ++ es)))
      | _ => False
    | _ => False
  | _ => False
theorem simExtendT : SimM K (rExtendT K) mExtendT := by
  intro F U ρ σ H x vs rx rs Q3 Q2 e R q qs h k
  subst e
  unfold mExtendT at h
  cases qs with
  | nil => exact h.elim
  | cons q1 qs =>
    cases qs with
    | cons _ _ => exact h.elim
    | nil =>
      obtain ⟨di, ei, h⟩ := wd_out h
      cases di <;> first | exact h.elim | skip
      rename_i es
      obtain ⟨dl, up, a, rfl, u, t, wr, h⟩ := ww_out R q h
      cases dl <;> first | exact h.elim | skip
      rename_i ds
      obtain ⟨ws, z1, z2⟩ := t
      obtain ⟨b, zs, rfl, y1, y2, _⟩ := q1.tup R ei
      obtain ⟨R', S'⟩ := wr (lstW R u (z2.app y2))
      exact ⟨a, b, ws, zs, rfl, rfl, z1, y1, by rw [z2.len, y2.len]; exact h.1, k (.val .non) .non _ _ R' S' rvN h.2⟩
def eRevT (f : T3E) : T3E := fun ρ Q => f ρ fun r ρ1 => wd r ρ1 fun d => match d with
  | .tup ds => Q (.val (.tup ds.reverse)) ρ1
  | _ => False
theorem simRevT {t : TE} {f : T3E} (h : SimE K t f) : SimE K (tRevT K t) (eRevT f) := by
  intro F U ρ σ H Q3 Q2 e R q k
  refine h F U ρ σ H _ _ e R q fun r v ρ1 H1 R1 s1 q1 h1 => ?_
  subst e
  obtain ⟨d, e1, h1⟩ := wd_out h1
  cases d <;> first | exact h1.elim | skip
  obtain ⟨a, vs, rfl, z1, z2, _⟩ := q1.tup R1 e1
  exact ⟨a, vs, rfl, z1, fun p o hp ho => k (.val (.tup _)) _ ρ1 _ (R1.ext (ext_new hp)) (s1.trans (.ext (ext_new hp))) (rp_newT R1 ho hp z2.rev) h1⟩
end
section
variable {ι : Type} {X : ι → Cx} {K : PySem.W.Frag} {pos p : Pos} {e : Expr} {f : T3E}
theorem qrevT {k : Nat} {p1 p2 p3 : Pos} (h : QE K X e f) (hK : ∀ i, (X i).K = K := by exact fun _ => rfl) : QE K X (.Subscript e (.Slice none none (some (.UnaryOp .USub (.Constant (.int 1) k p1) p2)) p3) pos) (eRevT f) :=
  let ⟨t, h1, h2⟩ := h.ex; ⟨tRevT K t, fun i => hK i ▸ pe_revT (h1 i), simRevT h2⟩
end
end L3

set_option Elab.async false
set_option linter.all false
set_option maxRecDepth 100000
namespace L3
open PySem PySem.Spec L2 PyProof.Rows
/-! ### repr of data -/
mutual
def D.sho : D → Bool
  | .int i => decide (i.natAbs.log2 < 1920)
  | .tup xs => D.shos xs
  | .lst xs => D.shos xs
  | _ => true
def D.shos : List D → Bool
  | [] => true
  | x :: xs => x.sho && D.shos xs
end
mutual
/-- a bound of the shown text -/
def D.wid : D → Nat
  | .str s => 10 * s.length + 2
  | .int _ => 1921
  | .tup xs => D.wids xs + 3
  | .lst xs => D.wids xs + 3
  | _ => 5
def D.wids : List D → Nat
  | [] => 0
  | x :: xs => x.wid + 2 + D.wids xs
end
theorem int_wid {i : Int} (h : i.natAbs.log2 < 1920) : (Str.ofString (toString i)).length ≤ 1921 := by
  have e := int_text_length_le (k := 1920) (by decide) h
  rw [PySem.ofString_length]; omega
mutual
theorem shown_wid : ∀ d : D, d.ok = true → d.sho = true → d.toP.shown.length ≤ d.wid
  | .non, _, _ => by simp only [D.toP, PyData.shown, D.wid]; decide
  | .bl b, _, _ => by cases b <;> (simp only [D.toP, PyData.shown, D.wid]; decide)
  | .int i, _, h => by
    simp only [D.sho, decide_eq_true_eq] at h
    simp only [D.toP, PyData.shown, D.wid]
    exact int_wid h
  | .str s, h, _ => by
    simp only [D.ok, PyData.strOk] at h
    simp only [D.toP, PyData.shown, D.wid]
    refine StrLaws.reprText_len s fun c hc => ?_
    rw [← Array.all_toList, List.all_eq_true] at h
    have := h c hc
    simp only [decide_eq_true_eq] at this
    exact Nat.lt_trans this (by decide)
  | .tup xs, h, h' => by
    simp only [D.ok] at h
    simp only [D.sho] at h'
    have h1 := shown_wids xs h h'
    have h3 := tupleText_len_le (PyData.shownAll (D.toPs xs))
    simp only [D.toP, PyData.shown, D.wid]
    omega
  | .lst xs, h, h' => by
    simp only [D.ok] at h
    simp only [D.sho] at h'
    have h1 := shown_wids xs h h'
    have h3 := listText_len_le (PyData.shownAll (D.toPs xs))
    simp only [D.toP, PyData.shown, D.wid]
    omega
  | .dic _, h, _ => by simp only [D.ok] at h; cases h
  | .dit _, h, _ => by simp only [D.ok] at h; cases h
  | .obj _ _, h, _ => by simp only [D.ok] at h; cases h
  | .ty _, h, _ => by simp only [D.ok] at h; cases h
  | .cls _, h, _ => by simp only [D.ok] at h; cases h
  | .scr _, h, _ => by simp only [D.ok] at h; cases h
  | .bx _ _, h, _ => by simp only [D.ok] at h; cases h
  | .din _ _, h, _ => by simp only [D.ok] at h; cases h
  | .exc _ _ _ _, h, _ => by simp only [D.ok] at h; cases h
  | .dik _, h, _ => by simp only [D.ok] at h; cases h
theorem shown_wids : ∀ xs : List D, D.oks xs = true → D.shos xs = true → ((PyData.shownAll (D.toPs xs)).map (·.length)).sum + 2 * (PyData.shownAll (D.toPs xs)).length ≤ D.wids xs
  | [], _, _ => by simp [D.toPs, PyData.shownAll, D.wids]
  | x :: xs, h, h' => by
    simp only [D.oks, Bool.and_eq_true] at h
    simp only [D.shos, Bool.and_eq_true] at h'
    have h1 := shown_wid x h.1 h'.1
    have h2 := shown_wids xs h.2 h'.2
    simp only [D.toPs, PyData.shownAll, D.wids, List.map_cons, List.sum_cons, List.length_cons]
    omega
end
mutual
theorem toP_sho : ∀ d : D, d.sho = true → d.toP.showable = true ∧ d.toP.hasDict = false
  | .int i, h => by simp only [D.sho] at h; exact ⟨by simpa only [D.toP, PyData.showable] using h, by simp only [D.toP, PyData.hasDict]⟩
  | .tup xs, h => by
    simp only [D.sho] at h
    simpa only [D.toP, PyData.showable, PyData.hasDict] using toPs_sho xs h
  | .lst xs, h => by
    simp only [D.sho] at h
    simpa only [D.toP, PyData.showable, PyData.hasDict] using toPs_sho xs h
  | .non, _ => by simp [D.toP, PyData.showable, PyData.hasDict]
  | .bl _, _ => by simp [D.toP, PyData.showable, PyData.hasDict]
  | .str _, _ => by simp [D.toP, PyData.showable, PyData.hasDict]
  | .dic _, _ => by simp [D.toP, PyData.showable, PyData.hasDict]
  | .dit _, _ => by simp [D.toP, PyData.showable, PyData.hasDict]
  | .obj _ _, _ => by simp [D.toP, PyData.showable, PyData.hasDict]
  | .ty _, _ => by simp [D.toP, PyData.showable, PyData.hasDict]
  | .cls _, _ => by simp [D.toP, PyData.showable, PyData.hasDict]
  | .scr _, _ => by simp [D.toP, PyData.showable, PyData.hasDict]
  | .bx _ _, _ => by simp [D.toP, PyData.showable, PyData.hasDict]
  | .din _ _, _ => by simp [D.toP, PyData.showable, PyData.hasDict]
  | .exc _ _ _ _, _ => by simp [D.toP, PyData.showable, PyData.hasDict]
  | .dik _, _ => by simp [D.toP, PyData.showable, PyData.hasDict]
theorem toPs_sho : ∀ xs : List D, D.shos xs = true → PyData.showableAll (D.toPs xs) = true ∧ PyData.hasDictAll (D.toPs xs) = false
  | [], _ => by simp [D.toPs, PyData.showableAll, PyData.hasDictAll]
  | x :: xs, h => by
    simp only [D.shos, Bool.and_eq_true] at h
    obtain ⟨h1, h2⟩ := toP_sho x h.1
    obtain ⟨h3, h4⟩ := toPs_sho xs h.2
    simp [D.toPs, PyData.showableAll, PyData.hasDictAll, h1, h2, h3, h4]
end
/-- data that can be told -/
structure D.Tel (d : D) : Prop where
  ok : d.ok = true
  sho : d.sho = true
  dep : d.dep ≤ 50
  wid : d.wid ≤ 1000000
/-- a value that can be told, over the heap -/
structure TelP (d : PyData) : Prop where
  s : d.showable = true
  n : d.hasDict = false
  dep : d.depth ≤ 50
  z : d.shown.length ≤ 1000000
theorem D.Tel.p {d : D} (h : d.Tel) : TelP d.toP := ⟨(toP_sho d h.sho).1, (toP_sho d h.sho).2, by rw [toP_dep]; exact h.dep, Nat.le_trans (shown_wid d h.ok h.sho) h.wid⟩
section
variable {X : Cx} {k : Nat} {e : Expr} {te : TE} {pos : Pos}
theorem TelP.sz {d : PyData} (h : TelP d) : d.shown.length ≤ sizeLine := by have := h.z; rw [sizeLine_eq]; omega
theorem reprObj_data {pins : List (Addr × Obj)} {σ : L2.St} {H : Hp} {s : Shared} {v : V} {u : Value} {d : PyData} {Q : Value → Shared → Prop} {E : Value → Shared → Prop} (hr : Room k X.A) (I : Inv X pins σ H s) (hd : Dp X.K H v d) (rv : RelV v u) (T : TelP d)
    (h : ∀ s' tk, Inv X pins σ H s' → Q (.str d.shown tk) s') : wpAny (model X.prog X.w) X.A (pyReprObj u) Q E s := by
  obtain ⟨as, r⟩ := Dp.reads I d v u hd rv
  have hz := T.sz
  have hs := T.s
  have go : ∀ a, u = .ref a → wpAny (model X.prog X.w) X.A (pyReprObj u) Q E s := by
    rintro a rfl
    exact pyReprObj_of_reads (h₀ := s.heap) r hs (PyData.noDict_hsm T.n) hr.gd (by have := hr.un; have := T.dep; omega) (fun _ _ e => e) (fun h' u tk k => h _ _ (I.kept (t' := tk) k)) hz
  cases r with
  | none => exact pyReprObj_none (h _ _ (I.tok _))
  | bool b => exact pyReprObj_bool (h _ _ (I.tok _))
  | int i t => exact pyReprObj_int (by simpa [PyData.showable] using hs) (h _ _ (I.tok _))
  | str x t => exact pyReprObj_str (h _ _ (I.tok _)) hz
  | list => exact go _ rfl
  | tuple => exact go _ rfl
  | dict => exact go _ rfl
/-- {x!r} of data -/
def tFmtD (K : PySem.W.Frag) (te : TE) : TE := fun σ H Q => te σ H fun x H1 => ∃ d, Dp K H1 x d ∧ TelP d ∧ Q (.str d.shown) H1
theorem pe_fmtD (hr : Room k X.A) (he : PE X e te) : PE X (.FormattedValue e 114 none pos) (tFmtD X.K te) := by
  refine ⟨fun pins s σ H Q I h => ?_⟩
  refine wpAny_FormattedValue_repr (thn (he.run pins s σ H _ I h) ?_)
  rintro v s1 ⟨x, H1, I1, r1, d, hd, T, q⟩
  refine reprObj_data hr I1 hd r1 T fun s' tk I2 => ?_
  exact wpAny_formatField_str ⟨.str d.shown, H1, I2, ⟨_, rfl⟩, q⟩ ⟨.str d.shown, H1, I2.tok _, ⟨_, rfl⟩, q⟩ T.sz
/-- repr(x) of a tuple or a list -/
def rRepr (K : PySem.W.Frag) : List V → Hp → VK → Prop := fun xs H Q => ∃ a d, xs = [.ref a] ∧ Dp K H (.ref a) d ∧ TelP d ∧ Q (.str d.shown) H
theorem call_reprD (hr : Room k X.A) : CallR X (.builtin "repr") (rRepr X.K) := by
  intro pins s σ H xs us Q I r h
  obtain ⟨a, d, rfl, hd, T, q⟩ := h
  cases r with
  | @cons _ u _ ur ra rr =>
    cases rr
    cases (show u = Value.ref a from ra)
    obtain ⟨as, rd⟩ := Dp.reads I d (.ref a) (.ref a) hd rfl
    exact repr_of_reads' (h₀ := s.heap) rd T.s (PyData.noDict_hsm T.n) hr.gd (by have := hr.un; have := T.dep; omega) (fun _ _ e => e) (fun h' u tk k => ⟨.str d.shown, H, I.kept (t' := tk) k, ⟨_, rfl⟩, q⟩) T.sz
end
section
variable {F : Fr} {U U2 : US} {ρ ρ' ρ2 : En} {σ σ2 : L2.St} {H H' H2 : Hp} {K : PySem.W.Frag}
def eFmtD (f : T3E) : T3E := fun ρ Q => f ρ fun r ρ1 => wd r ρ1 fun d => d.Tel ∧ Q (.val (.str d.toP.shown)) ρ1
theorem simFmtD {t : TE} {f : T3E} (h : SimE K t f) : SimE K (tFmtD K t) (eFmtD f) := by
  intro F U ρ σ H Q3 Q2 e R q k
  refine h F U ρ σ H _ _ e R q fun r v ρ1 H1 R1 s1 q1 h1 => ?_
  subst e
  obtain ⟨d, e1, T, h2⟩ := wd_out h1
  exact ⟨d.toP, q1.dp R1 e1 T.ok, T.p, k (.val (.str _)) _ _ _ R1 s1 (show Rp F.K H1 U _ _ from rp_str) h2⟩
/-- {x} of a text or an int -/
def eFmtS (f : T3E) : T3E := fun ρ Q => f ρ fun r ρ1 => wd r ρ1 fun d => match d with
  | .str y => y.length ≤ sizeLine ∧ Q (.val (.str y)) ρ1
  | .int i => i.natAbs.log2 < 1920 ∧ Q (.val (.str (toString i))) ρ1
  | _ => False
theorem simFmtS {t : TE} {f : T3E} (h : SimE K t f) : SimE K (tFmt t) (eFmtS f) := by
  intro F U ρ σ H Q3 Q2 e R q k
  refine h F U ρ σ H _ _ e R q fun r v ρ1 H1 R1 s1 q1 h1 => ?_
  subst e
  obtain ⟨d, e1, h2⟩ := wd_out h1
  cases d <;> first | exact h2.elim | skip
  · exact .inr ⟨_, q1.int R1 e1, h2.1, k (.val (.str _)) _ _ _ R1 s1 (show Rp F.K H1 U _ _ from rp_str) h2.2⟩
  · exact .inl ⟨_, q1.str R1 e1, h2.1, k (.val (.str _)) _ _ _ R1 s1 (show Rp F.K H1 U _ _ from rp_str) h2.2⟩
def cRepr (rs : List Rs) (ρ : En) (Q : Rs → En → Prop) : Prop := w1 rs ρ fun d => match d with
  | .tup ds => (D.tup ds).Tel ∧ Q (.val (.str (D.tup ds).toP.shown)) ρ
  | .lst ds => (D.lst ds).Tel ∧ Q (.val (.str (D.lst ds).toP.shown)) ρ
  | _ => False
theorem simRepr : SimCR K (rRepr K) cRepr := by
  intro F U ρ σ H vs rs Q3 Q2 e R q h k
  obtain ⟨x, v, d, rfl, rfl, q1, e1, h⟩ := w1_out q h
  subst e
  cases d <;> first | exact h.elim | skip
  all_goals
    rename_i ds
    obtain ⟨T, h⟩ := h
    have dp := q1.dp R e1 T.ok
    have : ∃ a, v = .ref a := by
      simp only [D.toP] at dp
      cases dp
      exact ⟨_, rfl⟩
    obtain ⟨a, rfl⟩ := this
    exact ⟨a, _, rfl, dp, T.p, k (.val (.str _)) _ _ _ R (.refl R) (show Rp F.K H U _ _ from rp_str) h⟩
/-! ### f-strings -/
def dJs : List T3E → Str → En → (Str → En → Prop) → Prop
  | [], acc, ρ, Q => Q acc ρ
  | f :: fs, acc, ρ, Q => f ρ fun r ρ1 => wd r ρ1 fun d => match d with
    | .str y => (acc ++ y).length ≤ sizeLine ∧ dJs fs (acc ++ y) ρ1 Q
    | _ => False
def eJs (fs : List T3E) : T3E := fun ρ Q => dJs fs Str.empty ρ fun y ρ1 => Q (.val (.str y)) ρ1
inductive SimJ (K : PySem.W.Frag) : List TE → List T3E → Prop
  | nil : SimJ K [] []
  | cons {t : TE} {f : T3E} {ts : List TE} {fs : List T3E} : SimE K t f → SimJ K ts fs → SimJ K (t :: ts) (f :: fs)
theorem simJs {ts : List TE} {fs : List T3E} (h : SimJ K ts fs) : ∀ (F : Fr) (U : US) (ρ : En) (σ : L2.St) (H : Hp) (acc : Str) (Q3 : Str → En → Prop) (Q2 : Str → Hp → Prop), F.K = K → Rel F U ρ σ H → dJs fs acc ρ Q3 →
    (∀ y ρ' H', Rel F U ρ' σ H' → Stp ρ σ H ρ' H' → Q3 y ρ' → Q2 y H') → tJs ts acc σ H Q2 := by
  induction h with
  | nil => exact fun F U ρ σ H acc Q3 Q2 e R q k => k acc ρ H R (.refl R) q
  | @cons t f ts fs h hr ih =>
    intro F U ρ σ H acc Q3 Q2 e R q k
    refine h F U ρ σ H _ _ e R q fun r v ρ1 H1 R1 s1 q1 h1 => ?_
    obtain ⟨d, e1, h2⟩ := wd_out h1
    cases d <;> first | exact h2.elim | skip
    rename_i y
    exact ⟨y, q1.str R1 e1, h2.1, ih F U ρ1 σ H1 _ _ _ e R1 h2.2 fun y' ρ' H' R' s' z => k y' ρ' H' R' (s1.trans s') z⟩
theorem simJoined {ts : List TE} {fs : List T3E} (h : SimJ K ts fs) : SimE K (fun σ H Q => tJs ts Str.empty σ H fun out H1 => Q (.str out) H1) (eJs fs) := by
  intro F U ρ σ H Q3 Q2 e R q k
  exact simJs h F U ρ σ H _ _ _ e R q fun y ρ' H' R' s' z => k (.val (.str y)) _ ρ' H' R' s' (show Rp F.K H' U _ _ from rp_str) z
end
section
variable {ι : Type} {X : ι → Cx} {K : PySem.W.Frag} {pos p : Pos} {e v1 v2 : Expr} {es rest : List Expr} {f g : T3E} {fs : List T3E} {fa : T3A} {k : Nat}
structure QJ {ι : Type} (K : PySem.W.Frag) (X : ι → Cx) (es : List Expr) (fs : List T3E) : Prop where
  ex : ∃ ts, (∀ i, PJ (X i) es ts) ∧ SimJ K ts fs
theorem jn : QJ K X [] [] := ⟨[], fun _ => .nil, .nil⟩
theorem jc (h : QE K X e f) (r : QJ K X es fs) : QJ K X (e :: es) (f :: fs) := let ⟨t, a1, a2⟩ := h.ex; let ⟨ts, b1, b2⟩ := r.ex; ⟨t :: ts, fun i => .cons (a1 i) (b1 i), .cons a2 b2⟩
theorem qjoin (h : QJ K X (v1 :: v2 :: rest) fs) : QE K X (.JoinedStr (v1 :: v2 :: rest) pos) (eJs fs) := let ⟨_, a1, a2⟩ := h.ex; ⟨_, fun i => pe_joined (a1 i), simJoined a2⟩
theorem qjoin1 (h : QE K X e f) : QE K X (.JoinedStr [e] pos) f := let ⟨t, a1, a2⟩ := h.ex; ⟨t, fun i => pe_joined1 (a1 i), a2⟩
theorem qfmtD (hR : ∀ i, Room k (X i).A) (h : QE K X e f) (hK : ∀ i, (X i).K = K := by exact fun _ => rfl) : QE K X (.FormattedValue e 114 none pos) (eFmtD f) := let ⟨t, a1, a2⟩ := h.ex; ⟨tFmtD K t, fun i => hK i ▸ pe_fmtD (hR i) (a1 i), simFmtD a2⟩
theorem qfmtS (h : QE K X e f) : QE K X (.FormattedValue e (-1) none pos) (eFmtS f) := let ⟨t, a1, a2⟩ := h.ex; ⟨_, fun i => pe_fmt (a1 i), simFmtS a2⟩
theorem qrepr (hR : ∀ i, Room k (X i).A) (hm : ∀ i, (X i).mg "repr" = none) (ha : QA K X [e] fa) (hg : ∀ i, Gl (X i) "repr" := by exact fun _ => rfl) (hK : ∀ i, (X i).K = K := by exact fun _ => rfl)
    (hst : ∀ i, starEach [e] (X i).env = (false, eval e (X i).env) :: starEach [] (X i).env := by exact fun _ => rfl) (hpl : ∀ i, (backTo pos (starEach [] (X i).env)).any (·.1) = false := by exact fun _ => rfl) :
    QE K X (.Call (.Name "repr" p) [e] [] pos) (eCB cRepr fa) := qcb (fun i => hK i ▸ call_reprD (hR i)) simRepr hm PyProof.Rows.boot_repr ha hg (by decide) (by decide) hst hpl
end
end L3

set_option Elab.async false
set_option linter.all false
set_option maxRecDepth 100000
/-! an exception's __init__ that says super().__init__(f'..') -/
namespace L3
open PySem PySem.Spec L2 PyProof.Rows
structure FnScopeX (N P : List Str) (sc : Scope) : Prop where
  kind : sc.kind = .function
  co : sc.isCoroutine = false
  gen : sc.isGenerator = false
  nd : N.Nodup
  pre : N.take P.length = P
  par : ∀ x ∈ P, sc.names.lookup x = some .local
  nocell : ∀ y ∈ sc.names, y.2 ≠ .cell
  free : ∀ y ∈ sc.names, y.2 = .free → y.1 = ("__class__" : Str)
  cls : sc.names.lookup ("__class__" : Str) = some .free
  sup : sc.names.lookup ("super" : Str) = some .globalImplicit
abbrev envS (qual : Str) (scope : Scope) (L f : Addr) (cd : Value) (cc : Addr) : Env := PySem.W.ksEnv qual scope L f cd cc
/-- the context of such a def's body -/
abbrev cxS (CX : CXT) (P : Program) (w : World) (K : PySem.W.Frag) (mg : Str → Option Value) (base : Heap) (N : List Str) (qual : Str) (scope : Scope) (f : Addr) (cd : Value) (cc : Addr) (A : Around) (outer : List Env) (s : Shared) (H : Hp) (E : XK) : Cx where
  prog := P
  w := w
  K := K
  mg := mg
  base := base
  A := A.deeper (envS qual scope s.heap.objs.size f cd cc)
  N := N
  s_0 := s
  H_0 := H
  env := envS qual scope s.heap.objs.size f cd cc
  outer := outer
  stack := envS qual scope s.heap.objs.size f cd cc :: outer
  ex := []
  fn := fun x => x != ("__class__" : Str)
  calm := true
  pn := []
  xe := fun e s' => wpAny (model P w) (A.deeper (envS qual scope s.heap.objs.size f cd cc)) (leaving (envS qual scope s.heap.objs.size f cd cc) e) (fun _ s'' => CX outer H s E e s'') (fun e' s'' => CX outer H s E e' s'') s'
theorem lookup_mem : ∀ {l : List (Str × Value)} {y : Str} {u : Value}, (l.map (·.1)).Nodup → (y, u) ∈ l → l.lookup y = some u
  | (z, v) :: l, y, u, hn, h => by
    rw [List.map_cons, List.nodup_cons] at hn
    rw [List.lookup_cons]
    rcases List.mem_cons.mp h with e | h
    · cases e
      simp
    · have ne : (y == z) = false := by
        rw [beq_eq_false_iff_ne]
        intro e
        exact hn.1 (e ▸ List.mem_map_of_mem (f := (·.1)) h)
      rw [ne]
      exact lookup_mem hn.2 h
theorem zip_lookup {ps : List Str} {us : List Value} {i : Nat} {y : Str} {u : Value} (hn : ps.Nodup) (hl : us.length = ps.length) (h1 : ps[i]? = some y) (h2 : us[i]? = some u) : (ps.zip us).reverse.lookup y = some u := by
  refine lookup_mem ?_ ?_
  · rw [List.map_reverse, List.map_fst_zip (by omega)]
    exact List.pairwise_reverse.mpr (List.Pairwise.imp (fun h => Ne.symm h) hn)
  · rw [List.mem_reverse]
    exact List.mem_of_getElem? (i := i) (by rw [List.getElem?_zip_eq_some]; exact ⟨h1, h2⟩)
section
variable {CX : CXT} {P : Program} {w : World} {K : PySem.W.Frag} {mg : Str → Option Value} {base : Heap} {N ps : List Str} {name qual : Str} {scope : Scope} {f cc cda C : Addr} {cd cl : Value} {cld : Option Addr} {csl : Array (Option Value)} {cv : Value} {A : Around} {outer : List Env} {s : Shared} {H : Hp} {E : XK} {us : List Value} {vs : List V}
theorem inv_startS (S : FnScopeX N ps scope) (hd : A.handled = none) (e0 : Env0 P w K mg base A outer s H) (hl : vs.length = ps.length) (r : Vals vs us) (hcc : K.lookup cc = some ⟨cl, cld, .cell (some cv), csl⟩) {h₁ : Heap} {tk : Nat}
    (hns : h₁.Ns s.heap.objs.size (fun x => (ps.zip us).reverse.lookup x)) (hk : ∀ b o, s.heap.get? b = some o → h₁.get? b = some o) : Inv (cxS CX P w K mg base N qual scope f cd cc A outer s H E) [] (L2.start N vs) H { s with heap := h₁, toks := tk } := by
  have hpl : ps.length ≤ N.length := by have := congrArg List.length S.pre; rw [List.length_take] at this; omega
  have hb : base.get? cc = some ⟨cl, cld, .cell (some cv), csl⟩ := e0.mod.kin _ _ hcc
  have hcs := e0.bs _ _ hb
  have cell : ∀ x c, (envS qual scope s.heap.objs.size f cd cc).cells.lookup x = some c → x = "__class__" ∧ c = cc := by
    intro x c h
    have h : [(("__class__" : Str), cc)].lookup x = some c := h
    rw [List.lookup_cons] at h
    cases e : (x == ("__class__" : Str)) with
    | true => rw [e] at h; exact ⟨beq_iff_eq.mp e, (Option.some.inj h).symm⟩
    | false => rw [e] at h; cases h
  have noA : ∀ b : Addr, b ∉ ([] : List Addr) := fun b z => by simp at z
  refine ⟨⟨e0.mod, S.kind, rfl, rfl, Nat.le_refl _, fun x y c h1 h2 => (cell x c h1).1.trans (cell y c h2).1.symm, fun y hy => ?_, fun y c hf h => ?_, fun _ => hd, Around.frames_deeper e0.frames, .inr ⟨rfl, rfl⟩, fun b z => absurd z (noA b), e0.bs, e0.bsz, fun b _ _ => noA b, fun b z => absurd z (noA b), e0.funs, e0.frf⟩,
    rfl, e0.bare, Un.kept hk, ⟨_, hns, fun i y v h1 h2 h3 => ?_⟩, fun x c h => ?_, e0.hok.fresh (Nat.le_refl _), fun x c h => ?_, fun p hp => absurd (show p ∈ ([] : List (Addr × Obj)) from hp) (by simp), e0.hok.kept hk, ?_⟩
  · have hy : scope.names.lookup y = some .cell ∨ scope.names.lookup y = some .free := hy
    rcases hy with hy | hy
    · exact absurd rfl (S.nocell _ (PySem.mem_of_lookup hy))
    · have e := S.free _ (PySem.mem_of_lookup hy) rfl
      exact ⟨cc, show [(("__class__" : Str), cc)].lookup y = some cc by rw [show y = "__class__" from e]; rfl⟩
  · have e := (cell y c h).1
    have hf : (y != ("__class__" : Str)) = true := hf
    rw [e] at hf
    simp at hf
  · have hi : i < vs.length := by
      unfold L2.start at h2
      by_cases hi : i < vs.length
      · exact hi
      · rw [List.getElem?_append_right (by simpa using hi), List.getElem?_replicate] at h2
        split at h2 <;> cases h2
    have ha : vs[i]? = some v := by
      unfold L2.start at h2
      rw [List.getElem?_append_left (by simpa using hi), List.getElem?_map] at h2
      cases e : vs[i]? with
      | none => rw [e] at h2; cases h2
      | some a => rw [e] at h2; cases h2; rfl
    obtain ⟨u, hu, rv⟩ := r.get ha
    have hp : ps[i]? = some y := by
      rw [← S.pre, List.getElem?_take_of_lt (by omega)]; exact h1
    have ndP : ps.Nodup := by rw [← S.pre]; exact S.nd.sublist (List.take_sublist _ _)
    exact ⟨u, rv, .inl ⟨S.par y (List.mem_of_getElem? hp), zip_lookup ndP (r.length.symm.trans hl) hp hu⟩⟩
  · obtain ⟨_, rfl⟩ := cell x c h
    exact ⟨some cv, _, hk _ _ hcs.1, rfl⟩
  · obtain ⟨_, rfl⟩ := cell x c h
    exact hcs.2
  · unfold L2.start
    show _ = N.length
    rw [List.length_append, List.length_map, List.length_replicate]
    omega
end
section
variable {X : Cx} {pins : List (Addr × Obj)} {σ : L2.St} {H : Hp} {s : Shared} {a C u : Addr} {E : Value → Shared → Prop} {A : Around}
/-- the bound built-in __init__ called: nothing of it is told -/
theorem call_mw {us : List Value} {Q : Value → Shared → Prop} (T : OexC X.K C) (I : Inv X pins σ H s) (e : H a = some (exo a C none)) (hu : s.heap.get? u = some (PySem.W.kxs_mw "ValueError.__init__" a)) (hl : us.length ≤ sizeLine)
    (h : ∀ s', Inv X pins σ H s' → Q .none s') : wpAny (model X.prog X.w) A (call (.ref u) us) Q E s := by
  obtain ⟨nm, q, N, bs, bm, sn, sub, ab, col, dd, k0, k1, k2, k3, k5, hC, hbm⟩ := T.cls
  obtain ⟨t1, ho⟩ := exo_at I.hok e
  have hC' := I.kIn _ _ hC
  obtain ⟨hp, g, d, t, os⟩ := s
  refine wpAny_call (codeAny_of_tree ?_)
  show wpAny _ A.in1 (callAny (.ref u) ⟨us, []⟩) _ _ _
  simp only [callAny]
  refine wpAny_bind (wpAny_load hu ?_)
  simp only [PySem.W.kxs_mw, show (Value.type "method-wrapper" == Value.type "method" || Value.type "method-wrapper" == Value.type "builtin_function_or_method" || Value.type "method-wrapper" == Value.type "method-wrapper") = true by decide, if_true]
  refine PySem.W.KFB.if_so (by decide) (wpAny_bind (PySem.W.check_bound_init F.excBase_ValueError.toExcCallFacts hC' ho rfl (wpAny_bind (wpAny_pure (wpAny_pure ?_)))))
  refine ⟨plainId_quiet F.excBase_ValueError.init.plain _, codeAny_builtin F.excBase_ValueError.initEntry ?_⟩
  refine PySem.W.exc_init_tree (cls := .ref C) (t0 := t1) (dv := none) (c2 := .none) (c3 := .none) (b4 := .bool false) ho hl ?_
  intro h' k hx ht
  have J := I.write (t' := t) (x := a) (e := a) (o := exo a C none) (by rw [e]; exact True.intro) (.inl rfl) k ⟨_, hx⟩ (exo_ok hx)
  have eu : upd H a (exo a C none) = H := by
    funext b
    by_cases hb : b = a
    · rw [hb, upd_same, e]
    · rw [upd_ne hb]
  rw [eu] at J
  exact h _ J
end
/-- what the top has made of such a def -/
structure DfX (K : PySem.W.Frag) (x qual : Str) (st : Stmt) (C f : Addr) : Prop where
  ex : ∃ (oc kV doc pm ct cl ccl : Value) (od an cld cdd : Option Addr) (osl csl ccs : Array (Option Value)) (cda cc : Addr) (vs : Array Value) (file : Str) (tf : Tok),
    K.lookup f = some ⟨oc, od, .func (PySem.W.ksFn x qual (defArgs st) (defBody st) (defScope st) .none kV doc pm an (.ref cda) ct cc), osl⟩ ∧ PySem.W.codeIn K (.ref cda) qual = true ∧
    K.lookup cda = some ⟨ccl, cdd, .fields vs, ccs⟩ ∧ vs[2]? = some (.str file tf) ∧ file = ("/claim/cut.py" : Str) ∧ K.lookup cc = some ⟨cl, cld, .cell (some (.ref C)), csl⟩
/-- what is asked of the program's own text -/
structure PrO (P : Program) : Prop where
  file : P.main.file = ("/claim/cut.py" : Str)
  top : (P.main.scope.names.lookup ("super" : Str)).isSome = false
section
variable {CX : CXT} {P : Program} {w : World} {K : PySem.W.Frag} {mg : Str → Option Value} {base : Heap} {N ps : List Str} {x qual : Str} {st : Stmt} {f C : Addr} {k : Nat} {sp : Sp} {p0 p1 p2 p3 p4 : Pos} {ex : Expr} {rest : List Stmt} {ar : Arg} {pl : Env → Sem Bool}
/-- the parameters take the values one by one -/
def BindX (x qual : Str) (st : Stmt) (ps : List Str) : Prop := ∀ (kV doc pm : Value) (an : Option Addr) (cdv ct : Value) (cc : Addr) (us : List Value), us.length = ps.length → bindArgs (PySem.W.ksFn x qual (defArgs st) (defBody st) (defScope st) .none kV doc pm an cdv ct cc) ⟨us, []⟩ = pure (ps.zip us)
/-- super().__init__(ex), then the rest -/
theorem fn_sup (D : DfX K x qual st C f) (hbn : BindX x qual st ps) (S : FnScopeX N ps (defScope st)) (hP : PrO P) (hb : defBody st = .Expr (.Call (.Attribute (.Call (.Name "super" p0) [] [] p1) "__init__" p2) [ex] [] p3) p4 :: rest)
    (hst : ∀ env, starEach [ex] env = (false, eval ex env) :: starEach [] env) (hsw : ∀ env, swapsWith (.Call (.Attribute (.Call (.Name "super" p0) [] [] p1) "__init__" p2) [ex] [] p3) none p4.line env = pure false)
    (hcall : ∀ env, eval (.Call (.Attribute (.Call (.Name "super" p0) [] [] p1) "__init__" p2) [ex] [] p3) env = (do
      let ov ← attributeBase (.Call (.Name "super" p0) [] [] p1) "__init__" env (eval (.Call (.Name "super" p0) [] [] p1) env)
      standAt p2.atName
      let (f, first) ← holding [ov] (getMethod ov "__init__" (pl env))
      callWith p3 f first (backTo p3 (starEach [ex] env)) []))
    (hfst : ((defArgs st).posonlyargs ++ (defArgs st).args).head? = some ar) (hs0 : ps[0]? = some ar.arg) (T : OexC K C) (hm : PySem.W.ks_superIn K C C "__init__" = some (some (.builtin "ValueError.__init__"))) (hB : PySem.W.subIn K (.ref C) (.type "ValueError") = some true)
    (hCC : PySem.W.mroIn K C (.ref C) = some true) (hop : PySem.W.nsIn K cStatics "thirdparty.any" = some none) (hsm : mg "super" = none) (len : ∀ vs H Q E, sp vs H Q E → vs.length = ps.length)
    (hbd : ∀ (cda cc : Addr) (A : Around) (outer : List Env) (s : Shared) (H : Hp) (vs : List V) (Q : VK) (E : XK), Room k (A.deeper (envS qual (defScope st) s.heap.objs.size f (.ref cda) cc)) → sp vs H Q E →
      ∃ a te t, vs[0]? = some (.ref a) ∧ H a = some (exo a C none) ∧ PA (cxS CX P w K mg base N qual (defScope st) f (.ref cda) cc A outer s H E) [ex] te ∧ PSs (cxS CX P w K mg base N qual (defScope st) f (.ref cda) cc A outer s H E) rest t ∧
        te (L2.start N vs) H fun us H1 => us.length ≤ 1000 ∧ H1 a = some (exo a C none) ∧ t { nx := fun _ H' => Q .non H', rt := Q } (L2.start N vs) H1) :
    ∃ fd, FnOk P w K mg base CX (k + 1) f fd ps sp ∧ Binds K fd ps [] := by
  obtain ⟨oc, kV, doc, pm, ct, cl, ccl, od, an, cld, cdd, osl, csl, ccs, cda, cc, vsC, file, tf, lk, hcd, hcode, hvs, hfile, hcell⟩ := D.ex
  refine ⟨_, ⟨len, ?_⟩, Binds.all (hbn kV doc pm an (.ref cda) ct cc)⟩
  intro A outer s H args us vs Q E hr e0 hbnd r hsp
  have KX : K.In s.heap := e0.mod.kin.keeps fun b o e => (e0.bs b o e).1
  have lim : s.heap.NoLimit := e0.mod.nolimit.keeps fun b o e => (e0.bs b o e).1
  have hl := len _ _ _ _ hsp
  have hloc : ∀ y ∈ ps.zip us, (defScope st).names.lookup y.1 = some .local := by
    rintro ⟨n, v⟩ hy
    exact S.par n (List.of_mem_zip hy).1
  refine ks_codeAny_call_defAt (binds := ps.zip us) hr.depth (KX _ _ lk) rfl lim (PySem.W.codeRec_of KX hcd) rfl hbnd S.nocell hloc ?_ S.co S.gen S.kind
  intro h₁ hns hk₁
  obtain ⟨a, te, t, ea, eH, hte, ht, hq⟩ := hbd cda cc A outer s H vs Q E (hr.deeper _) hsp
  have I : Inv (cxS CX P w K mg base N qual (defScope st) f (.ref cda) cc A outer s H E) [] (L2.start N vs) H { s with heap := h₁, toks := s.toks + (ps.zip us).length } := inv_startS S hr.hd e0 hl r hcell hns hk₁
  generalize s.toks + (ps.zip us).length = tk at I ⊢
  have ndP : ps.Nodup := by rw [← S.pre]; exact S.nd.sublist (List.take_sublist _ _)
  obtain ⟨u0, hu0, ru0⟩ := r.get ea
  cases (show u0 = Value.ref a from ru0)
  have hself := zip_lookup ndP (r.length.symm.trans hl) hs0 hu0
  have K1 := I.kIn
  obtain ⟨nm, q, NN, bs, bm, sn, sub, ab, col, dd, k0, k1, k2, k3, k5, hC, hbm⟩ := T.cls
  have hC1 := K1 _ _ hC
  obtain ⟨t1, ho⟩ := exo_at I.hok eH
  obtain ⟨mb, b1, b2⟩ := I.mod.blt
  rw [hb]
  refine ks_wpAt_execs_cons (ks_wpAt_Expr_any (ks_wpAt_MethodCall ?_ (hcall _)) I.quiet (hsw _))
  refine ks_wpAt_super_base (env := envS qual (defScope st) s.heap.objs.size f (.ref cda) cc) S.sup S.cls (by decide) rfl (K1 _ _ lk) rfl hfst rfl (K1 _ _ hcode) rfl hvs (by rw [hP.file, hfile]; exact beq_self_eq_true _) hP.top ?_
  refine PySem.W.ks_loadName_global S.kind S.sup (Calls.loadGlobal_builtin (I.mod.glob.keeps I.bk) hsm (b1.keeps I.bk) ((b2 _ (by decide)).trans (by decide +kernel : bootBuiltins "super" = some (.type "super"))) ⟨rfl, ?_⟩)
  refine wpAny_loadName_free S.kind S.cls rfl ⟨_, K1 _ _ hcell, rfl⟩ ?_
  refine wpAny_loadName_local S.kind (S.par _ (List.mem_of_getElem? hs0)) hns hself ?_
  refine ks_wpAny_isType_cls hC1 rfl ⟨rfl, ?_⟩
  refine ks_wpAny_call_super hC1 rfl ho rfl (fun c e => by cases e) (PySem.W.looks_mroIn K1 hCC) ?_
  intro h2 hso hk2
  have I2 := I.kept (h' := h2) (t' := tk) hk2
  have K2 := I2.kIn
  cases hc : PySem.W.clsIn K C with
  | none => unfold PySem.W.ks_superIn at hm; rw [hc] at hm; cases hm
  | some cdat =>
  unfold PySem.W.ks_superIn at hm
  rw [hc] at hm
  have ho2 := hk2 _ _ ho
  have J2 : PySem.W.InstAt h2 a { cls := .ref C, dict := none, data := .fields #[.ref t1, .none, .none, .none, .bool false, .none] } C none := ⟨ho2, rfl, rfl, trivial⟩
  refine PySem.W.kxs_getMethod PySem.W.kxs_ValueError hso (PySem.W.looks_opaque K2 hop) (l₀ := cdat.mro) (fun A Q E s k q => wpAny_bind ((PySem.W.looks_clsIn K2 hc) A _ E s k (wpAny_pure q))) rfl K2 hm (J2.type.andThen (PySem.W.looks_subIn K2 hB)) (PySem.W.ks_ne K2 J2 hc) (by decide) ?_
  have hk3 : ∀ b o, h2.get? b = some o → (h2.push (PySem.W.kxs_mw "ValueError.__init__" a)).get? b = some o := fun b o e => Heap.get?_push_of_some _ e
  have hu : (h2.push (PySem.W.kxs_mw "ValueError.__init__" a)).get? h2.objs.size = some (PySem.W.kxs_mw "ValueError.__init__" a) := Heap.get?_push_at rfl rfl
  have I3 := I2.kept (h' := h2.push (PySem.W.kxs_mw "ValueError.__init__" a)) (t' := tk + 1) hk3
  have I4 := I3.pins_of (pins' := [(h2.objs.size, PySem.W.kxs_mw "ValueError.__init__" a)]) (by
    intro p hp
    have hp : p ∈ [(h2.objs.size, PySem.W.kxs_mw "ValueError.__init__" a)] := hp
    rw [List.mem_singleton] at hp
    subst hp
    refine ⟨hu, I2.hok.fresh (Nat.le_refl _), fun z => ?_, I2.nofs (Nat.le_refl _), fun v z => by cases z⟩
    have := I2.lt
    exact absurd this (by rw [← z]; exact Nat.lt_irrefl _))
  show wpAny _ _ (callWith p3 (.ref h2.objs.size) [] (backTo p3 (starEach [ex] (envS qual (defScope st) s.heap.objs.size f (.ref cda) cc))) []) _ _ _
  have hrun := hte.run p3 _ _ _ _ _ I4 hq
  have hst' := hst (envS qual (defScope st) s.heap.objs.size f (.ref cda) cc)
  have hrun : wpAny (model P w) (A.deeper (envS qual (defScope st) s.heap.objs.size f (.ref cda) cc)) (spliced (backTo p3 (starEach [ex] (envS qual (defScope st) s.heap.objs.size f (.ref cda) cc)))) _ _ _ := hrun
  rw [hst'] at hrun ⊢
  refine PySem.W.kxs_callWith (i := "ValueError.__init__") (x := a) rfl (Calls.evalArgs_plain (wpAny_mono hrun ?_ fun _ _ z => z))
  rintro us' s4 ⟨vs', H1, I5, r', hlen, eH1, hq'⟩
  have hu4 := (I5.pin (h2.objs.size, PySem.W.kxs_mw "ValueError.__init__" a) (List.mem_append_right _ (List.mem_singleton.mpr rfl))).1
  refine ⟨hu4, call_mw T I5 eH1 hu4 (by show us'.length ≤ _; rw [← r'.length, sizeLine_eq]; omega) fun s5 I6 => ?_⟩
  have I7 := I6.pins_of (pins' := []) fun p hp => absurd (show p ∈ ([] : List (Addr × Obj)) from hp) (by simp)
  refine wpAt_of_wpAny (wpAny_mono (ht.run [] s5 _ _ _ I7 hq') ?_ fun e s' hs => hs)
  intro fl s' hs
  cases fl with
  | ret u =>
    obtain ⟨v, σ', H', J, rv, q⟩ := hs
    exact ⟨v, H', J.os, J.bare, J.base, J.hok, rv, q⟩
  | next =>
    obtain ⟨σ', H', J, q⟩ := hs
    exact ⟨.non, H', J.os, J.bare, J.base, J.hok, rfl, q⟩
  | brk =>
    obtain ⟨_, _, _, q⟩ := hs
    exact False.elim q
  | cont =>
    obtain ⟨_, _, _, q⟩ := hs
    exact False.elim q
end
end L3

set_option Elab.async false
set_option linter.all false
set_option maxRecDepth 100000
namespace L3
open PySem PySem.Spec L2 PyProof.Rows
/-! ### exceptions of one field, of two -/
def D.tel (d : D) : Bool := d.ok && d.sho && decide (d.dep ≤ 50) && decide (d.wid ≤ 1000000)
theorem tel_iff {d : D} : d.tel = true ↔ d.Tel := by
  unfold D.tel
  rw [Bool.and_eq_true, Bool.and_eq_true, Bool.and_eq_true, decide_eq_true_eq, decide_eq_true_eq]
  exact ⟨fun ⟨⟨⟨a, b⟩, c⟩, d⟩ => ⟨a, b, c, d⟩, fun ⟨a, b, c, d⟩ => ⟨⟨⟨a, b⟩, c⟩, d⟩⟩
/-- told as it is -/
def D.pln : D → Bool
  | .int i => decide (i.natAbs.log2 < 1920)
  | .str s => decide (s.length ≤ 100000)
  | _ => false
def D.tk (b : Bool) (d : D) : Bool := if b = true then d.pln else d.tel
def fl1 (f : Str) (b : Bool) : List D → Option (List (Str × D))
  | [d] => if d.tk b = true then some [(f, d)] else none
  | _ => none
def fl2 (f g : Str) : List D → Option (List (Str × D))
  | [d, e] => if (d.tel && e.tel) = true then some [(g, e), (f, d)] else none
  | _ => none
inductive JP (K : PySem.W.Frag) (bs : List Bool) : List TE → Prop
  | nil : JP K bs []
  | lit {s : Str} {ts : List TE} : s.length ≤ 1000 → JP K bs ts → JP K bs (tC (.str s) :: ts)
  | rep {j : Nat} {ts : List TE} : bs[j]? = some false → JP K bs ts → JP K bs (tFmtD K (tVar (j + 1)) :: ts)
  | pln {j : Nat} {ts : List TE} : bs[j]? = some true → JP K bs ts → JP K bs (tFmt (tVar (j + 1)) :: ts)
section
variable {K : PySem.W.Frag} {U : US} {H : Hp} {σ : L2.St} {bs : List Bool} {ts : List TE}
theorem app_len (x y : Str) : (x ++ y).length = x.length + y.length := by rw [TL.len_tl, TL.tl_append, List.length_append, ← TL.len_tl, ← TL.len_tl]
theorem jp_run (h : JP K bs ts) : ∀ (acc : Str) (Q : Str → Hp → Prop), (∀ j b, bs[j]? = some b → ∃ v d, σ[j + 1]? = some (some v) ∧ Rp K H U d v ∧ d.tk b = true) → acc.length + 1000000 * ts.length ≤ sizeLine → (∀ y, Q y H) → tJs ts acc σ H Q := by
  induction h with
  | nil => exact fun acc Q _ _ q => q acc
  | @lit s ts hs _ ih =>
    intro acc Q hd hl q
    rw [List.length_cons] at hl
    have e := app_len acc s
    exact ⟨s, rfl, by rw [e]; omega, ih _ Q hd (by rw [e]; omega) q⟩
  | @rep j ts hj _ ih =>
    intro acc Q hd hl q
    rw [List.length_cons] at hl
    obtain ⟨v, d, ev, rp, T⟩ := hd j false hj
    have T : d.Tel := tel_iff.mp T
    have e := app_len acc d.toP.shown
    have z := T.p.z
    exact ⟨v, ev, d.toP, Rp.dp d v T.ok rp, T.p, _, rfl, by rw [e]; omega, ih _ Q hd (by rw [e]; omega) q⟩
  | @pln j ts hj _ ih =>
    intro acc Q hd hl q
    rw [List.length_cons] at hl
    obtain ⟨v, d, ev, rp, T⟩ := hd j true hj
    have T' : d.pln = true := T
    clear T
    refine ⟨v, ev, ?_⟩
    cases d <;> first | cases T' | skip
    · rename_i i
      have T := of_decide_eq_true T'
      have e := app_len acc (toString i : String)
      have z := int_wid T
      simp only [Rp] at rp
      exact .inr ⟨i, rp, T, _, rfl, by rw [e]; omega, ih _ Q hd (by rw [e]; omega) q⟩
    · rename_i s
      have T := of_decide_eq_true T'
      have e := app_len acc s
      simp only [Rp] at rp
      exact .inl ⟨s, rp, by rw [sizeLine_eq]; omega, _, rfl, by rw [e]; omega, ih _ Q hd (by rw [e]; omega) q⟩
end
section
variable {P : Program} {w : World} {K : PySem.W.Frag} {mg : Str → Option Value} {base : Heap} {x qual m p q : Str} {st : Stmt} {f C : Addr} {k : Nat} {b : Bool} {p0 p1 p2 p3 p4 p5 a1 a2 a3 a4 c1 c2 c3 c4 : Pos} {v1 v2 : Expr} {vr : List Expr} {ar : Arg} {pl : Env → Sem Bool} {ts : List TE}
abbrev jex (v1 v2 : Expr) (vr : List Expr) (p : Pos) : Expr := .JoinedStr (v1 :: v2 :: vr) p
abbrev supSt (p0 p1 p2 p3 p4 : Pos) (ex : Expr) : Stmt := .Expr (.Call (.Attribute (.Call (.Name "super" p0) [] [] p1) "__init__" p2) [ex] [] p3) p4
abbrev fldSt (a1 a2 a3 a4 : Pos) (f v : Str) : Stmt := .Assign [.Attribute (.Name "self" a1) f a2] (.Name v a3) a4
/-- what the top says of the class -/
structure ExC (K : PySem.W.Frag) (mg : Str → Option Value) (C : Addr) : Prop where
  T : OexC K C
  sup : PySem.W.ks_superIn K C C "__init__" = some (some (.builtin "ValueError.__init__"))
  ve : PySem.W.subIn K (.ref C) (.type "ValueError") = some true
  me : PySem.W.mroIn K C (.ref C) = some true
  op : PySem.W.nsIn K cStatics "thirdparty.any" = some none
  nosup : mg "super" = none
structure SupOk (st : Stmt) (p0 p1 p2 p3 p4 : Pos) (ex : Expr) (pl : Env → Sem Bool) : Prop where
  st : ∀ env, starEach [ex] env = (false, eval ex env) :: starEach [] env
  sw : ∀ env, swapsWith (.Call (.Attribute (.Call (.Name "super" p0) [] [] p1) "__init__" p2) [ex] [] p3) none p4.line env = pure false
  call : ∀ env, eval (.Call (.Attribute (.Call (.Name "super" p0) [] [] p1) "__init__" p2) [ex] [] p3) env = (do
      let ov ← attributeBase (.Call (.Name "super" p0) [] [] p1) "__init__" env (eval (.Call (.Name "super" p0) [] [] p1) env)
      standAt p2.atName
      let (f, first) ← holding [ov] (getMethod ov "__init__" (pl env))
      callWith p3 f first (backTo p3 (starEach [ex] env)) [])
theorem pres_del {U : US} {H : Hp} {a : Addr} : Pres (del H a) U H U := fun x o h n => ⟨by
  by_cases e : x = a
  · rw [e, del_same] at h; cases h
  · rwa [del_ne e] at h, n⟩
theorem xc1 (F : ∃ f, DfX K x qual st C f ∧ PySem.W.findIn K (.ref C) "__init__" = some (some (.ref f)) ∧ PySem.W.typeIn K (.ref f) = some (.type "function")) (E : ExC K mg C) (hbn : BindX x qual st ["self", p]) (S : FnScopeX (["self", p] : List Str) ["self", p] (defScope st)) (hP : PrO P)
    (hb : defBody st = [supSt p0 p1 p2 p3 p4 (jex v1 v2 vr p5), fldSt a1 a2 a3 a4 m p]) (hs : SupOk st p0 p1 p2 p3 p4 (jex v1 v2 vr p5) pl) (hfst : ((defArgs st).posonlyargs ++ (defArgs st).args).head? = some ar) (hs0 : ar.arg = "self")
    (hno : PySem.W.findIn K (.ref C) m = some none) (hg : mg x' = some (.ref C)) (hsw : ∀ env, swapsWith (.Name p a3) (some (.Attribute (.Name "self" a1) m a2)) a4.line env = pure false) (hpd : (p == ("__debug__" : Str)) = false) (hpc : (p == ("__classdict__" : Str)) = false)
    (hj : JP K [b] ts) (hl : ts.length ≤ 10) (hJ : ∀ X : Cx, X.K = K → X.N = (["self", p] : List Str) → X.env.scope = defScope st → Room k X.A → PJ X (v1 :: v2 :: vr) ts) : Xc3 P w K mg base (k + 1) x' C (fl1 m b) := by
  obtain ⟨f, D, hfi, hty⟩ := F
  have hlen : ∀ vs H Q E, spInit K C (fl1 m b) vs H Q E → vs.length = 2 := by
    rintro vs H Q E ⟨a, ws, U, ds, fs, rfl, hl, _, _, _, _, e, _⟩
    match ds, e, hl with
    | [d], _, hl => rw [List.length_cons, hl]; rfl
  have main := fn_sup (P := P) (w := w) (base := base) (CX := CX0) (sp := spInit K C (fl1 m b)) (k := k) D hbn S hP hb hs.st hs.sw hs.call hfst (by rw [hs0]; rfl) E.T E.sup E.ve E.me E.op E.nosup hlen
  suffices z : _ from let ⟨fd, h1, h2⟩ := main z; ⟨E.T, f, fd, _, hfi, hty, h1, h2, hg⟩
  intro cda cc A outer s H vs Q E' hr h
  obtain ⟨a, ws, U, ds, fs, rfl, hlw, eH, hU, hUa, rp, e, q⟩ := h
  match ds, e, hlw, rp with
  | [d], e, hlw, rp =>
    have e : (if d.tk b = true then some [(m, d)] else none) = some fs := e
    by_cases hd : d.tk b = true
    · rw [if_pos hd] at e
      cases e
      simp only [RpAll] at rp
      obtain ⟨v, r, rfl, rv, rfl⟩ := rp
      let X := cxS CX0 P w K mg base ["self", p] qual (defScope st) f (.ref cda) cc A outer s H E'
      have hself : PE X (.Name "self" a1) (tVar 0) := pe_var rfl (.inl (S.par _ (by simp)))
      have hp : PE X (.Name p a3) (tVar 1) := pe_var rfl (.inl (S.par _ (by simp))) hpd hpc
      have hJ := hJ X rfl rfl rfl hr
      refine ⟨a, _, _, rfl, eH, pa_cons (pe_joined hJ) pa_nil (hs.st _), pss_one (ps_ost hself hp (hsw _)), ?_⟩
      refine jp_run (U := U) hj _ _ (fun j b' hj => ?_) ?_ fun y => ?_
      · match j, hj with
        | 0, hj =>
          cases hj
          exact ⟨v, d, rfl, Rp.pres pres_del _ _ rv, hd⟩
      · show 0 + _ ≤ _
        rw [sizeLine_eq]; omega
      · refine ⟨by simp, eH, v, rfl, .ref a, rfl, a, C, rfl, E.T, hno, .inl ⟨eH, fun dx hdx hne => ?_⟩⟩
        refine q dx [(m, v)] _ hdx upd_same ?_ (fun b' h1 h2 => by rw [upd_ne h1, upd_ne h2]) ?_
        · rw [upd_ne hne, upd_same]
        · simp only [RpF]
          exact ⟨v, [], rfl, rv, rfl⟩
    · rw [if_neg hd] at e; cases e
theorem xc2 (F : ∃ f, DfX K x qual st C f ∧ PySem.W.findIn K (.ref C) "__init__" = some (some (.ref f)) ∧ PySem.W.typeIn K (.ref f) = some (.type "function")) (E : ExC K mg C) (hbn : BindX x qual st ["self", p, q]) (S : FnScopeX (["self", p, q] : List Str) ["self", p, q] (defScope st)) (hP : PrO P)
    (hb : defBody st = [supSt p0 p1 p2 p3 p4 (jex v1 v2 vr p5), fldSt a1 a2 a3 a4 m p, fldSt c1 c2 c3 c4 m' q]) (hs : SupOk st p0 p1 p2 p3 p4 (jex v1 v2 vr p5) pl) (hfst : ((defArgs st).posonlyargs ++ (defArgs st).args).head? = some ar) (hs0 : ar.arg = "self")
    (hno : PySem.W.findIn K (.ref C) m = some none) (hno' : PySem.W.findIn K (.ref C) m' = some none) (hg : mg x' = some (.ref C)) (hsw : ∀ env, swapsWith (.Name p a3) (some (.Attribute (.Name "self" a1) m a2)) a4.line env = pure false)
    (hsw' : ∀ env, swapsWith (.Name q c3) (some (.Attribute (.Name "self" c1) m' c2)) c4.line env = pure false) (hpd : (p == ("__debug__" : Str)) = false) (hpc : (p == ("__classdict__" : Str)) = false) (hqd : (q == ("__debug__" : Str)) = false) (hqc : (q == ("__classdict__" : Str)) = false)
    (hj : JP K [false, false] ts) (hl : ts.length ≤ 10) (hJ : ∀ X : Cx, X.K = K → X.N = (["self", p, q] : List Str) → X.env.scope = defScope st → Room k X.A → PJ X (v1 :: v2 :: vr) ts) : Xc3 P w K mg base (k + 1) x' C (fl2 m m') := by
  obtain ⟨f, D, hfi, hty⟩ := F
  have hlen : ∀ vs H Q E, spInit K C (fl2 m m') vs H Q E → vs.length = 3 := by
    rintro vs H Q E ⟨a, ws, U, ds, fs, rfl, hl, _, _, _, _, e, _⟩
    match ds, e, hl with
    | [d, d'], _, hl => rw [List.length_cons, hl]; rfl
  have main := fn_sup (P := P) (w := w) (base := base) (CX := CX0) (sp := spInit K C (fl2 m m')) (k := k) D hbn S hP hb hs.st hs.sw hs.call hfst (by rw [hs0]; rfl) E.T E.sup E.ve E.me E.op E.nosup hlen
  suffices z : _ from let ⟨fd, h1, h2⟩ := main z; ⟨E.T, f, fd, _, hfi, hty, h1, h2, hg⟩
  intro cda cc A outer s H vs Q E' hr h
  obtain ⟨a, ws, U, ds, fs, rfl, hlw, eH, hU, hUa, rp, e, hq⟩ := h
  match ds, e, hlw, rp with
  | [d, d'], e, hlw, rp =>
    have e : (if (d.tel && d'.tel) = true then some [(m', d'), (m, d)] else none) = some fs := e
    by_cases hd : (d.tel && d'.tel) = true
    · rw [if_pos hd] at e
      cases e
      rw [Bool.and_eq_true] at hd
      simp only [RpAll] at rp
      obtain ⟨v, r, rfl, rv, v', r', rfl, rv', rfl⟩ := rp
      let X := cxS CX0 P w K mg base ["self", p, q] qual (defScope st) f (.ref cda) cc A outer s H E'
      have hself : ∀ z, PE X (.Name "self" z) (tVar 0) := fun z => pe_var rfl (.inl (S.par _ (by simp)))
      have hp : PE X (.Name p a3) (tVar 1) := pe_var rfl (.inl (S.par _ (by simp))) hpd hpc
      have hq' : PE X (.Name q c3) (tVar 2) := pe_var rfl (.inl (S.par _ (by simp))) hqd hqc
      have hJ := hJ X rfl rfl rfl hr
      refine ⟨a, _, _, rfl, eH, pa_cons (pe_joined hJ) pa_nil (hs.st _), pss_cons (ps_ost (hself _) hp (hsw _)) (pss_one (ps_ost (hself _) hq' (hsw' _))), ?_⟩
      refine jp_run (U := U) hj _ _ (fun j b' hj => ?_) ?_ fun y => ?_
      · match j, hj with
        | 0, hj =>
          cases hj
          exact ⟨v, d, rfl, Rp.pres pres_del _ _ rv, hd.1⟩
        | 1, hj =>
          cases hj
          exact ⟨v', d', rfl, Rp.pres pres_del _ _ rv', hd.2⟩
      · show 0 + _ ≤ _
        rw [sizeLine_eq]; omega
      · refine ⟨by simp, eH, v, rfl, .ref a, rfl, a, C, rfl, E.T, hno, .inl ⟨eH, fun dx hdx hne => ?_⟩⟩
        refine ⟨v', rfl, .ref a, rfl, a, C, rfl, E.T, hno', .inr ⟨dx, [(m, v)], upd_same, by rw [upd_ne hne, upd_same], by simp, ?_⟩⟩
        refine hq dx [(m', v'), (m, v)] _ hdx ?_ upd_same (fun b' h1 h2 => by rw [upd_ne h2, upd_ne h1, upd_ne h2]) ?_
        · rw [upd_ne (Ne.symm hne), upd_same]
        · simp only [RpF]
          exact ⟨v', _, rfl, rv', v, [], rfl, rv, rfl⟩
    · rw [if_neg hd] at e; cases e
end
end L3

set_option Elab.async false
set_option linter.all false
set_option maxRecDepth 100000
namespace L3
open PySem PySem.Spec L2 PyProof.Rows
/-! ### raise C(..) -/
section
variable {ι : Type} {X : ι → Cx} {K : PySem.W.Frag} {pos p pos' : Pos} {e : Expr} {es : List Expr} {x : Str} {fa : T3A} {k j : Nat} {C : Addr} {fl : List D → Option (List (Str × D))}
theorem xraise (cf : ∀ i, Xc3 (X i).prog (X i).w K (X i).mg (X i).base k x C fl) (hR : ∀ i, Room j (X i).A) (hk : k + 1 ≤ j) (ha : QA K X (e :: es) fa) (hK : ∀ i, (X i).K = K := by exact fun _ => rfl) (hg : ∀ i, Gl (X i) x := by exact fun _ => rfl)
    (hc : ∀ i, (X i).calm = true := by exact fun _ => rfl) (hdb : (x == ("__debug__" : Str)) = false := by decide)
    (he : ∀ i, starEach (e :: es) (X i).env = (false, eval e (X i).env) :: starEach es (X i).env := by exact fun _ => rfl) (hpl : ∀ i, (backTo pos (starEach es (X i).env)).any (·.1) = false := by exact fun _ => rfl) :
    QSX K X (.Raise (some (.Call (.Name x p) (e :: es) [] pos)) none pos') (sRaiseX C fl fa) :=
  let ⟨u, h1, h2⟩ := ha.ex
  ⟨fun W => fun _ σ H => tMkO C (spInit K C fl) [] u σ H fun cls d H' => W cls d σ H', fun i W tk => by
    obtain ⟨T, fI, fd, ps, a, b, F, hb, hm⟩ := (cf i).ex
    have e := hK i
    subst e
    exact L2.ps_raise (hc i) tk (pmk_oex T a b F ((hR i).mono hk) hb .nil pass0 (hg i) hm (h1 i) hdb (he i) (hpl i)), simRaiseX h2⟩
end
/-! ### which classes -/
def xh (l : List (Addr × Bool)) (C : Addr) : Option Bool := (l.find? fun p => decide (p.1 = C)).map (·.2)
theorem xh_ok {Q : Addr → Bool → Prop} : ∀ {l : List (Addr × Bool)}, (∀ p ∈ l, Q p.1 p.2) → ∀ C b, xh l C = some b → Q C b
  | [], _, C, b, e => by cases e
  | p :: l, h, C, b, e => by
    unfold xh at e
    rw [List.find?_cons] at e
    cases hp : decide (p.1 = C) with
    | true =>
      rw [hp] at e
      have e1 := of_decide_eq_true hp
      have e2 : p.2 = b := Option.some.inj e
      rw [← e1, ← e2]
      exact h p (List.mem_cons_self ..)
    | false =>
      rw [hp] at e
      exact xh_ok (fun q hq => h q (List.mem_cons_of_mem _ hq)) C b e
theorem xh_n {Q : Addr → Bool → Prop} : ∀ p ∈ ([] : List (Addr × Bool)), Q p.1 p.2 := fun p h => by simp at h
theorem xh_c {Q : Addr → Bool → Prop} {C : Addr} {b : Bool} {l : List (Addr × Bool)} (h : Q C b) (r : ∀ p ∈ l, Q p.1 p.2) : ∀ p ∈ (C, b) :: l, Q p.1 p.2 := fun p hp => by
  rcases List.mem_cons.mp hp with e | hp
  · rw [e]; exact h
  · exact r p hp
theorem xh_1 {C : Addr} {b : Bool} {l : List (Addr × Bool)} : xh ((C, b) :: l) C = some b := by simp [xh]
theorem xh_2 {C D : Addr} {b : Bool} {l : List (Addr × Bool)} (h : C ≠ D) : xh ((C, b) :: l) D = xh l D := by simp [xh, h]
def kiC (D : Addr) (l : List (Addr × Bool)) : Addr → L3.D → Option Bool := fun C tv => match tv with
  | .cls E => if E = D then xh l C else none
  | _ => none
def kiT (n : String) (l : List (Addr × Bool)) : Addr → L3.D → Option Bool := fun C tv => match tv with
  | .ty m => if m = n then xh l C else none
  | _ => none
theorem kiC_1 {D C : Addr} {l : List (Addr × Bool)} : kiC D l C (.cls D) = xh l C := if_pos rfl
theorem kiT_1 {n : String} {C : Addr} {l : List (Addr × Bool)} : kiT n l C (.ty n) = xh l C := if_pos rfl
section
variable {K : PySem.W.Frag}
theorem kiC_ok {D : Addr} {l : List (Addr × Bool)} (h : ∀ p ∈ l, ExcC K p.1 ∧ PySem.W.kitOne K (.ref p.1) (.ref D) = some p.2) : KitOk' K (kiC D l) := by
  intro C tv b e
  unfold kiC at e
  split at e
  · rename_i E
    by_cases hE : E = D
    · rw [if_pos hE] at e
      subst hE
      obtain ⟨h1, h2⟩ := xh_ok (Q := fun C b => ExcC K C ∧ PySem.W.kitOne K (.ref C) (.ref E) = some b) h C b e
      exact ⟨h1, .inl ⟨E, rfl, h2⟩⟩
    · rw [if_neg hE] at e; cases e
  · cases e
theorem kiT_ok {n : String} {l : List (Addr × Bool)} (h : ∀ p ∈ l, ExcC K p.1 ∧ PySem.W.kitOne K (.ref p.1) (.type n) = some p.2) : KitOk' K (kiT n l) := by
  intro C tv b e
  unfold kiT at e
  split at e
  · rename_i m
    by_cases hE : m = n
    · rw [if_pos hE] at e
      subst hE
      obtain ⟨h1, h2⟩ := xh_ok (Q := fun C b => ExcC K C ∧ PySem.W.kitOne K (.ref C) (.type m) = some b) h C b e
      exact ⟨h1, .inr ⟨m, rfl, h2⟩⟩
    · rw [if_neg hE] at e; cases e
  · cases e
end
/-! ### operators of own classes -/
structure So3 (P : Program) (w : World) (K : PySem.W.Frag) (mg : Str → Option Value) (base : Heap) (k : Nat) (C : Addr) (m : Str) (ms : List Md) (sp : S3) : Prop where
  ex : ∃ (g : Addr) (fd : FuncData) (ps : List Str), PySem.W.findIn K (.ref C) m = some (some (.ref g)) ∧ PySem.W.isFn K (.ref g) = true ∧ PySem.W.fnIn K g = true ∧ PySem.W.selfFirst K C = true ∧ FnOk P w K mg base CX0 k g fd ps (Lift K ms sp) ∧ Binds K fd ps []
section
variable {X : Cx} {C g : Addr} {k : Nat} {fd : FuncData} {ps : List Str} {sp : Sp}
def rOwnB (C : Addr) (sp : Sp) : R2 := fun x y H Q => ∃ a dx fs b dy gs, x = .ref a ∧ y = .ref b ∧ H a = some (.ins C dx fs) ∧ H b = some (.ins C dy gs) ∧ sp [x, y] H Q E0
theorem op_ownB {op : Operator} (hs : PySem.W.findIn X.K (.ref C) (PySem.dunder op.info.2) = some (some (.ref g))) (hf : PySem.W.isFn X.K (.ref g) = true) (hc : PySem.W.selfFirst X.K C = true) (Fn : FnOk X.prog X.w X.K X.mg X.base CX0 k g fd ps sp) (hb : Binds X.K fd ps []) (hr : Room k X.A) : OpR X (binaryOp op) (rOwnB C sp) := by
  intro pins s σ H x y v u Q I rx ry h
  obtain ⟨a, dx, fs, b, dy, gs, rfl, rfl, ha, hb', q⟩ := h
  cases (show v = Value.ref a from rx)
  cases (show u = Value.ref b from ry)
  obtain ⟨mA, O, _⟩ := ins_get I.hok ha
  obtain ⟨od, J, _⟩ := O.look
  obtain ⟨mB, O', _⟩ := ins_get I.hok hb'
  obtain ⟨od', J', _⟩ := O'.look
  obtain ⟨m, hF⟩ := I.fr
  refine PySem.W.binop_K hF I.ok.mod.kin J J'.type hc hs hf ?_
  refine wpAny_mono (run_fn (us := [.ref a, .ref b]) (vs := [.ref a, .ref b]) Fn hr hb .nil pass0 I (.cons rfl (.cons rfl .nil)) q) ?_ fun _ _ x => x
  rintro w s' ⟨z', H', I', rz, qz⟩
  exact SlX.cmpback rz ⟨z', H', I', rz, qz⟩
def rOwnU (C : Addr) (sp : Sp) : V → Hp → VK → Prop := fun x H Q => ∃ a dx fs, x = .ref a ∧ H a = some (.ins C dx fs) ∧ sp [x] H Q E0
theorem un_ownI (hs : PySem.W.findIn X.K (.ref C) "__invert__" = some (some (.ref g))) (hf : PySem.W.isFn X.K (.ref g) = true) (Fn : FnOk X.prog X.w X.K X.mg X.base CX0 k g fd ps sp) (hb : Binds X.K fd ps []) (hr : Room k X.A) : UnR X (unaryOp .Invert) (rOwnU C sp) := by
  intro pins s σ H x v Q I rx h
  obtain ⟨a, dx, fs, rfl, ha, q⟩ := h
  cases (show v = Value.ref a from rx)
  obtain ⟨mA, O, _⟩ := ins_get I.hok ha
  obtain ⟨od, J, _⟩ := O.look
  obtain ⟨m, hF⟩ := I.fr
  exact PySem.W.ksp_inv hF I.ok.mod.kin J hs hf (run_fn (us := [.ref a]) (vs := [.ref a]) Fn hr hb .nil pass0 I (.cons rfl .nil) q)
/-- f(e, ..), f an instance -/
def tCallI (C : Addr) (sp : Sp) (tf : TE) (t : TA) : TE := fun σ H Q => tf σ H fun y H1 => ∃ a, y = .ref a ∧ t σ H1 fun vs H2 => ∃ dx fs, H2 a = some (.ins C dx fs) ∧ sp (.ref a :: vs) H2 Q E0
theorem pe_callI {fe e : Expr} {es : List Expr} {tf : TE} {t : TA} {pos : Pos} (hf : PE X fe tf) (hs : PySem.W.findIn X.K (.ref C) "__call__" = some (some (.ref g))) (hfn : PySem.W.isFn X.K (.ref g) = true) (hfi : PySem.W.fnIn X.K g = true) (Fn : FnOk X.prog X.w X.K X.mg X.base CX0 k g fd ps sp)
    (hb : Binds X.K fd ps []) (hr : Room k X.A) (ha : PA X (e :: es) t) (ht : eval (.Call fe (e :: es) [] pos) X.env = (do callWith pos (← eval fe X.env) [] (backTo pos (starEach (e :: es) X.env)) (backToKw pos (keywordEach [] X.env))) := by rfl)
    (he : starEach (e :: es) X.env = (false, eval e X.env) :: starEach es X.env := by rfl) (hpl : (backTo pos (starEach es X.env)).any (·.1) = false := by rfl) : PE X (.Call fe (e :: es) [] pos) (tCallI C sp tf t) := by
  constructor
  intro pins s σ H Q I h
  refine Call_ (thn (hf.run pins s σ H _ I h) ?_) ht
  rintro u s1 ⟨y, H1, I1, ry, a0, rfl, q⟩
  cases (show u = Value.ref a0 from ry)
  refine StX.callO_with (thn (ha.run pos pins s1 σ H1 _ I1 q) ?_) he hpl
  rintro us s2 ⟨vs, H2, I2, r, dx, fs, hi, q2⟩
  obtain ⟨mA, O, _⟩ := ins_get I2.hok hi
  obtain ⟨od, J, _⟩ := O.look
  refine ⟨⟨C, _, od, J, rfl⟩, ?_⟩
  have b := hb s2 (.ref a0 :: us) I2.kIn (by rw [List.append_nil]; exact (Paired.length (.cons rfl r : Vals (V.ref a0 :: vs) (Value.ref a0 :: us))).symm.trans (Fn.len _ _ _ _ q2))
  rw [List.append_nil] at b
  refine wpAny_call (PySem.W.kco_code I2.kIn J rfl hs hfn hfi (codeAny_mono (Fn.run X.A X.stack s2 H2 ⟨.ref a0 :: us, []⟩ (.ref a0 :: us) (V.ref a0 :: vs) Q E0 hr I2.env0 b (.cons rfl r) q2) ?_))
  intro r s' z
  have z := ends_call (R := X.xe) z (fun e z => z.elim) I2
  cases r with
  | error e => exact z
  | ok fl => cases fl <;> exact z
end
section
variable {F : Fr} {U U2 : US} {ρ ρ' ρ2 : En} {σ σ2 : L2.St} {H H' H2 : Hp} {K : PySem.W.Frag}
def eCallI (C : Addr) (ms : List Md) (sp : S3) (fo : T3E) (g : T3A) : T3E := fun ρ Q => fo ρ fun r ρ1 => wd r ρ1 fun d => match d with
  | .obj _ _ => g ρ1 fun rs ρ2 => wd r ρ2 fun d => match d with
    | .obj C' _ => C' = C ∧ apart ms (r :: rs) = true ∧ wo (argsD ms (r :: rs) ρ2) fun ds => sp ds (fun d ds' => Q (.val d) (updE ms (r :: rs) ds' ρ2)) (fun d ds' => Q (.val d) (updE ms (r :: rs) ds' ρ2))
    | _ => False
  | _ => False
theorem simCallI {C : Addr} {ms : List Md} {sp : S3} {t : TE} {u : TA} {fo : T3E} {g : T3A} (np : noPab ms = true) (ho : SimE K t fo) (h : SimA K u g) : SimE K (tCallI C (Lift K ms sp) t u) (eCallI C ms sp fo g) := by
  intro F U ρ σ H Q3 Q2 e R q k
  refine ho F U ρ σ H _ _ e R q fun r v ρ0 H0 R0 s0 q0 h0 => ?_
  obtain ⟨d, e1, h0⟩ := wd_out h0
  cases d <;> first | exact h0.elim | skip
  obtain ⟨a, dx, gs, rfl, z1, z2⟩ := q0.obj R0 e1
  refine ⟨a, rfl, ?_⟩
  refine h F U ρ0 σ H0 _ _ e R0 h0 fun rs vs ρ1 H1 R1 s1 q1 h1 => ?_
  obtain ⟨d, e2, h1⟩ := wd_out h1
  have q0' := q0.pres (s1.pres R0)
  cases d <;> first | exact h1.elim | skip
  rename_i C' fs'
  obtain ⟨ec, ap, h3⟩ := h1
  obtain ⟨ds, ed, h1⟩ := wo_out h3
  obtain ⟨a', dx', gs', ea, z1', z2'⟩ := q0'.obj R1 e2
  cases ea
  subst e
  refine ⟨dx', gs', ec ▸ z1', ?_⟩
  exact callN np R (s0.trans s1) R1 (.cons q0' q1) ap ed h1 k E0
def oOwnB (C : Addr) (ms : List Md) (sp : S3) (x y : Rs) (ρ : En) (Q : Rs → En → Prop) : Prop := wd x ρ fun dx => wd y ρ fun dy => match dx, dy with
  | .obj C' _, .obj C'' _ => (C' = C ∧ C'' = C) ∧ apart ms [x, y] = true ∧ wo (argsD ms [x, y] ρ) fun ds => sp ds (fun d ds' => Q (.val d) (updE ms [x, y] ds' ρ)) (fun d ds' => Q (.val d) (updE ms [x, y] ds' ρ))
  | _, _ => False
theorem simOwnB {C : Addr} {ms : List Md} {sp : S3} (np : noPab ms = true) : SimR2 K (rOwnB C (Lift K ms sp)) (oOwnB C ms sp) := by
  intro F U ρ1 σ H1 x y rx ry Q3 Q2 e R1 hx hy h k
  obtain ⟨dx, ex, h1⟩ := wd_out h
  obtain ⟨dy, ey, h2⟩ := wd_out h1
  clear h h1
  cases dx <;> first | exact h2.elim | skip
  cases dy <;> first | exact h2.elim | skip
  obtain ⟨⟨e1, e2⟩, ap, h3⟩ := h2
  obtain ⟨ds, ed, h1⟩ := wo_out h3
  obtain ⟨a, da, ga, rfl, z1, z2⟩ := hx.obj R1 ex
  obtain ⟨b, db, gb, rfl, y1, y2⟩ := hy.obj R1 ey
  subst e
  refine ⟨a, da, ga, b, db, gb, rfl, rfl, e1 ▸ z1, e2 ▸ y1, ?_⟩
  have q1 : RVs F U σ H1 [rx, ry] [.ref a, .ref b] := .cons hx (.cons hy .nil)
  exact callN np R1 (.refl R1) R1 q1 ap ed h1 k E0
def eOwnU (C : Addr) (ms : List Md) (sp : S3) (f : T3E) : T3E := fun ρ Q => f ρ fun r ρ1 => wd r ρ1 fun d => match d with
  | .obj C' _ => C' = C ∧ apart ms [r] = true ∧ wo (argsD ms [r] ρ1) fun ds => sp ds (fun d ds' => Q (.val d) (updE ms [r] ds' ρ1)) (fun d ds' => Q (.val d) (updE ms [r] ds' ρ1))
  | _ => False
theorem simOwnU {C : Addr} {ms : List Md} {sp : S3} {t : TE} {f : T3E} (np : noPab ms = true) (h : SimE K t f) : SimE K (tUn (rOwnU C (Lift K ms sp)) t) (eOwnU C ms sp f) := by
  intro F U ρ σ H Q3 Q2 e R q k
  refine h F U ρ σ H _ _ e R q fun r v ρ1 H1 R1 s1 q1 h1 => ?_
  obtain ⟨d, e1, h1⟩ := wd_out h1
  cases d <;> first | exact h1.elim | skip
  obtain ⟨ec, ap, h3⟩ := h1
  obtain ⟨ds, ed, h1⟩ := wo_out h3
  obtain ⟨a, da, ga, rfl, z1, z2⟩ := q1.obj R1 e1
  subst e
  refine ⟨a, da, ga, rfl, ec ▸ z1, ?_⟩
  have qs : RVs F U σ H1 [r] [.ref a] := .cons q1 .nil
  exact callN np R s1 R1 qs ap ed h1 k E0
/-! ### count of texts, join -/
def rCntS (K : PySem.W.Frag) : V → List V → Hp → VK → Prop := fun x xs H Q => ∃ (p : Addr) (ys : List Str) (k : Str), x = .ref p ∧ xs = [.str k] ∧ SqL K H p (ys.map V.str) ∧ Q (.int (ys.count k : Nat)) H
theorem count_strs (k : Str) : ∀ ys : List Str, PySem.Spec.countIn (.str k) (ys.map PyData.str) = ((ys.count k : Nat) : Int)
  | [] => rfl
  | y :: ys => by
    rw [List.map_cons, PySem.Spec.countIn, count_strs k ys, List.count_cons]
    simp only [PySem.Spec.same]
    rcases Bool.eq_false_or_eq_true (y == k) with h | h <;> rcases Bool.eq_false_or_eq_true (k == y) with h' | h' <;> simp [h, h'] <;> simp_all <;> omega
theorem mt_countS {X : Cx} : MtR X "list.count" (rCntS X.K) := by
  intro pins s σ H x xs v us Q I rx rxs h
  obtain ⟨p, ys, k, rfl, rfl, hs, q⟩ := h
  cases rx
  obtain ⟨u, rfl, ru⟩ := rxs.one
  obtain ⟨t, rfl⟩ := ru
  obtain ⟨its, rv, ⟨o, n, ho, hc, _, hd⟩, hlen⟩ := I.list hs
  refine PyProof.Rows.count_list_strs (vs := its) (ys := ys) ⟨o, ho, hc, n, hd⟩ (strs_of_vals rv) ?_
  exact ⟨.int (ys.count k : Nat), H, I.tok _, ⟨s.toks, by rw [count_strs]⟩, q⟩
def mCountS : M3 := fun r rs ρ Q => match rs with
  | [x] => wd x ρ fun dx => match dx with
    | .str j => wd r ρ fun dl => match dl with
      | .lst ds => wo (D.strsOf ds) fun ns => Q (.val (.int (ns.count j : Nat))) ρ
      | _ => False
    | _ => False
  | _ => False
theorem simCountS : SimM K (rCntS K) mCountS := by
  intro F U ρ σ H x vs rx rs Q3 Q2 e R q qs h k
  unfold mCountS at h
  subst e
  cases qs with
  | nil => exact h.elim
  | cons q1 qs =>
    cases qs with
    | cons _ _ => exact h.elim
    | nil =>
      obtain ⟨di, ei, h⟩ := wd_out h
      cases di <;> first | exact h.elim | skip
      rename_i j
      obtain ⟨dl, el, h⟩ := wd_out h
      cases dl <;> first | exact h.elim | skip
      rename_i ds
      obtain ⟨ns, en, h⟩ := wo_out h
      obtain ⟨a, ws, rfl, z1, z2⟩ := q.lst R el
      rw [strsOf_out en] at z2
      have := z2.strs
      subst this
      exact ⟨a, ns, j, rfl, by rw [q1.str R ei], z1, k (.val _) _ _ _ R (.refl R) rvI h⟩
def rJoin (K : PySem.W.Frag) : V → List V → Hp → VK → Prop := fun x xs H Q => ∃ a p, ∃ ys : List Str, x = .str a ∧ xs = [.ref p] ∧ (SqL K H p (ys.map V.str) ∨ SqT K H p (ys.map V.str)) ∧ (ys.map (·.length)).sum + ys.length * a.length ≤ 16777216 ∧ Q (.str (Txt.join a ys)) H
def mJoin : M3 := fun r rs ρ Q => match rs with
  | [x] => wd x ρ fun dx => wd r ρ fun dl => match dx, dl with
    | .lst ds, .str a => wo (D.strsOf ds) fun ys => (ys.map (·.length)).sum + ys.length * a.length ≤ 16777216 ∧ Q (.val (.str (Txt.join a ys))) ρ
    | _, _ => False
  | _ => False
theorem simJoin : SimM K (rJoin K) mJoin := by
  intro F U ρ σ H x vs rx rs Q3 Q2 e R q qs h k
  unfold mJoin at h
  subst e
  cases qs with
  | nil => exact h.elim
  | cons q1 qs =>
    cases qs with
    | cons _ _ => exact h.elim
    | nil =>
      obtain ⟨di, ei, h⟩ := wd_out h
      obtain ⟨dl, el, h⟩ := wd_out h
      cases di <;> first | exact h.elim | skip
      cases dl <;> first | exact h.elim | skip
      rename_i ds a
      obtain ⟨ns, en, h⟩ := wo_out h
      obtain ⟨p, ws, rfl, z1, z2⟩ := q1.lst R ei
      rw [strsOf_out en] at z2
      have := z2.strs
      subst this
      exact ⟨a, p, ns, q.str R el, rfl, .inl z1, h.1, k (.val (.str _)) _ _ _ R (.refl R) (show Rp F.K H U _ _ from rp_str) h.2⟩
end
section
variable {ι : Type} {X : ι → Cx} {K : PySem.W.Frag} {pos p pos' : Pos} {e a b : Expr} {es : List Expr} {f g : T3E} {fa : T3A} {k j : Nat} {C : Addr} {ms : List Md} {sp : S3} {m : Str}
theorem qcallI (cf : ∀ i, So3 (X i).prog (X i).w K (X i).mg (X i).base k C "__call__" ms sp) (hR : ∀ i, Room j (X i).A) (hk : k ≤ j) (ho : QE K X a f) (ha : QA K X (e :: es) fa) (hK : ∀ i, (X i).K = K := by exact fun _ => rfl)
    (ht : ∀ i, eval (.Call a (e :: es) [] pos) (X i).env = (do callWith pos (← eval a (X i).env) [] (backTo pos (starEach (e :: es) (X i).env)) (backToKw pos (keywordEach [] (X i).env))) := by exact fun _ => rfl)
    (he : ∀ i, starEach (e :: es) (X i).env = (false, eval e (X i).env) :: starEach es (X i).env := by exact fun _ => rfl) (hpl : ∀ i, (backTo pos (starEach es (X i).env)).any (·.1) = false := by exact fun _ => rfl) (np : noPab ms = true := by rfl) :
    QE K X (.Call a (e :: es) [] pos) (eCallI C ms sp f fa) :=
  let ⟨t, h1, h2⟩ := ho.ex; let ⟨u, h3, h4⟩ := ha.ex
  ⟨tCallI C (Lift K ms sp) t u, fun i => by
    obtain ⟨g, fd, ps, c1, c2, c3, c4, F, b⟩ := (cf i).ex
    have e := hK i
    subst e
    exact pe_callI (h1 i) c1 c2 c3 F b ((hR i).mono hk) (h3 i) (ht i) (he i) (hpl i), simCallI np h2 h4⟩
theorem qownB {op : Operator} (cf : ∀ i, So3 (X i).prog (X i).w K (X i).mg (X i).base k C m ms sp) (hR : ∀ i, Room j (X i).A) (hk : k ≤ j) (hop : PySem.dunder op.info.2 = m) (ha : QE K X a f) (hb : QE K X b g) (hK : ∀ i, (X i).K = K := by exact fun _ => rfl) (np : noPab ms = true := by rfl) :
    QE K X (.BinOp a op b pos) (eOp (oOwnB C ms sp) f g) :=
  qop (r := rOwnB C (Lift K ms sp)) (fun i => by
    obtain ⟨g, fd, ps, c1, c2, c3, c4, F, b⟩ := (cf i).ex
    have e := hK i
    subst e
    exact op_ownB (by rw [hop]; exact c1) c2 c4 F b ((hR i).mono hk)) (simOwnB np) ha hb
theorem qownU (cf : ∀ i, So3 (X i).prog (X i).w K (X i).mg (X i).base k C "__invert__" ms sp) (hR : ∀ i, Room j (X i).A) (hk : k ≤ j) (ha : QE K X a f) (hK : ∀ i, (X i).K = K := by exact fun _ => rfl) (np : noPab ms = true := by rfl) :
    QE K X (.UnaryOp .Invert a pos) (eOwnU C ms sp f) :=
  let ⟨_, h1, h2⟩ := ha.ex
  ⟨_, fun i => by
    obtain ⟨g, fd, ps, c1, c2, c3, c4, F, b⟩ := (cf i).ex
    have e := hK i
    subst e
    exact pe_un (un_ownI c1 c2 F b ((hR i).mono hk)) (h1 i), simOwnU np h2⟩
end
/-! ### the facts -/
section
variable {P : Program} {w : World} {K : PySem.W.Frag} {mg : Str → Option Value} {base : Heap} {x gx qual m : Str} {st : Stmt} {C : Addr} {N ps : List Str} {k n : Nat} {ms : List Md} {sp : S3} {t3 : T3S}
theorem so3 (F : ∃ f, Df K x qual st f ∧ PySem.W.findIn K (.ref C) m = some (some (.ref f)) ∧ PySem.W.isFn K (.ref f) = true ∧ PySem.W.fnIn K f = true ∧ PySem.W.selfFirst K C = true) (hb : BindN x qual st ps) (S : FnScope N ps (defScope st)) (hl : ps.length = ms.length) (hN : N.length = ms.length + n)
    (hw : ∀ f, QB K (CxR k P w K mg base N qual (defScope st) f) (defBody st) t3) (hsp : ∀ ds QR QO, sp ds QR QO → ds.length = ms.length → t3 (endE ms ds QR QO) (startE n ms ds)) : So3 P w K mg base (k + 1) C m ms sp := by
  obtain ⟨f, F, M1, M2, M3, M4⟩ := F
  obtain ⟨fd, h1, h2⟩ := fk F hb S hl hN (hw f) hsp
  exact ⟨f, fd, ps, M1, M2, M3, M4, h1, h2⟩
end
end L3

set_option Elab.async false
set_option linter.all false
set_option maxRecDepth 100000
namespace L3
open PySem PySem.Spec L2 PyProof.Rows
open PySem.Builtin PySem.Builtin.Str
/-! ### text * int; a tuple of texts that the top made -/
def rMulS : R2 := fun x y H Q => ∃ a n, x = .str a ∧ y = .int n ∧ MulOk a n ∧ Q (.str (Txt.mul a n)) H
theorem op_mulS {X : Cx} : OpR X (binaryOp .Mult) rMulS := by
  intro pins s σ H x y v u Q I rx ry h
  obtain ⟨a, n, rfl, rfl, ok, q⟩ := h
  obtain ⟨t, rfl⟩ := rx
  obtain ⟨t', rfl⟩ := ry
  exact SB.mul ok fun t' k => ⟨.str _, H, I.tok _, ⟨_, rfl⟩, q⟩
def oMulS (x y : Rs) (ρ : En) (Q : Rs → En → Prop) : Prop := wd x ρ fun dx => wd y ρ fun dy => match dx, dy with
  | .str a, .int n => MulOk a n ∧ Q (.val (.str (Txt.mul a n))) ρ
  | _, _ => False
section
variable {F : Fr} {U U2 : US} {ρ ρ' ρ2 : En} {σ σ2 : L2.St} {H H' H2 : Hp} {K : PySem.W.Frag}
theorem simMulS : SimR2 K rMulS oMulS := by
  intro F U ρ σ H x y rx ry Q3 Q2 e R h1 h2 h k
  obtain ⟨dx, e1, h⟩ := wd_out h
  obtain ⟨dy, e2, h⟩ := wd_out h
  cases dx <;> first | exact h.elim | skip
  cases dy <;> first | exact h.elim | skip
  exact ⟨_, _, h1.str R e1, h2.int R e2, h.1, k (.val (.str _)) _ _ _ R (.refl R) (show Rp F.K H U _ _ from rp_str) h.2⟩
theorem rpAll_strs : ∀ ss : List Str, RpAll K H U (ss.map D.str) (ss.map V.str)
  | [] => by simp only [List.map, RpAll]
  | s :: ss => by
    simp only [List.map, RpAll]
    exact ⟨_, _, rfl, rp_str, rpAll_strs ss⟩
theorem rp_kts {a : Addr} {ss : List Str} (h : KT K a (ss.map V.str)) : ∀ H U, Rp K H U (.tup (ss.map D.str)) (.ref a) := fun H U => by
  simp only [Rp]
  exact ⟨a, _, rfl, .inr h, rpAll_strs ss⟩
end
section
variable {ι : Type} {X : ι → Cx} {K : PySem.W.Frag} {pos : Pos} {a b : Expr} {f g : T3E} {x : Str}
theorem qmulS (ha : QE K X a f) (hb : QE K X b g) : QE K X (.BinOp a .Mult b pos) (eOp oMulS f g) := qop (fun _ => op_mulS) simMulS ha hb
theorem qkts {p : Addr} {ss : List Str} (hm : ∀ i, ∃ u, (X i).mg x = some u ∧ RelV (.ref p) u) (k : KT K p (ss.map V.str)) (hg : ∀ i, Gl (X i) x := by exact fun _ => rfl) (hd : (x == ("__debug__" : Str)) = false := by decide) : QE K X (.Name x pos) (eC (.tup (ss.map D.str))) :=
  qglob hm (rp_kts k) hg hd
end
theorem mulOk {x : Str} {n : Nat} (h1 : n ≤ 1000) (h2 : x.length ≤ 1000) : MulOk x (n : Int) := by
  refine ⟨?_, fun h h' => ?_, fun h h' => ?_⟩
  · rw [Bool.or_eq_false_iff]
    exact ⟨decide_eq_false (by omega), decide_eq_false (by omega)⟩
  · have hn : (0 : Int) < (n : Int) := by omega
    intro z
    have z : (2 ^ 63 - 1) / (n : Int) < (x.length : Int) := z
    rw [Int.ediv_lt_iff_lt_mul hn] at z
    have : (x.length : Int) * (n : Int) ≤ 1000 * 1000 := Int.mul_le_mul (by omega) (by omega) (by omega) (by omega)
    omega
  · show tooLong _ = false
    have : x.length * n ≤ 1000 * 1000 := Nat.mul_le_mul h2 h1
    unfold tooLong
    simp only [Int.toNat_natCast]
    exact decide_eq_false (by simp [sizeLine_eq]; omega)
/-! ### a written dict: keys that are not there -/
structure KA3 (K : PySem.W.Frag) (d : Addr) (ab : List Str) : Prop where
  no : ∀ z ∈ ab, PySem.W.nsIn K d z = some none
theorem ka_n {K : PySem.W.Frag} {d : Addr} : KA3 K d [] := ⟨fun z h => by simp at h⟩
theorem ka_c {K : PySem.W.Frag} {d : Addr} {z : Str} {ab : List Str} (h : PySem.W.nsIn K d z = some none) (r : KA3 K d ab) : KA3 K d (z :: ab) := ⟨fun y hy => by
  rcases List.mem_cons.mp hy with e | e
  · rw [e]; exact h
  · exact r.no y e⟩
def rKInA (neg : Bool) (d : Addr) (tbl : List (Str × Int)) (ab : List Str) : R2 := fun x y H Q => ∃ z, x = .str z ∧ y = .ref d ∧ ((∃ i, tbl.lookup z = some i ∧ Q (.bl (!neg)) H) ∨ (z ∈ ab ∧ Q (.bl neg) H))
def oKInA (neg : Bool) (dC : Addr) (tbl : List (Str × Int)) (ab : List Str) (x y : Rs) (ρ : En) (Q : Rs → En → Prop) : Prop := wd x ρ fun dx => wd y ρ fun dy => match dx, dy with
  | .str z, .cls C => C = dC ∧ match tbl.lookup z with
    | some _ => Q (.val (.bl (!neg))) ρ
    | none => z ∈ ab ∧ Q (.val (.bl neg)) ρ
  | _, _ => False
section
variable {X : Cx} {K : PySem.W.Frag} {d : Addr} {tbl : List (Str × Int)} {ab : List Str}
theorem op_kinA (D : KD3 X.K X.w d tbl) (N : KA3 X.K d ab) : OpR X (compareOp .In) (rKInA false d tbl ab) := by
  intro pins s σ H x y v u Q I rx ry h
  obtain ⟨es, n, D, g⟩ := D.ex
  obtain ⟨z, rfl, rfl, ⟨i, e, q⟩ | ⟨e, q⟩⟩ := h
  · obtain ⟨u0, h1, h2⟩ := g z i e
    exact op_in_kd D pins s σ H _ _ v u Q I rx ry ⟨z, some u0, rfl, rfl, h1, q⟩
  · exact op_in_kd D pins s σ H _ _ v u Q I rx ry ⟨z, none, rfl, rfl, N.no z e, q⟩
theorem op_kninA (D : KD3 X.K X.w d tbl) (N : KA3 X.K d ab) : OpR X (compareOp .NotIn) (rKInA true d tbl ab) := by
  intro pins s σ H x y v u Q I rx ry h
  obtain ⟨es, n, D, g⟩ := D.ex
  obtain ⟨z, rfl, rfl, ⟨i, e, q⟩ | ⟨e, q⟩⟩ := h
  · obtain ⟨u0, h1, h2⟩ := g z i e
    exact op_notIn_kd D pins s σ H _ _ v u Q I rx ry ⟨z, some u0, rfl, rfl, h1, q⟩
  · exact op_notIn_kd D pins s σ H _ _ v u Q I rx ry ⟨z, none, rfl, rfl, N.no z e, q⟩
theorem simKInA {neg : Bool} : SimR2 K (rKInA neg d tbl ab) (oKInA neg d tbl ab) := by
  intro F U ρ σ H x y rx ry Q3 Q2 e R hx hy h k
  obtain ⟨dx, ex, h1⟩ := wd_out h
  obtain ⟨dy, ey, h2⟩ := wd_out h1
  clear h h1
  cases dx <;> first | exact h2.elim | skip
  cases dy <;> first | exact h2.elim | skip
  obtain ⟨e1, h3⟩ := h2
  refine ⟨_, hx.str R ex, by rw [hy.cls R ey, e1], ?_⟩
  split at h3
  · rename_i i ei
    exact .inl ⟨i, ei, k (.val _) _ ρ H R (.refl R) rvB h3⟩
  · exact .inr ⟨h3.1, k (.val _) _ ρ H R (.refl R) rvB h3.2⟩
end
section
variable {ι : Type} {X : ι → Cx} {K : PySem.W.Frag}
theorem cKInA {w : World} {d : Addr} {tbl : List (Str × Int)} {ab : List Str} (D : ∀ i, KD3 K (X i).w d tbl) (N : ∀ i : ι, KA3 K d ab) (hw : ∀ i, (X i).w = w := by exact fun _ => rfl) (hK : ∀ i, (X i).K = K := by exact fun _ => rfl) : QC K X .In (oKInA false d tbl ab) :=
  ⟨rKInA false d tbl ab, fun i => by
    have e := hK i; have e2 := hw i; have D := D i; have N := N i; subst e2; subst e; exact op_kinA D N, simKInA⟩
theorem cKNotInA {w : World} {d : Addr} {tbl : List (Str × Int)} {ab : List Str} (D : ∀ i, KD3 K (X i).w d tbl) (N : ∀ i : ι, KA3 K d ab) (hw : ∀ i, (X i).w = w := by exact fun _ => rfl) (hK : ∀ i, (X i).K = K := by exact fun _ => rfl) : QC K X .NotIn (oKInA true d tbl ab) :=
  ⟨rKInA true d tbl ab, fun i => by
    have e := hK i; have e2 := hw i; have D := D i; have N := N i; subst e2; subst e; exact op_kninA D N, simKInA⟩
end
/-! ### == of two texts, whatever their signs -/
def oEqT (x y : Rs) (ρ : En) (Q : Rs → En → Prop) : Prop := wd x ρ fun dx => wd y ρ fun dy => match dx, dy with
  | .str a, .str b => Q (.val (.bl (decide (a = b)))) ρ
  | _, _ => False
section
variable {K : PySem.W.Frag}
theorem simEqT : SimR2 K rEq oEqT := by
  intro F U ρ σ H x y rx ry Q3 Q2 e R hx hy h k
  obtain ⟨dx, ex, h1⟩ := wd_out h
  obtain ⟨dy, ey, h2⟩ := wd_out h1
  clear h h1
  cases dx <;> first | exact h2.elim | skip
  cases dy <;> first | exact h2.elim | skip
  rename_i a b
  cases hx.str R ex
  cases hy.str R ey
  refine ⟨rfl, ?_⟩
  have e : decide (V.str a = V.str b) = decide (a = b) := by
    by_cases z : a = b
    · rw [decide_eq_true z, decide_eq_true (congrArg V.str z)]
    · rw [decide_eq_false z, decide_eq_false fun q => z (V.str.inj q)]
  rw [e]
  exact k (.val _) _ ρ H R (.refl R) rvB h2
end
theorem cEqT {ι : Type} {X : ι → Cx} {K : PySem.W.Frag} : QC K X .Eq oEqT := ⟨_, fun _ => op_eq, simEqT⟩
end L3

set_option Elab.async false
set_option linter.all false
set_option maxRecDepth 100000
/-! the facts of exceptions, of special methods and of texts in a tuple, for the head -/
namespace L3
open PySem PySem.Spec L2 PyProof.Rows
section
variable {K : PySem.W.Frag} {h : Heap} {mg : Str → Option Value} {x qual : Str} {st : Stmt} {f C p : Addr} {oc kV doc pm cdv ct : Value} {od an : Option Addr} {sl : Array (Option Value)} {m : Str} {w : World}
theorem dso_mk (a : PySem.W.findIn K (.ref C) m = some (some (.ref f))) (l : K.lookup f = some ⟨oc, od, .func (PySem.W.fnOf x qual (defArgs st) (defBody st) (defScope st) .none kV doc pm an cdv ct), sl⟩) (c : PySem.W.codeIn K cdv qual = true) (k : PySem.W.keepIn K (.ref f) = true)
    (i : PySem.W.isFn K (.ref f) = true) (fi : PySem.W.fnIn K f = true) (sf : PySem.W.selfFirst K C = true) : ∃ f, Df K x qual st f ∧ PySem.W.findIn K (.ref C) m = some (some (.ref f)) ∧ PySem.W.isFn K (.ref f) = true ∧ PySem.W.fnIn K f = true ∧ PySem.W.selfFirst K C = true := ⟨f, df_mk l c k, a, i, fi, sf⟩
theorem dx_mk {cda cc : Addr} {cl ccl : Value} {cld cdd : Option Addr} {csl ccs : Array (Option Value)} {vs : Array Value} {file : Str} {tf : Tok} (a : PySem.W.findIn K (.ref C) "__init__" = some (some (.ref f)))
    (l : K.lookup f = some ⟨oc, od, .func (PySem.W.ksFn x qual (defArgs st) (defBody st) (defScope st) .none kV doc pm an (.ref cda) ct cc), sl⟩) (c : PySem.W.codeIn K (.ref cda) qual = true)
    (lc : K.lookup cda = some ⟨ccl, cdd, .fields vs, ccs⟩) (v2 : vs[2]? = some (.str file tf)) (fe : file = ("/claim/cut.py" : Str)) (ce : K.lookup cc = some ⟨cl, cld, .cell (some (.ref C)), csl⟩)
    (ty : PySem.W.typeIn K (.ref f) = some (.type "function")) : ∃ f, DfX K x qual st C f ∧ PySem.W.findIn K (.ref C) "__init__" = some (some (.ref f)) ∧ PySem.W.typeIn K (.ref f) = some (.type "function") :=
  ⟨f, ⟨oc, kV, doc, pm, ct, cl, ccl, od, an, cld, cdd, sl, csl, ccs, cda, cc, vs, file, tf, l, c, lc, v2, fe, ce⟩, a, ty⟩
theorem exk_mk {nm q : Str} {N : Addr} {bs bm sn sub ab col dd k0 k1 k2 k3 k5 : _} (l : K.lookup C = some (excClassObj nm q C N bs bm true sn sub ab col dd k0 k1 k2 k3 k5 "ValueError.__new__")) (r : PySem.HandSPX.refsVE bm = true)
    (sa : PySem.W.findIn K (.ref C) "__setattr__" = some (some (.builtin "object.__setattr__"))) (ec : PySem.W.subIn K (.ref C) (.type "BaseException") = some true) (tc : PySem.W.typeIn K (.ref C) = some (.type "type")) (kc : PySem.W.keepIn K (.ref C) = true)
    (su : PySem.W.ks_superIn K C C "__init__" = some (some (.builtin "ValueError.__init__"))) (ve : PySem.W.subIn K (.ref C) (.type "ValueError") = some true) (me : PySem.W.mroIn K C (.ref C) = some true) (op : PySem.W.nsIn K cStatics "thirdparty.any" = some none) (ns : mg "super" = none) : ExC K mg C :=
  ⟨⟨⟨nm, q, N, bs, bm, sn, sub, ab, col, dd, k0, k1, k2, k3, k5, l, r⟩, sa, ec, tc, kc⟩, su, ve, me, op, ns⟩
theorem kt_mk {a : Addr} {ss : List Str} {its : Array Value} {n : Nat} (l : K.lookup a = some ⟨.type "tuple", none, .seq its n, sl⟩) (hs : its.size ≤ sizeLine) (v : Vals (ss.map V.str) its.toList) : KT K a (ss.map V.str) := ⟨_, its, n, l, rfl, rfl, rfl, hs, v⟩
end
end L3
namespace L3
open PySem PySem.Spec L2 PyProof.Rows
section
variable {K : PySem.W.Frag} {C E : Addr} {b : Bool} {T : String}
theorem exm_mk (a : PySem.W.subIn K (.ref E) (.type "BaseException") = some true) (c : PySem.W.isClsIn K E = true) (t : PySem.W.typeIn K (.ref E) = some (.type "type")) (s : PySem.W.subIn K (.ref C) (.ref E) = some b) : PySem.W.exmOne K (.ref C) (.ref E) = some b := by
  have c : (PySem.W.clsIn K E).isSome = true := c
  show (if (PySem.W.subIn K (.ref E) (.type "BaseException") == some true) = true then (if ((PySem.W.clsIn K E).isSome && PySem.W.typeIn K (.ref E) == some (.type "type")) = true then PySem.W.subIn K (.ref C) (.ref E) else none) else none) = some b
  rw [a, c, t]
  exact s
theorem kitC_mk (c : PySem.W.isClsIn K E = true) (t : PySem.W.typeIn K (.ref E) = some (.type "type")) (s : PySem.W.subIn K (.ref C) (.ref E) = some b) (n : C ≠ E) : PySem.W.kitOne K (.ref C) (.ref E) = some b := by
  have c : (PySem.W.clsIn K E).isSome = true := c
  show (if (Value.ref C == Value.ref E) = true then some true else (if ((PySem.W.clsIn K E).isSome && PySem.W.typeIn K (.ref E) == some (.type "type")) = true then PySem.W.subIn K (.ref C) (.ref E) else none)) = some b
  have z : (Value.ref C == Value.ref E) = false := by
    rw [beq_eq_false_iff_ne]
    intro h
    exact n (Value.ref.inj h)
  rw [z, c, t]
  exact s
theorem kitT_mk (m : PySem.W.kitMeta T = true) (s : PySem.W.subIn K (.ref C) (.type T) = some b) : PySem.W.kitOne K (.ref C) (.type T) = some b := by
  show (if (Value.ref C == Value.type T) = true then some true else (if PySem.W.kitMeta T = true then PySem.W.subIn K (.ref C) (.type T) else none)) = some b
  rw [m]
  exact s
end
end L3

set_option Elab.async false
set_option linter.all false
set_option maxRecDepth 100000
set_option autoImplicit false
set_option maxHeartbeats 0
namespace L3
open PySem
/-! ### steps at the level of data -/
section
theorem ifs {c : Prop} [Decidable c] {A B : Prop} (h1 : c → A) (h2 : ¬ c → B) : if c then A else B := by
  by_cases h : c
  · rw [if_pos h]; exact h1 h
  · rw [if_neg h]; exact h2 h
theorem ift {c : Prop} [Decidable c] {A B : Prop} (h : c) (h1 : A) : if c then A else B := by rw [if_pos h]; exact h1
theorem ife {c : Prop} [Decidable c] {A B : Prop} (h : ¬ c) (h1 : B) : if c then A else B := by rw [if_neg h]; exact h1
theorem wo_in {α : Type} {o : Option α} {k : α → Prop} {x : α} (e : o = some x) (h : k x) : wo o k := by rw [e]; exact h
theorem atI_nat {ds : List D} {n : Nat} {d : D} (h : ds[n]? = some d) : L2.atI ds (n : Int) = some d := by
  have hn : n < ds.length := (List.getElem?_eq_some_iff.mp h).1
  unfold L2.atI L2.ixN
  rw [if_pos (by omega), if_pos (by omega)]
  simpa using h
theorem atI_int {ds : List D} {i : Int} {d : D} (h0 : 0 ≤ i) (h : ds[i.toNat]? = some d) : L2.atI ds i = some d := by
  have := atI_nat h
  rwa [Int.toNat_of_nonneg h0] at this
theorem ixN_nat {m n : Nat} (h : n < m) : L2.ixN m (n : Int) = some n := by
  unfold L2.ixN
  rw [if_pos (by omega), if_pos (by omega)]
  simp
theorem ixN_int {m : Nat} {i : Int} (h0 : 0 ≤ i) (h : i < m) : L2.ixN m i = some i.toNat := by
  have := ixN_nat (m := m) (n := i.toNat) (by omega)
  rwa [Int.toNat_of_nonneg h0] at this
theorem pm (j : Int) (h : decide (0 < j) = true) : 0 < j := of_decide_eq_true h
theorem cm {i j : Int} (h : -(2 ^ 64) < j ∧ j < 2 ^ 64) : L2.CMul i j := .inr h
theorem unF {s : Sl} (h : s.locked = false) : (!s.locked) = true := by rw [h]; rfl
/-- a loop by an invariant -/
theorem for_inv {g : T3G} {tb : T3S} {E : E3} (P : Nat → En → Prop) (items : List D) (step : ∀ (i : Nat) (d : D) (ρ : En) (N : En → Prop), items[i]? = some d → P i ρ → (∀ ρ', P (i + 1) ρ' → N ρ') → g d ρ fun ρ1 => tb { E with nx := N, ct := N, bk := E.nx } ρ1)
    (done : ∀ ρ, P items.length ρ → E.nx ρ) {ρ : En} (h0 : P 0 ρ) : forL g tb E items ρ := by
  have go : ∀ (k i : Nat), i + k = items.length → ∀ ρ, P i ρ → forL g tb E (items.drop i) ρ := by
    intro k
    induction k with
    | zero =>
      intro i hi ρ h
      have e : i = items.length := by omega
      subst e
      rw [List.drop_length]
      exact done ρ h
    | succ k ih =>
      intro i hi ρ h
      have hl : i < items.length := by omega
      rw [List.drop_eq_getElem_cons hl]
      exact step i items[i] ρ _ (List.getElem?_eq_getElem hl) h (fun ρ' h' => ih (i + 1) (by omega) ρ' h')
  exact go items.length 0 (by omega) ρ h0
/-- a comprehension by an invariant -/
theorem lc_inv {g : T3G} {tt : T3T} {te : T3E} {vs : List Nat} {Q : List D → En → Prop} (P : Nat → List D → En → Prop) (items : List D)
    (step : ∀ (i : Nat) (d : D) (acc : List D) (ρ : En) (N : List D → En → Prop), items[i]? = some d → P i acc ρ → (∀ acc' ρ', P (i + 1) acc' ρ' → N acc' ρ') → noW ρ vs = true ∧ g d (wipeE ρ vs) fun ρ2 => tt ρ2 fun b ρ3 =>
      if b = true then te ρ3 fun r ρ4 => match r with
        | .val d => acc.length < sizeLine ∧ N (acc ++ [d]) (restE ρ vs ρ4)
        | _ => False
      else N acc (restE ρ vs ρ3))
    (done : ∀ acc ρ, P items.length acc ρ → Q acc ρ) {acc : List D} {ρ : En} (h0 : P 0 acc ρ) : lcL g tt te vs Q items acc ρ := by
  have go : ∀ (k i : Nat), i + k = items.length → ∀ acc ρ, P i acc ρ → lcL g tt te vs Q (items.drop i) acc ρ := by
    intro k
    induction k with
    | zero =>
      intro i hi acc ρ h
      have e : i = items.length := by omega
      subst e
      rw [List.drop_length]
      exact done acc ρ h
    | succ k ih =>
      intro i hi acc ρ h
      have hl : i < items.length := by omega
      rw [List.drop_eq_getElem_cons hl]
      unfold lcL
      exact step i items[i] acc ρ (fun acc ρ => lcL g tt te vs Q (items.drop (i + 1)) acc ρ) (List.getElem?_eq_getElem hl) h (fun acc' ρ' h' => ih (i + 1) (by omega) acc' ρ' h')
  exact go items.length 0 (by omega) acc ρ h0
/-- a comprehension that changes nothing else -/
theorem lc_pure {g : T3G} {tt : T3T} {te : T3E} {vs : List Nat} {Q : List D → En → Prop} (f : D → Option D) (items : List D) {ρ : En} (no : noW ρ vs = true) (hl : items.length < sizeLine)
    (step : ∀ (d : D), d ∈ items → ∀ (acc : List D) (N : List D → En → Prop), acc.length < sizeLine → N (acc ++ (f d).toList) ρ → g d (wipeE ρ vs) fun ρ2 => tt ρ2 fun b ρ3 =>
      if b = true then te ρ3 fun r ρ4 => match r with
        | .val d => acc.length < sizeLine ∧ N (acc ++ [d]) (restE ρ vs ρ4)
        | _ => False
      else N acc (restE ρ vs ρ3)) (done : Q (items.filterMap f) ρ) : lcL g tt te vs Q items [] ρ := by
  refine lc_inv (fun i acc ρ' => ρ' = ρ ∧ acc = (items.take i).filterMap f) items ?_ ?_ ⟨rfl, by simp⟩
  · rintro i d acc _ N hd ⟨rfl, rfl⟩ hN
    refine ⟨no, step d (List.mem_of_getElem? hd) _ N ?_ (hN _ _ ⟨rfl, ?_⟩)⟩
    · have h1 := List.length_filterMap_le f (items.take i)
      have h2 := List.length_take_le' i items
      omega
    · rw [List.take_add_one, hd, List.filterMap_append]
      cases hf : f d <;> simp [hf]
  · rintro acc _ ⟨rfl, rfl⟩
    rw [List.take_length]; exact done
theorem erase_perm {α : Type} : ∀ {l : List α} {i : Nat} (h : i < l.length), (l[i] :: l.eraseIdx i).Perm l
  | [], i, h => by simp at h
  | x :: l, 0, h => by simp
  | x :: l, i + 1, h => by
    simp only [List.getElem_cons_succ, List.eraseIdx_cons_succ]
    exact (List.Perm.swap _ _ _).trans ((erase_perm (by simpa using h)).cons x)
theorem eqi {i j : Int} : (D.eqv (.int i) (.int j) = true) = (i = j) := by simp [D.eqv]
end
namespace K00
open PySem PySem.Spec L2
open PyProof.Rows (b2i)
structure Ad where
  ITEMS : Addr
  JOINERS : Addr
  Claim : Addr
  BadClaim : Addr
  ScreenError : Addr
  BadForm : Addr
  w : World
theorem sz (n : Nat) (h : Nat.ble n 100 = true) : n ≤ sizeLine := Nat.le_trans (Nat.le_of_ble_eq_true h) (by decide)
def iD (r : List Int) : List D := r.map D.int
theorem iD_mem {r : List Int} {d : D} (h : d ∈ iD r) : ∃ x ∈ r, d = .int x := by
  obtain ⟨x, h1, h2⟩ := List.mem_map.mp h
  exact ⟨x, h1, h2.symm⟩
theorem oEq_in {neg : Bool} {x y : Rs} {ρ : En} {Q : Rs → En → Prop} {dx dy : D} (hx : x.dat ρ = some dx) (hy : y.dat ρ = some dy) (s1 : dx.shp = true) (s2 : dy.shp = true) (h : Q (.val (.bl (if neg then !D.eqv dx dy else D.eqv dx dy))) ρ) : oEq neg x y ρ Q := by
  unfold oEq wd; rw [hx, hy]; exact ⟨s1, s2, h⟩
theorem getD_put (k k' : Key) (d : D) : ∀ kvs : List (Key × D), getD' (putD kvs k d) k' = if k' = k then some d else getD' kvs k' := by
  intro kvs
  have gmap : ∀ kvs : List (Key × D), getD' (kvs.map fun kv => if kv.1 = k then (kv.1, d) else kv) k' = (getD' kvs k').map fun x => if k' = k then d else x := by
    intro kvs
    induction kvs with
    | nil => rfl
    | cons p r ih =>
      rw [List.map_cons]
      by_cases h : p.1 = k
      · rw [if_pos h]
        by_cases e : p.1 = k'
        · have e2 : k' = k := e.symm.trans h
          simp [getD', List.find?_cons, e, e2, h]
        · have a : getD' ((p.1, d) :: r.map fun kv => if kv.1 = k then (kv.1, d) else kv) k' = getD' (r.map fun kv => if kv.1 = k then (kv.1, d) else kv) k' := by simp [getD', List.find?_cons, e]
          have b : getD' (p :: r) k' = getD' r k' := by simp [getD', List.find?_cons, e]
          rw [a, b, ih]
      · rw [if_neg h]
        by_cases e : p.1 = k'
        · have e2 : ¬ k' = k := fun z => h (e.trans z)
          simp [getD', List.find?_cons, e, e2]
        · have a : getD' (p :: r.map fun kv => if kv.1 = k then (kv.1, d) else kv) k' = getD' (r.map fun kv => if kv.1 = k then (kv.1, d) else kv) k' := by simp [getD', List.find?_cons, e]
          have b : getD' (p :: r) k' = getD' r k' := by simp [getD', List.find?_cons, e]
          rw [a, b, ih]
  have gsnoc : ∀ kvs : List (Key × D), getD' (kvs ++ [(k, d)]) k' = (getD' kvs k').or (if k' = k then some d else none) := by
    intro kvs
    induction kvs with
    | nil =>
      by_cases e : k = k'
      · simp [getD', e]
      · have : ¬ k' = k := fun z => e z.symm
        simp [getD', e, this]
    | cons p r ih =>
      by_cases e : p.1 = k'
      · simp [getD', List.find?_cons, e]
      · have a : getD' ((p :: r) ++ [(k, d)]) k' = getD' (r ++ [(k, d)]) k' := by simp [getD', List.find?_cons, e]
        have b : getD' (p :: r) k' = getD' r k' := by simp [getD', List.find?_cons, e]
        rw [a, b, ih]
  have anyS : ∀ kvs : List (Key × D), (kvs.any fun kv => decide (kv.1 = k)) = (getD' kvs k).isSome := by
    intro kvs
    induction kvs with
    | nil => rfl
    | cons p r ih =>
      rw [List.any_cons, ih]
      by_cases e : p.1 = k
      · simp [getD', List.find?_cons, e]
      · have b : getD' (p :: r) k = getD' r k := by simp [getD', List.find?_cons, e]
        rw [b]; simp [e]
  unfold putD
  rw [anyS]
  by_cases q : (getD' kvs k).isSome = true
  · rw [if_pos q, gmap]
    by_cases e : k' = k
    · subst e
      obtain ⟨x, hx⟩ := Option.isSome_iff_exists.mp q
      simp [hx]
    · simp [e]
  · rw [if_neg q, gsnoc]
    by_cases e : k' = k
    · subst e
      have : getD' kvs k' = none := by simpa using q
      simp [this]
    · simp [e]
theorem lc_of {α : Type} {g : T3G} {tt : T3T} {te : T3E} {vs : List Nat} {Q : List D → En → Prop} (l : List α) (it : α → D) (out : α → Option D) {items : List D} {ρ : En} (ei : items = l.map it) (no : noW ρ vs = true) (hl : l.length < sizeLine)
    (step : ∀ (a : α), a ∈ l → ∀ (acc : List D) (N : List D → En → Prop), acc.length < sizeLine → N (acc ++ (out a).toList) ρ → g (it a) (wipeE ρ vs) fun ρ2 => tt ρ2 fun b ρ3 =>
      if b = true then te ρ3 fun r ρ4 => match r with
        | .val d => acc.length < sizeLine ∧ N (acc ++ [d]) (restE ρ vs ρ4)
        | _ => False
      else N acc (restE ρ vs ρ3)) (done : Q (l.filterMap out) ρ) : lcL g tt te vs Q items [] ρ := by
  subst ei
  refine lc_inv (fun i acc ρ' => ρ' = ρ ∧ acc = (l.take i).filterMap out) (l.map it) ?_ ?_ ⟨rfl, by simp⟩
  · rintro i d acc _ N hd ⟨rfl, rfl⟩ hN
    rw [List.getElem?_map] at hd
    obtain ⟨a, ha, rfl⟩ := Option.map_eq_some_iff.mp hd
    refine ⟨no, step a (List.mem_of_getElem? ha) _ N ?_ (hN _ _ ⟨rfl, ?_⟩)⟩
    · have h1 := List.length_filterMap_le out (l.take i)
      have h2 := List.length_take_le' i l
      omega
    · rw [List.take_add_one, ha, List.filterMap_append]
      cases hf : out a <;> simp [hf]
  · rintro acc _ ⟨rfl, rfl⟩
    rw [List.length_map, List.take_length]; exact done
theorem fm_all {α : Type} (g : α → D) : ∀ l : List α, l.filterMap (fun a => some (g a)) = l.map g
  | [] => rfl
  | x :: l => by rw [List.filterMap_cons, List.map_cons, fm_all g l]
/-! ### drawing -/
def isBag (d : D) : Prop := ∃ (ns : List Int) (a b c s : Int), d = .lst [.lst (ns.map D.int), .int a, .int b, .int c, .int s] ∧ 0 ≤ a
def sp__law_mixed (A : Ad) : S3 := fun ds QR _ => ∃ i j, ds = [.int i, .int j] ∧ ∀ r : Int, QR (.int r) ds
def b__law_mixed_t2 (A : Ad) : T3S := (sRet (eOp (oI (fun _ j => 0 < j) fun i j => .int (i % j)) (eCB cInt (aCons (eOp oAdd (eOp oAdd (eOp (oI CDiv fun i j => .int (i / j)) (eVar 3) (eC (.int 11))) (eOp oMul (eVar 3) (eC (.int 16807)))) (eVar 1)) aNil)) (eC (.int 2147483587))))
def b__law_mixed_t1 (A : Ad) : T3S := (sSeq (sAsg (eOp (oI (fun _ j => 0 < j) fun i j => .int (i % j)) (eCB cInt (aCons (eOp oAdd (eOp oAdd (eOp oMul (eVar 2) (eVar 2)) (eOp oMul (eVar 2) (eC (.int 69621)))) (eOp oMul (eOp oAdd (eVar 1) (eC (.int 3))) (eC (.int 40692)))) aNil)) (eC (.int 2147483629))) (gN 3))
 (b__law_mixed_t2 A))
def b__law_mixed (A : Ad) : T3S := (sSeq (sAsg (eOp (oI (fun _ j => 0 < j) fun i j => .int (i % j)) (eCB cInt (aCons (eOp oAdd (eOp oMul (eOp oAdd (eVar 0) (eC (.int 1))) (eC (.int 48271))) (eOp oMul (eOp oAdd (eVar 1) (eC (.int 1))) (eC (.int 1103515245)))) aNil)) (eC (.int 2147483647))) (gN 2))
 (b__law_mixed_t1 A))
theorem t__law_mixed (A : Ad) : ∀ ds QR QO, sp__law_mixed A ds QR QO → ds.length = 2 → b__law_mixed A (endE [.shr, .shr] ds QR QO) (startE 2 [.shr, .shr] ds) := by
  rintro ds QR QO ⟨i, j, rfl, h⟩ _
  refine ⟨cm (by decide), cm (by decide), pm _ rfl, rfl, ?_⟩
  have h1 := Int.emod_nonneg ((i + 1) * 48271 + (j + 1) * 1103515245) (show (2147483647 : Int) ≠ 0 by decide)
  have h2 := Int.emod_lt_of_pos ((i + 1) * 48271 + (j + 1) * 1103515245) (show (0 : Int) < 2147483647 by decide)
  refine ⟨cm ⟨by omega, by omega⟩, cm (by decide), cm (by decide), pm _ rfl, rfl, ?_⟩
  exact ⟨⟨by decide, by decide⟩, cm (by decide), pm _ rfl, h _⟩
def sp__law_bag (A : Ad) : S3 := fun ds _ QO => ∃ ns : List Int, ds = [.scr ns] ∧ ns.length ≤ 63 ∧ ∀ b, isBag b → QO b ds
def b__law_bag_l1 (A : Ad) : T3S := (sAsg (eOp (oI (fun _ j => 0 < j) fun i j => .int (i % j)) (eCB cInt (aCons (eOp oAdd (eOp oAdd (eOp oMul (eVar 2) (eC (.int 31))) (eOp (oI (fun _ j => 0 < j) fun i j => .int (i % j)) (eCB cInt (aCons (eCB cAbs (aCons (eVar 4) aNil)) aNil)) (eC (.int 1000000007)))) (eOp oMul (eOp oAdd (eVar 3) (eC (.int 1))) (eOp oLt (eVar 4) (eC (.int 0))))) aNil)) (eC (.int 1000000007))) (gN 2))
def b__law_bag_t3 (A : Ad) : T3S := (sRetO (oLst (aCons (eVar 1) (aCons (eC (.int 0)) (aCons (eC (.int 0)) (aCons (eC (.int 0)) (aCons (eVar 2) aNil)))))))
def b__law_bag_t2 (A : Ad) : T3S := (sSeq (sFor (iEP (aCons (eSl (eVar 1) pNo (pSo (eC (.int 63)))) aNil)) (gT 2 (fun xs ρ Q => match xs with | x :: r => (gN 3) x ρ fun ρ1 => (fun xs ρ Q => match xs with | x :: r => (gN 4) x ρ fun ρ1 => (fun xs ρ Q => xs = [] ∧ Q ρ) r ρ1 Q | [] => False) r ρ1 Q | [] => False))
 (b__law_bag_l1 A))
 (b__law_bag_t3 A))
def b__law_bag_t1 (A : Ad) : T3S := (sSeq (sAsg (eCB cLen (aCons (eVar 1) aNil)) (gN 2))
 (b__law_bag_t2 A))
def b__law_bag (A : Ad) : T3S := (sSeq (sAsg (eShr (oLc (iS (eVar 0)) (gN 4) fYes (eCB cInt (aCons (eVar 4) aNil)) [4])) (gN 1))
 (b__law_bag_t1 A))
theorem t__law_bag (A : Ad) : ∀ ds QR QO, sp__law_bag A ds QR QO → ds.length = 1 → b__law_bag A (endE [.shr] ds QR QO) (startE 4 [.shr] ds) := by
  rintro ds QR QO ⟨ns, rfl, hl, h⟩ _
  refine lc_of (ρ := [.shr (.scr ns), .emp, .emp, .emp, .emp]) ns D.int (fun x => some (.int x)) rfl rfl (by rw [sizeLine_eq]; omega) (fun x hx acc N hl hN => ⟨rfl, hl, hN⟩) ⟨trivial, rfl, ?_⟩
  rw [fm_all]
  show b__law_bag_t1 A _ [.shr (.scr ns), .shr (.lst (iD ns)), .emp, .emp, .emp]
  refine ⟨rfl, ?_⟩
  show b__law_bag_t2 A _ [.shr (.scr ns), .shr (.lst (iD ns)), .shr (.int ((iD ns).length : Nat)), .emp, .emp]
  refine for_inv (fun i ρ => ∃ (s : Int) (s3 s4 : Sl), s3.locked = false ∧ s4.locked = false ∧ ρ = [.shr (.scr ns), .shr (.lst (iD ns)), .shr (.int s), s3, s4]) _ ?_ ?_ ⟨_, .emp, .emp, rfl, rfl, rfl⟩
  · rintro i d ρ N hd ⟨s, s3, s4, h3, h4, rfl⟩ hN
    obtain ⟨x, hx, rfl⟩ := pairsD_get hd
    obtain ⟨c, hc, rfl⟩ : ∃ c : Int, c ∈ ns ∧ x = .int c := by
      have := List.mem_of_getElem? hx
      unfold cutL at this
      obtain ⟨c, h1, h2⟩ := iD_mem (List.mem_of_mem_drop (List.mem_of_mem_take this))
      exact ⟨c, h1, h2⟩
    refine ⟨rfl, unF h3, unF h4, rfl, ?_⟩
    show b__law_bag_l1 A { nx := N, rt := _, ro := _, bk := _, ct := N } [.shr (.scr ns), .shr (.lst (iD ns)), .shr (.int s), .shr (.int (i : Nat)), .shr (.int c)]
    exact ⟨cm (by decide), pm _ rfl, pm _ rfl, rfl, hN _ ⟨_, .shr (.int (i : Nat)), .shr (.int c), rfl, rfl, rfl⟩⟩
  · rintro ρ ⟨s, s3, s4, h3, h4, rfl⟩
    exact ⟨trivial, sz _ rfl, h _ ⟨ns, 0, 0, 0, s, rfl, by decide⟩⟩
def sp__law_pick (A : Ad) : S3 := fun ds QR _ => ∃ (bag : D) (many : Int), ds = [bag, .int many] ∧ isBag bag ∧ (0 < many ∧ many < 1073741824) ∧ ∀ r bag', 0 ≤ r → r < many → isBag bag' → QR (.int r) [bag', .int many]
def b__law_pick_c1t3 (A : Ad) : T3S := (sPut (eCB cAbs (aCons (eVar 3) aNil)) (eVar 0) (eC (.int 2)))
def b__law_pick_c1t2 (A : Ad) : T3S := (sSeq (sIf (fTst (eOp oLt (eCB cAbs (aCons (eVar 3) aNil)) (eOp (oI CPow fun i j => .int (i ^ j.toNat)) (eC (.int 10)) (eC (.int 18)))))
 (sRet (eOp (oI (fun _ j => 0 < j) fun i j => .int (i % j)) (eCB cInt (aCons (eCall [.shr, .shr] (sp__law_mixed A) (aCons (eOp oAdd (eOp oMul (eC (.int 2)) (eCB cAbs (aCons (eVar 3) aNil))) (eOp oLt (eVar 3) (eC (.int 0)))) (aCons (eVar 2) aNil))) aNil)) (eVar 1)))
 sNext)
 (b__law_pick_c1t3 A))
def b__law_pick_c1t1 (A : Ad) : T3S := (sSeq (sPut (eOp oAdd (eOp oIdx (eVar 0) (eC (.int 1))) (eC (.int 1))) (eVar 0) (eC (.int 1)))
 (b__law_pick_c1t2 A))
def b__law_pick_t6 (A : Ad) : T3S := (sRet (eVar 4))
def b__law_pick_t5 (A : Ad) : T3S := (sSeq (sPut (eOp (oI CDiv fun i j => .int (i / j)) (eOp oIdx (eVar 0) (eC (.int 2))) (eVar 1)) (eVar 0) (eC (.int 2)))
 (b__law_pick_t6 A))
def b__law_pick_t4 (A : Ad) : T3S := (sSeq (sAsg (eOp (oI (fun _ j => 0 < j) fun i j => .int (i % j)) (eCB cInt (aCons (eOp oIdx (eVar 0) (eC (.int 2))) aNil)) (eVar 1)) (gN 4))
 (b__law_pick_t5 A))
def b__law_pick_t3 (A : Ad) : T3S := (sSeq (sIf (fTst (eOp (oEq false) (eOp oIdx (eVar 0) (eC (.int 2))) (eC (.int 0))))
 (sRet (eOp (oI (fun _ j => 0 < j) fun i j => .int (i % j)) (eCB cInt (aCons (eCall [.shr, .shr] (sp__law_mixed A) (aCons (eOp oIdx (eVar 0) (eC (.int 4))) (aCons (eVar 2) aNil))) aNil)) (eVar 1)))
 sNext)
 (b__law_pick_t4 A))
def b__law_pick_t2 (A : Ad) : T3S := (sSeq (sIf (fAnd (fTst (eOp (oEq false) (eOp oIdx (eVar 0) (eC (.int 2))) (eC (.int 0)))) (fTst (eOp oLt (eOp oIdx (eVar 0) (eC (.int 1))) (eCB cLen (aCons (eOp oIdx (eVar 0) (eC (.int 0))) aNil)))))
 (sSeq (sAsg (eOp oIdx (eOp oIdx (eVar 0) (eC (.int 0))) (eOp oIdx (eVar 0) (eC (.int 1)))) (gN 3))
 (b__law_pick_c1t1 A))
 sNext)
 (b__law_pick_t3 A))
def b__law_pick_t1 (A : Ad) : T3S := (sSeq (sPut (eOp oAdd (eVar 2) (eC (.int 1))) (eVar 0) (eC (.int 3)))
 (b__law_pick_t2 A))
def b__law_pick (A : Ad) : T3S := (sSeq (sAsg (eOp oIdx (eVar 0) (eC (.int 3))) (gN 2))
 (b__law_pick_t1 A))
theorem t__law_pick (A : Ad) : ∀ ds QR QO, sp__law_pick A ds QR QO → ds.length = 2 → b__law_pick A (endE [.par, .shr] ds QR QO) (startE 3 [.par, .shr] ds) := by
  rintro ds QR QO ⟨bag, many, rfl, ⟨ns, a0, b0, c0, s, rfl, ha⟩, ⟨h1, h2⟩, h⟩ _
  have fin : ∀ x a b c, 0 ≤ a → QR (.int (x % many)) [.lst [.lst (ns.map D.int), .int a, .int b, .int c, .int s], .int many] := fun x a b c ha =>
    h _ _ (Int.emod_nonneg _ (by omega)) (Int.emod_lt_of_pos _ h1) ⟨ns, a, b, c, s, rfl, ha⟩
  have tail : ∀ a b t s3, 0 ≤ a → b__law_pick_t3 A (endE [.par, .shr] [.lst [.lst (ns.map D.int), .int a0, .int b0, .int c0, .int s], .int many] QR QO) [.par (.lst [.lst (ns.map D.int), .int a, .int b, .int (t + 1), .int s]), .shr (.int many), .shr (.int t), s3, .emp] := by
    intro a b t s3 ha
    refine ⟨rfl, rfl, ifs (fun z => ?_) fun z => ?_⟩
    · exact ⟨rfl, _, _, rfl, fun r => ⟨h1, fin _ _ _ _ ha⟩⟩
    · exact ⟨h1, rfl, ⟨h1, h2⟩, fin _ _ _ _ ha⟩
  refine ⟨rfl, rfl, rfl, ifs (fun z => ?_) fun z => tail _ _ _ _ ha⟩
  refine ifs (fun z2 => ?_) fun z2 => tail _ _ _ _ ha
  have z2 : a0 < ((ns.map D.int).length : Int) := of_decide_eq_true z2
  obtain ⟨cell, hc⟩ : ∃ cell, ns[a0.toNat]? = some cell := ⟨_, List.getElem?_eq_getElem (by rw [List.length_map] at z2; omega)⟩
  have hat : L2.atI (ns.map D.int) a0 = some (.int cell) := atI_int ha (by rw [List.getElem?_map, hc]; rfl)
  refine wo_in hat ⟨rfl, ⟨by decide, by decide, by decide⟩, ifs (fun z3 => ?_) fun z3 => tail _ _ _ _ (by omega)⟩
  exact ⟨.inl (by decide), rfl, _, _, rfl, fun r => ⟨h1, fin _ _ _ _ (by omega)⟩⟩
def sp__law_choice (A : Ad) : S3 := fun ds QR _ => ∃ (bag : D) (xs : List D), ds = [bag, .lst xs] ∧ isBag bag ∧ (xs ≠ [] ∧ xs.length < 1073741824) ∧ ∀ x bag', x ∈ xs → isBag bag' → QR x [bag', .lst xs]
def b__law_choice (A : Ad) : T3S := (sRet (eOp oIdx (eVar 1) (eCall [.par, .shr] (sp__law_pick A) (aCons (eVar 0) (aCons (eCB cLen (aCons (eVar 1) aNil)) aNil)))))
theorem t__law_choice (A : Ad) : ∀ ds QR QO, sp__law_choice A ds QR QO → ds.length = 2 → b__law_choice A (endE [.par, .shr] ds QR QO) (startE 0 [.par, .shr] ds) := by
  rintro ds QR QO ⟨bag, xs, rfl, hb, ⟨h1, h2⟩, h⟩ _
  have hl : 0 < xs.length := List.length_pos_iff.mpr h1
  refine ⟨rfl, _, _, rfl, hb, ⟨by omega, by omega⟩, fun r bag' r0 r1 hb' => ?_⟩
  have hx : xs[r.toNat]? = some xs[r.toNat] := List.getElem?_eq_getElem (by omega)
  exact wo_in (atI_int r0 hx) (h _ _ (List.getElem_mem _) hb')

/-! ### texts -/
def gd (n : Nat) (s : Str) : Prop := s.length ≤ n ∧ PyData.strOk s = true
theorem gd.mono {m n : Nat} {s : Str} (h : gd m s) (l : m ≤ n) : gd n s := ⟨Nat.le_trans h.1 l, h.2⟩
theorem gd.app {m n : Nat} {s t : Str} (h : gd m s) (h' : gd n t) : gd (m + n) (s ++ t) := by
  obtain ⟨a, b⟩ := h
  obtain ⟨c, d⟩ := h'
  refine ⟨?_, ?_⟩
  · rw [TL.len_tl, TL.tl_append, List.length_append]; rw [TL.len_tl] at a c; omega
  · unfold PyData.strOk at *
    rw [← Array.all_toList] at *
    rw [show (s ++ t).cps.toList = s.cps.toList ++ t.cps.toList from TL.tl_append s t, List.all_append, b, d]; rfl

end K00
end L3

set_option Elab.async false
set_option linter.all false
set_option maxRecDepth 100000
set_option autoImplicit false
set_option maxHeartbeats 0
namespace L3
namespace K00
open PySem PySem.Spec L2
open PyProof.Rows (b2i)
/-! ### words -/
abbrev abc : Str := "abcdefghijklmnopqrstuvwxyz"
def inL (c : Nat) : Bool := !(Builtin.Str.occurrences abc (⟨#[c]⟩ : Str) 0 abc.length 1).isEmpty
def low (s : Str) : Prop := ∀ c ∈ s.cps.toList, 97 ≤ c ∧ c ≤ 122
structure wd (s : Str) : Prop where
  l1 : 1 ≤ s.length
  l2 : s.length ≤ 8
  lw : low s
theorem inL_low {c : Nat} (h : 97 ≤ c ∧ c ≤ 122) : inL c = true := by
  have e : ((List.range 26).all fun k => inL (k + 97)) = true := by decide +kernel
  rw [List.all_eq_true] at e
  have := e (c - 97) (List.mem_range.mpr (by omega))
  rwa [show c - 97 + 97 = c by omega] at this
theorem low_ok {s : Str} (h : low s) : PyData.strOk s = true := by
  unfold PyData.strOk
  rw [← Array.all_toList, List.all_eq_true]
  intro c hc
  have := h c hc
  simp only [decide_eq_true_eq]; omega
/-! ### the library: names, numbers -/
def isName (z : Str) (b : Bool) : Prop := (wd z ∧ b = true) ∨ (z = "Ab" ∧ b = false) ∨ (z = "abcdefghi" ∧ b = false)
def sp_is_name (A : Ad) : S3 := fun ds QR _ => ∃ (z : Str) (b : Bool), ds = [.str z] ∧ isName z b ∧ QR (.bl b) ds
def b_is_name_t1 (A : Ad) : T3S := (sRet (eCB cAll (aCons (eShr (oLc (iSt (eVar 0)) (gN 1) fYes (eOp (oInT false) (eVar 1) (eC (.str "abcdefghijklmnopqrstuvwxyz"))) [1])) aNil)))
def b_is_name (A : Ad) : T3S := (sSeq (sIf (fOr (fNot (fTru (eCB cIsi (aCons (eVar 0) (aCons (eC (.ty "str")) aNil))))) (fOr (fTst (eOp oLt (eCB cLen (aCons (eVar 0) aNil)) (eC (.int 1)))) (fTst (eOp oGt (eCB cLen (aCons (eVar 0) aNil)) (eC (.int 8))))))
 (sRet (eC (.bl false)))
 sNext)
 (b_is_name_t1 A))
theorem t_is_name (A : Ad) : ∀ ds QR QO, sp_is_name A ds QR QO → ds.length = 1 → b_is_name A (endE [.shr] ds QR QO) (startE 1 [.shr] ds) := by
  rintro ds QR QO ⟨z, b, rfl, hz, h⟩ _
  have comp : ∀ (z : Str) (b : Bool), z.length ≤ 8 → z.cps.toList.all inL = b → QR (.bl b) [.str z] → b_is_name_t1 A (endE [.shr] [.str z] QR QO) [.shr (.str z), .emp] := by
    intro z b hl hb h
    have hl' : (signs z).length = z.length := by unfold signs; rw [List.length_map]; simp [Str.length]
    refine lc_of (ρ := [.shr (.str z), .emp]) z.cps.toList (fun c => .str ⟨#[c]⟩) (fun c => some (.bl (inL c))) rfl rfl (by rw [← List.length_map (f := fun c => D.str ⟨#[c]⟩)]; show (signs z).length < _; rw [hl']; exact Nat.lt_of_le_of_lt hl (by decide)) (fun c hc acc N hl hN => ?_) ⟨trivial, ?_⟩
    · exact ⟨rfl, hl, hN⟩
    · refine wo_in (x := z.cps.toList.map inL) (by rw [fm_all, show (fun c => D.bl (inL c)) = D.bl ∘ inL from rfl, ← List.map_map]; exact blsOf_map _) ?_
      show QR (.bl ((z.cps.toList.map inL).all id)) _
      rw [List.all_map]
      show QR (.bl (z.cps.toList.all inL)) _
      rw [hb]; exact h
  rcases hz with ⟨w, rfl⟩ | ⟨rfl, rfl⟩ | ⟨rfl, rfl⟩
  · refine ⟨rfl, ?_⟩
    have h1 := w.l1
    have h2 := w.l2
    have hs : z.length ≤ sizeLine := Nat.le_trans h2 (by decide)
    refine ⟨hs, ife (by rw [decide_eq_true_eq]; omega) ⟨hs, ife (by rw [decide_eq_true_eq]; omega) (comp z true h2 ?_ h)⟩⟩
    rw [List.all_eq_true]
    exact fun c hc => inL_low (w.lw c hc)
  · exact ⟨rfl, by decide, by decide, comp _ false (by decide) (by decide +kernel) h⟩
  · exact ⟨rfl, by decide, by decide, h⟩
def isNum (d : D) (lo hi : Int) (b : Bool) : Prop := (∃ n, d = .int n ∧ b = decide (lo ≤ n ∧ n ≤ hi)) ∨ ((∃ x, d = .bl x) ∨ ∃ s, d = .str s) ∧ b = false
def sp_is_number (A : Ad) : S3 := fun ds QR _ => ∃ (d : D) (lo hi : Int) (b : Bool), ds = [d, .int lo, .int hi] ∧ isNum d lo hi b ∧ QR (.bl b) ds
def b_is_number (A : Ad) : T3S := (sRet (eAnd (eCB cIsi (aCons (eVar 0) (aCons (eC (.ty "int")) aNil))) (eAnd (eNot (eCB cIsi (aCons (eVar 0) (aCons (eC (.ty "bool")) aNil)))) (eChain oLe oLe (eVar 1) (eVar 0) (eVar 2)))))
theorem t_is_number (A : Ad) : ∀ ds QR QO, sp_is_number A ds QR QO → ds.length = 3 → b_is_number A (endE [.shr, .shr, .shr] ds QR QO) (startE 0 [.shr, .shr, .shr] ds) := by
  rintro ds QR QO ⟨d, lo, hi, b, rfl, hd, h⟩ _
  rcases hd with ⟨n, rfl, rfl⟩ | ⟨⟨x, rfl⟩ | ⟨s, rfl⟩, rfl⟩
  · refine ⟨rfl, rfl, ?_⟩
    refine ifs (fun z => ?_) fun z => ?_
    · have z : lo ≤ n := of_decide_eq_true z
      show QR (.bl (decide (n ≤ hi))) _
      have e : decide (lo ≤ n ∧ n ≤ hi) = decide (n ≤ hi) := by simp [z]
      rw [← e]; exact h
    · have z : ¬ lo ≤ n := fun q => z (decide_eq_true q)
      have e : decide (lo ≤ n ∧ n ≤ hi) = false := decide_eq_false fun q => z q.1
      rw [e] at h
      exact h
  · exact ⟨rfl, rfl, h⟩
  · exact ⟨rfl, h⟩
end K00
end L3

set_option Elab.async false
set_option linter.all false
set_option maxRecDepth 100000
set_option autoImplicit false
set_option maxHeartbeats 0
namespace L3
namespace K00
open PySem PySem.Spec L2
open PyProof.Rows (b2i)
/-! ### drawn words -/
theorem atI_g {α : Type} {ds : List α} {i : Int} {d : α} (h0 : 0 ≤ i) (h : ds[i.toNat]? = some d) : L2.atI ds i = some d := by
  have hn : i.toNat < ds.length := (List.getElem?_eq_some_iff.mp h).1
  unfold L2.atI
  rw [ixN_int h0 (by omega)]
  exact h
theorem pigeon {α : Type} [BEq α] [LawfulBEq α] : ∀ {l m : List α}, l.Nodup → (∀ x ∈ l, x ∈ m) → l.length ≤ m.length
  | [], _, _, _ => Nat.zero_le _
  | x :: l, m, hn, h => by
    obtain ⟨hx, hn⟩ := List.nodup_cons.mp hn
    have hm := h x (List.mem_cons_self ..)
    have := pigeon (l := l) (m := m.erase x) hn fun y hy => by
      have ne : y ≠ x := fun e => hx (e ▸ hy)
      rw [List.mem_erase_of_ne ne]
      exact h y (List.mem_cons_of_mem _ hy)
    rw [List.length_erase_of_mem hm] at this
    have : 0 < m.length := List.length_pos_of_mem hm
    rw [List.length_cons]; omega
theorem shp_str {s : Str} (h : PyData.strOk s = true) : (D.str s).shp = true := by
  unfold D.shp
  simp [D.ok, D.dep, h]
theorem oks_strs : ∀ {l : List Str}, (∀ s ∈ l, PyData.strOk s = true) → D.oks (l.map D.str) = true ∧ D.deps (l.map D.str) ≤ 1
  | [], _ => ⟨rfl, by simp [D.deps]⟩
  | s :: l, h => by
    obtain ⟨h1, h2⟩ := oks_strs fun x hx => h x (List.mem_cons_of_mem _ hx)
    have := h s (List.mem_cons_self ..)
    simp only [List.map, D.oks, D.deps, D.ok, D.dep, Bool.and_eq_true]
    exact ⟨⟨this, h1⟩, by omega⟩
theorem shp_strs {l : List Str} (h : ∀ s ∈ l, PyData.strOk s = true) : (D.lst (l.map D.str)).shp = true ∧ (D.tup (l.map D.str)).shp = true := by
  obtain ⟨h1, h2⟩ := oks_strs h
  have h3 : D.deps (l.map D.str) + 1 ≤ 50 := by omega
  unfold D.shp
  rw [Bool.and_eq_true, Bool.and_eq_true, decide_eq_true_eq, decide_eq_true_eq]
  simp only [D.ok, D.dep]
  exact ⟨⟨h1, h3⟩, h1, h3⟩
theorem any_strs (a : Str) : ∀ l : List Str, ((l.map D.str).any fun z => D.eqv z (.str a)) = decide (a ∈ l)
  | [] => by simp
  | s :: l => by
    rw [List.map_cons, List.any_cons, any_strs a l]
    simp only [D.eqv]
    by_cases h : s = a
    · subst h; simp
    · have : ¬ a = s := fun e => h e.symm
      simp [h, this]
theorem low_app {s t : Str} (h : low s) (h' : low t) : low (s ++ t) := fun c hc => by
  rw [show (s ++ t).cps.toList = s.cps.toList ++ t.cps.toList from TL.tl_append s t] at hc
  rcases List.mem_append.mp hc with z | z
  · exact h c z
  · exact h' c z
theorem len_app (s t : Str) : (s ++ t).length = s.length + t.length := by rw [TL.len_tl, TL.tl_append, List.length_append, ← TL.len_tl, ← TL.len_tl]
theorem abc_get {r : Int} (h0 : 0 ≤ r) (h1 : r < 26) : ∃ c, L2.atI abc.cps.toList r = some c ∧ 97 ≤ c ∧ c ≤ 122 := by
  have hl : r.toNat < abc.cps.toList.length := by
    have : abc.cps.toList.length = 26 := by decide +kernel
    omega
  refine ⟨abc.cps.toList[r.toNat], atI_g h0 (List.getElem?_eq_getElem hl), ?_⟩
  have e : abc.cps.toList.all (fun c => decide (97 ≤ c ∧ c ≤ 122)) = true := by decide +kernel
  rw [List.all_eq_true] at e
  exact of_decide_eq_true (e _ (List.getElem_mem hl))
theorem abc_len : abc.length = 26 := by decide +kernel
theorem low_one {c : Nat} (h : 97 ≤ c ∧ c ≤ 122) : low (⟨#[c]⟩ : Str) := fun x hx => by
  have : x = c := by simpa using hx
  subst this; exact h
def one (s : Str) : Prop := s.length = 1 ∧ low s
theorem join_one : ∀ {ss : List Str}, (∀ s ∈ ss, one s) → (Txt.join "" ss).length = ss.length ∧ low (Txt.join "" ss)
  | ss, h => by
    rw [TL.join_eq, TL.len_tl]
    have e : TL.tl (Str.join "" ss) = (ss.map TL.tl).flatten := by
      rw [TL.tl_join]
      generalize ss.map TL.tl = l
      induction l with
      | nil => rfl
      | cons p l ih =>
        cases l with
        | nil => simp [TL.joinL]
        | cons q r =>
          show p ++ (_ ++ TL.joinL _ (q :: r)) = _
          rw [ih]
          rfl
    have e2 : ∀ ss : List Str, (∀ s ∈ ss, one s) → (ss.map TL.tl).flatten.length = ss.length ∧ ∀ c ∈ (ss.map TL.tl).flatten, 97 ≤ c ∧ c ≤ 122 := by
      intro ss
      induction ss with
      | nil => intro _; exact ⟨rfl, fun c hc => by simp at hc⟩
      | cons s ss ih =>
        intro h
        obtain ⟨a, b⟩ := ih fun x hx => h x (List.mem_cons_of_mem _ hx)
        obtain ⟨h1, h2⟩ := h s (List.mem_cons_self ..)
        rw [TL.len_tl] at h1
        rw [List.map_cons, List.flatten_cons]
        refine ⟨by rw [List.length_append, a, h1, List.length_cons]; omega, fun c hc => ?_⟩
        rcases List.mem_append.mp hc with z | z
        · exact h2 c z
        · exact b c z
    obtain ⟨a, b⟩ := e2 ss h
    refine ⟨by rw [e, a], fun c hc => ?_⟩
    have hc : c ∈ TL.tl (Str.join "" ss) := hc
    rw [e] at hc
    exact b c hc
theorem cutS_low {s : Str} (lo hi : Option Int) (h : low s) : low (cutS s lo hi) := fun c hc => by
  unfold cutS at hc
  exact h c (List.mem_of_mem_drop (List.mem_of_mem_take hc))
theorem cutS_hi {s : Str} (n : Nat) : (cutS s none (some (n : Int))).length = min n s.length := by
  unfold cutS
  rw [HT.sIx_nat, HT.sIx_none, TL.len_tl]
  show (List.take _ _).length = _
  rw [List.length_take, List.length_drop, ← TL.len_tl]
  omega
theorem cutS_lo {s : Str} (n : Nat) : (cutS s (some (n : Int)) none).length = s.length - n := by
  unfold cutS
  rw [HT.sIx_nat, HT.sIx_none, TL.len_tl]
  show (List.take _ _).length = _
  rw [List.length_take, List.length_drop, ← TL.len_tl]
  omega
def uD (l : List Str) : D := .lst (l.map D.str)
theorem wd_item : wd "item" := ⟨by decide, by decide, fun c hc => by
  have e : ("item" : Str).cps.toList.all (fun c => decide (97 ≤ c ∧ c ≤ 122)) = true := by decide +kernel
  rw [List.all_eq_true] at e
  exact of_decide_eq_true (e _ hc)⟩
theorem wd_at : wd "at" := ⟨by decide, by decide, fun c hc => by
  have e : ("at" : Str).cps.toList.all (fun c => decide (97 ≤ c ∧ c ≤ 122)) = true := by decide +kernel
  rw [List.all_eq_true] at e
  exact of_decide_eq_true (e _ hc)⟩
theorem wd.ok {s : Str} (h : wd s) : PyData.strOk s = true := low_ok h.lw
theorem wd.shp {s : Str} (h : wd s) : (D.str s).shp = true := shp_str h.ok
theorem wds_shp {l : List Str} (h : ∀ s ∈ l, wd s) : (uD l).shp = true := (shp_strs fun s hs => (h s hs).ok).1
def tl2 (k : Nat) : Str := ⟨#[k / 26 + 97]⟩ ++ ⟨#[k % 26 + 97]⟩
def sp__law_new_name (A : Ad) : S3 := fun ds QR _ => ∃ (bag : D) (used : List Str), ds = [bag, uD used] ∧ isBag bag ∧ used.length ≤ 2 ∧ (∀ s ∈ used, wd s) ∧ ∀ w bag', wd w → isBag bag' → QR (.str w) [bag', uD (used ++ [w])]
def b__law_new_name_c1t2 (A : Ad) : T3S := (sAsg (eOp oAdd (eOp oAdd (eSl (eVar 4) pNo (pSo (eVar 5))) (eOp oIdx (eVar 2) (eCall [.par, .shr] (sp__law_pick A) (aCons (eVar 0) (aCons (eC (.int 26)) aNil))))) (eSl (eVar 4) (pSo (eOp oAdd (eVar 5) (eC (.int 1)))) pNo)) (gN 3))
def b__law_new_name_c1t1 (A : Ad) : T3S := (sSeq (sAsg (eCall [.par, .shr] (sp__law_pick A) (aCons (eVar 0) (aCons (eCB cLen (aCons (eVar 4) aNil)) aNil))) (gN 5))
 (b__law_new_name_c1t2 A))
def b__law_new_name_c2t1 (A : Ad) : T3S := (sAsg (eOp oIdx (eShr (oLc (iS (eVar 6)) (gN 9) (fTst (eOp (oIn true) (eOp oAdd (eSl (eVar 3) pNo (pSo (eC (.int 6)))) (eVar 9)) (eOp oAdd (eVar 1) (eLst (aCons (eC (.str "item")) aNil))))) (eOp oAdd (eSl (eVar 3) pNo (pSo (eC (.int 6)))) (eVar 9)) [9])) (eC (.int 0))) (gN 3))
def b__law_new_name_t5 (A : Ad) : T3S := (sRet (eVar 3))
def b__law_new_name_t4 (A : Ad) : T3S := (sSeq (sDrop (eBM "list" mAppend (eVar 1) (aCons (eVar 3) aNil)))
 (b__law_new_name_t5 A))
def b__law_new_name_t3 (A : Ad) : T3S := (sSeq (sIf (fTst (eOp (oIn false) (eVar 3) (eOp oAdd (eVar 1) (eLst (aCons (eC (.str "item")) (aCons (eC (.str "at")) aNil))))))
 (sSeq (sAsg (eShr (oLc (iR1 (aCons (eC (.int 676)) aNil)) (gN 8) fYes (eOp oAdd (eOp oIdx (eVar 2) (eOp (oI CDiv fun i j => .int (i / j)) (eVar 8) (eC (.int 26)))) (eOp oIdx (eVar 2) (eOp (oI (fun _ j => 0 < j) fun i j => .int (i % j)) (eCB cInt (aCons (eVar 8) aNil)) (eC (.int 26))))) [8])) (gN 6))
 (b__law_new_name_c2t1 A))
 sNext)
 (b__law_new_name_t4 A))
def b__law_new_name_t2 (A : Ad) : T3S := (sSeq (sIf (fAnd (fTru (eVar 1)) (fTst (eOp (oEq false) (eCall [.par, .shr] (sp__law_pick A) (aCons (eVar 0) (aCons (eC (.int 3)) aNil))) (eC (.int 0)))))
 (sSeq (sAsg (eSl (eOp oIdx (eVar 1) (eCall [.par, .shr] (sp__law_pick A) (aCons (eVar 0) (aCons (eCB cLen (aCons (eVar 1) aNil)) aNil)))) pNo (pSo (eC (.int 6)))) (gN 4))
 (b__law_new_name_c1t1 A))
 sNext)
 (b__law_new_name_t3 A))
def b__law_new_name_t1 (A : Ad) : T3S := (sSeq (sAsg (eBM "str" mJoin (eC (.str "")) (aCons (eShr (oLc (iR1 (aCons (eOp oAdd (eC (.int 1)) (eCall [.par, .shr] (sp__law_pick A) (aCons (eVar 0) (aCons (eC (.int 6)) aNil)))) aNil)) (gN 7) fYes (eOp oIdx (eVar 2) (eCall [.par, .shr] (sp__law_pick A) (aCons (eVar 0) (aCons (eC (.int 26)) aNil)))) [7])) aNil)) (gN 3))
 (b__law_new_name_t2 A))
def b__law_new_name (A : Ad) : T3S := (sSeq (sAsg (eC (.str "abcdefghijklmnopqrstuvwxyz")) (gN 2))
 (b__law_new_name_t1 A))
theorem nn_4 (A : Ad) {QR QO : D → List D → Prop} {x y : D} {bag : D} {used : List Str} {w : Str} {s4 s5 s6 : Sl} (hb : isBag bag) (hw : wd w) (hl : used.length ≤ 2) (h : ∀ w bag', wd w → isBag bag' → QR (.str w) [bag', uD (used ++ [w])]) :
    b__law_new_name_t4 A (endE [.par, .par] [x, y] QR QO) [.par bag, .par (uD used), .shr (.str abc), .shr (.str w), s4, s5, s6, .emp, .emp, .emp] := by
  refine ⟨rfl, show (used.map D.str).length < sizeLine by rw [List.length_map]; exact Nat.lt_of_le_of_lt hl (by decide), ?_⟩
  have e : (used.map D.str) ++ [D.str w] = (used ++ [w]).map D.str := by simp
  have key : b__law_new_name_t5 A (endE [.par, .par] [x, y] QR QO) [.par bag, .par (.lst ((used.map D.str) ++ [D.str w])), .shr (.str abc), .shr (.str w), s4, s5, s6, .emp, .emp, .emp] := by
    rw [e]
    exact h w bag hw hb
  exact key
theorem app_strs (l m : List Str) : l.map D.str ++ m.map D.str = (l ++ m).map D.str := List.map_append.symm
theorem tl2_ok {k : Nat} (h : k < 676) : low (tl2 k) ∧ (tl2 k).length = 2 :=
  ⟨low_app (low_one (by omega)) (low_one (by omega)), by unfold tl2; rw [len_app]; rfl⟩
theorem abc_nat {k : Nat} (h : k < 26) : L2.atI abc.cps.toList ((k : Nat) : Int) = some (k + 97) := by
  have e : ((List.range 26).all fun k => decide (L2.atI abc.cps.toList ((k : Nat) : Int) = some (k + 97))) = true := by decide +kernel
  rw [List.all_eq_true] at e
  exact of_decide_eq_true (e k (List.mem_range.mpr h))
def nnF (w : Str) (k : Nat) : Str := cutS w none (some 6) ++ tl2 k
theorem nnF_wd {w : Str} (hw : wd w) {k : Nat} (hk : k < 676) : wd (nnF w k) ∧ (cutS w none (some 6)).length ≤ 6 := by
  have l1 := hw.l1
  have sw : cutS w none (some 6) = cutS w none (some ((6 : Nat) : Int)) := rfl
  obtain ⟨d, e⟩ := tl2_ok hk
  have h6 : (cutS w none (some 6)).length = min 6 w.length := by rw [sw, cutS_hi]
  refine ⟨⟨?_, ?_, low_app (cutS_low _ _ hw.lw) d⟩, by omega⟩ <;> (unfold nnF; rw [len_app]; omega)
theorem nnF_inj {w : Str} {i j : Nat} (hi : i < 26) (hj : j < 26) (h : nnF w i = nnF w j) : i = j := by
  have := congrArg TL.tl h
  unfold nnF at this
  rw [TL.tl_append, TL.tl_append] at this
  have := List.append_cancel_left this
  unfold tl2 at this
  rw [TL.tl_append, TL.tl_append] at this
  have h2 : [i / 26 + 97, i % 26 + 97] = [j / 26 + 97, j % 26 + 97] := this
  simp only [List.cons.injEq, and_true] at h2
  omega
theorem nn_some {w : Str} {l : List Str} (hl : l.length ≤ 3) : ∃ k, k < 676 ∧ ((List.range 676).filterMap fun k => if nnF w k ∈ l then none else some (D.str (nnF w k)))[0]? = some (.str (nnF w k)) := by
  have ne : ∃ k, k < 4 ∧ nnF w k ∉ l := by
    refine Classical.byContradiction fun z => ?_
    have all : ∀ k, k < 4 → nnF w k ∈ l := fun k hk => Classical.byContradiction fun q => z ⟨k, hk, q⟩
    have nd : ([nnF w 0, nnF w 1, nnF w 2, nnF w 3] : List Str).Nodup := by
      have d : ∀ i j, i < 26 → j < 26 → i ≠ j → nnF w i ≠ nnF w j := fun i j hi hj n e => n (nnF_inj hi hj e)
      simp only [List.nodup_cons, List.mem_cons, List.not_mem_nil, or_false, not_or, List.nodup_nil, and_true, not_false_eq_true]
      exact ⟨⟨d 0 1 (by decide) (by decide) (by decide), d 0 2 (by decide) (by decide) (by decide), d 0 3 (by decide) (by decide) (by decide)⟩, ⟨d 1 2 (by decide) (by decide) (by decide), d 1 3 (by decide) (by decide) (by decide)⟩, d 2 3 (by decide) (by decide) (by decide)⟩
    have := pigeon (m := l) nd fun x hx => by
      simp only [List.mem_cons, List.not_mem_nil, or_false] at hx
      rcases hx with rfl | rfl | rfl | rfl
      · exact all 0 (by decide)
      · exact all 1 (by decide)
      · exact all 2 (by decide)
      · exact all 3 (by decide)
    simp only [List.length_cons, List.length_nil] at this
    omega
  obtain ⟨k, hk, hn⟩ := ne
  generalize hR : List.range 676 = R
  have hm : k ∈ R := by rw [← hR]; exact List.mem_range.mpr (by omega)
  have hb : ∀ x ∈ R, x < 676 := fun x hx => by rw [← hR] at hx; exact List.mem_range.mp hx
  have hne : (R.filterMap fun k => if nnF w k ∈ l then none else some (D.str (nnF w k))) ≠ [] := fun e => by
    have : D.str (nnF w k) ∈ (R.filterMap fun k => if nnF w k ∈ l then none else some (D.str (nnF w k))) := List.mem_filterMap.mpr ⟨k, hm, by rw [if_neg hn]⟩
    rw [e] at this; simp at this
  have h0 := List.length_pos_iff.mpr hne
  have hx := List.getElem_mem h0
  obtain ⟨k', hk', e⟩ := List.mem_filterMap.mp hx
  by_cases q : nnF w k' ∈ l
  · rw [if_pos q] at e; cases e
  · rw [if_neg q] at e
    exact ⟨k', hb k' hk', by rw [List.getElem?_eq_getElem h0]; exact e.symm⟩
theorem nn_sh {used m : List Str} (hu : ∀ s ∈ used, wd s) (hm : ∀ s ∈ m, wd s) : (D.lst (used.map D.str ++ m.map D.str)).shp = true := by
  rw [app_strs]
  exact wds_shp fun s h => (List.mem_append.mp h).elim (hu s) (hm s)
theorem nn_sz {used m : List Str} (hl : used.length ≤ 2) (hm : m.length ≤ 2) : (used.map D.str).length + (m.map D.str).length ≤ sizeLine := by
  rw [List.length_map, List.length_map, sizeLine_eq]; omega
theorem nn_i : ∀ s ∈ (["item"] : List Str), wd s := fun s h => by
  have : s = "item" := by simpa using h
  subst this; exact wd_item
theorem nn_i2 : ∀ s ∈ (["item", "at"] : List Str), wd s := fun s h => by
  have : s = "item" ∨ s = "at" := by simpa using h
  rcases this with rfl | rfl
  · exact wd_item
  · exact wd_at
theorem nn_3t (A : Ad) {E : E3} {bag : D} {used : List Str} {w : Str} {s4 s5 : Sl} (T : List D) (hT : T = (List.range 676).map fun k => D.str (tl2 k)) (hw : wd w) (hl : used.length ≤ 2) (hu : ∀ s ∈ used, wd s)
    (hN : ∀ k, k < 676 → E.nx [.par bag, .par (uD used), .shr (.str abc), .shr (.str (nnF w k)), s4, s5, .shr (.lst T), .emp, .emp, .emp]) : b__law_new_name_c2t1 A E [.par bag, .par (uD used), .shr (.str abc), .shr (.str w), s4, s5, .shr (.lst T), .emp, .emp, .emp] := by
  have ln : (used ++ [("item" : Str)]).length ≤ 3 := by rw [List.length_append]; show _ + 1 ≤ 3; omega
  have hs : w.length ≤ sizeLine := Nat.le_trans hw.l2 (by decide)
  generalize hR : List.range 676 = R at hT
  have hR1 : R.length = 676 := by rw [← hR]; exact List.length_range
  have hR2 : ∀ k ∈ R, k < 676 := fun k hk => by rw [← hR] at hk; exact List.mem_range.mp hk
  obtain ⟨k0, hk0, e0⟩ := nn_some (w := w) ln
  rw [hR] at e0
  refine lc_of (ρ := [.par bag, .par (uD used), .shr (.str abc), .shr (.str w), s4, s5, .shr (.lst T), .emp, .emp, .emp]) R (fun k => .str (tl2 k)) (fun k => if nnF w k ∈ used ++ [("item" : Str)] then none else some (D.str (nnF w k))) hT rfl (by rw [hR1]; decide) (fun k hk acc N hl' hN' => ?_) ⟨trivial, wo_in (x := D.str (nnF w k0)) (atI_nat (n := 0) e0) ⟨rfl, hN k0 hk0⟩⟩
  obtain ⟨w1, w2⟩ := nnF_wd hw (hR2 k hk)
  have le8 : (cutS w none (some 6)).length + (tl2 k).length ≤ sizeLine := by rw [(tl2_ok (hR2 k hk)).2, sizeLine_eq]; omega
  refine ⟨rfl, hs, le8, sz 1 rfl, nn_sz (m := ["item"]) hl (by decide), w1.shp, nn_sh (m := ["item"]) hu nn_i, ?_⟩
  have ea : ((used.map D.str ++ (["item"] : List Str).map D.str).any fun z => D.eqv z (.str (nnF w k))) = decide (nnF w k ∈ used ++ [("item" : Str)]) := by rw [app_strs, any_strs]
  by_cases z : nnF w k ∈ used ++ [("item" : Str)]
  · rw [if_pos z] at hN'
    have e1 : (!((used.map D.str ++ (["item"] : List Str).map D.str).any fun z => D.eqv z (.str (nnF w k)))) = false := by rw [ea, decide_eq_true z]; rfl
    refine ife (by rw [Bool.not_eq_true]; exact e1) ?_
    have hN' : N (acc ++ []) _ := hN'
    rw [List.append_nil] at hN'
    exact hN'
  · rw [if_neg z] at hN'
    have e1 : (!((used.map D.str ++ (["item"] : List Str).map D.str).any fun z => D.eqv z (.str (nnF w k)))) = true := by rw [ea, decide_eq_false z]; rfl
    exact ift e1 ⟨hs, le8, hl', hN'⟩
theorem nn_3 (A : Ad) {QR QO : D → List D → Prop} {x y : D} {bag : D} {used : List Str} {w : Str} {s4 s5 : Sl} (hb : isBag bag) (hw : wd w) (hl : used.length ≤ 2) (hu : ∀ s ∈ used, wd s) (h : ∀ w bag', wd w → isBag bag' → QR (.str w) [bag', uD (used ++ [w])]) :
    b__law_new_name_t3 A (endE [.par, .par] [x, y] QR QO) [.par bag, .par (uD used), .shr (.str abc), .shr (.str w), s4, s5, .emp, .emp, .emp, .emp] := by
  refine ⟨sz 2 rfl, nn_sz (m := ["item", "at"]) hl (by decide), hw.shp, nn_sh (m := ["item", "at"]) hu nn_i2, ifs (fun z => ?_) fun z => nn_4 A hb hw hl h⟩
  have key : ∀ T, T = ((List.range 676).map fun k => D.str (tl2 k)) → b__law_new_name_c2t1 A { endE [.par, .par] [x, y] QR QO with nx := b__law_new_name_t4 A (endE [.par, .par] [x, y] QR QO) } [.par bag, .par (uD used), .shr (.str abc), .shr (.str w), s4, s5, .shr (.lst T), .emp, .emp, .emp] :=
    fun T hT => nn_3t A T hT hw hl hu fun k hk => nn_4 A hb (nnF_wd hw hk).1 hl h
  have hr : rngD 0 1 (676 : Int).toNat = (List.range 676).map fun k => D.int (0 + (k : Nat) * 1) := rfl
  have hR1 : (List.range 676).length = 676 := List.length_range
  have hR2 : ∀ k ∈ List.range 676, k < 676 := fun k hk => List.mem_range.mp hk
  generalize (List.range 676) = R at key hr hR1 hR2
  refine ⟨⟨by decide, by decide⟩, ?_⟩
  refine lc_of (ρ := [.par bag, .par (uD used), .shr (.str abc), .shr (.str w), s4, s5, .emp, .emp, .emp, .emp]) R (fun k => .int (0 + (k : Nat) * 1)) (fun k => some (.str (tl2 k))) hr rfl (by rw [hR1]; decide) (fun k hk acc N hl' hN' => ?_) ⟨trivial, ?_⟩
  · have hk := hR2 k hk
    have d1 : L2.atI abc.cps.toList (((0 + (k : Nat) * 1 : Int)) / 26) = some (k / 26 + 97) := by
      have : ((0 + (k : Nat) * 1 : Int)) / 26 = ((k / 26 : Nat) : Int) := by omega
      rw [this]; exact abc_nat (by omega)
    have d2 : L2.atI abc.cps.toList (((0 + (k : Nat) * 1 : Int)) % 26) = some (k % 26 + 97) := by
      have : ((0 + (k : Nat) * 1 : Int)) % 26 = ((k % 26 : Nat) : Int) := by omega
      rw [this]; exact abc_nat (by omega)
    refine ⟨rfl, ⟨by decide, by decide⟩, by rw [abc_len]; decide, wo_in d1 ⟨pm _ rfl, by rw [abc_len]; decide, wo_in d2 ⟨by show 1 + 1 ≤ _; decide, hl', hN'⟩⟩⟩
  · exact ⟨rfl, key _ (fm_all (fun k => D.str (tl2 k)) R)⟩
/-- near[:at] + letter + near[at + 1:] -/
theorem nn_near {n : Str} {c : Nat} {r : Int} (hl : low n) (hn : n.length ≤ 6) (h0 : 0 ≤ r) (h1 : r < n.length) (hc : 97 ≤ c ∧ c ≤ 122) :
    wd (cutS n none (some r) ++ ⟨#[c]⟩ ++ cutS n (some (r + 1)) none) ∧ (cutS n none (some r)).length + 1 ≤ 6 ∧ (cutS n none (some r) ++ (⟨#[c]⟩ : Str)).length + (cutS n (some (r + 1)) none).length ≤ 6 := by
  obtain ⟨k, rfl⟩ : ∃ k : Nat, r = (k : Int) := ⟨r.toNat, by omega⟩
  have e1 : (cutS n none (some (k : Int))).length = min k n.length := cutS_hi k
  have e2 : (cutS n (some ((k : Int) + 1)) none).length = n.length - (k + 1) := by rw [show (k : Int) + 1 = ((k + 1 : Nat) : Int) by omega]; exact cutS_lo (k + 1)
  have e3 : (⟨#[c]⟩ : Str).length = 1 := rfl
  have e4 : (cutS n none (some (k : Int)) ++ (⟨#[c]⟩ : Str)).length = min k n.length + 1 := by rw [len_app, e1, e3]
  have e5 : (cutS n none (some (k : Int)) ++ (⟨#[c]⟩ : Str) ++ cutS n (some ((k : Int) + 1)) none).length = min k n.length + 1 + (n.length - (k + 1)) := by rw [len_app, e4, e2]
  exact ⟨⟨by omega, by omega, low_app (low_app (cutS_low _ _ hl) (low_one hc)) (cutS_low _ _ hl)⟩, by omega, by omega⟩
theorem nn_2 (A : Ad) {QR QO : D → List D → Prop} {x y : D} {bag : D} {used : List Str} {w : Str} (hb : isBag bag) (hw : wd w) (h6 : w.length ≤ 6) (hl : used.length ≤ 2) (hu : ∀ s ∈ used, wd s) (h : ∀ w bag', wd w → isBag bag' → QR (.str w) [bag', uD (used ++ [w])]) :
    b__law_new_name_t2 A (endE [.par, .par] [x, y] QR QO) [.par bag, .par (uD used), .shr (.str abc), .shr (.str w), .emp, .emp, .emp, .emp, .emp, .emp] := by
  have step : ∀ (used : List Str) (bag : D), isBag bag → used ≠ [] → used.length ≤ 2 → (∀ s ∈ used, wd s) → (∀ w bag', wd w → isBag bag' → QR (.str w) [bag', uD (used ++ [w])]) →
      (sSeq (sAsg (eSl (eOp oIdx (eVar 1) (eCall [.par, .shr] (sp__law_pick A) (aCons (eVar 0) (aCons (eCB cLen (aCons (eVar 1) aNil)) aNil)))) pNo (pSo (eC (.int 6)))) (gN 4)) (b__law_new_name_c1t1 A)) { endE [.par, .par] [x, y] QR QO with nx := b__law_new_name_t3 A (endE [.par, .par] [x, y] QR QO) } [.par bag, .par (uD used), .shr (.str abc), .shr (.str w), .emp, .emp, .emp, .emp, .emp, .emp] := by
    intro used bag hb hne hl hu h
    have hp := List.length_pos_iff.mpr hne
    have hm : (used.map D.str).length = used.length := List.length_map _
    refine ⟨rfl, _, _, rfl, hb, ⟨by rw [hm]; omega, by rw [hm]; omega⟩, fun r bag r0 r1 hb => ?_⟩
    rw [hm] at r1
    have hr : r.toNat < used.length := by omega
    have hu0 := hu _ (List.getElem_mem hr)
    refine wo_in (x := D.str used[r.toNat]) (atI_int r0 (by rw [List.getElem?_map, List.getElem?_eq_getElem hr]; rfl)) ⟨Nat.le_trans hu0.l2 (by decide), rfl, ?_⟩
    generalize used[r.toNat] = u at hu0
    have hn : (cutS u none (some 6)).length = min 6 u.length := cutS_hi 6
    have hlw := cutS_low none (some 6) hu0.lw
    have hl1 := hu0.l1
    generalize cutS u none (some 6) = n at hn hlw
    show b__law_new_name_c1t1 A _ [.par bag, .par (uD used), .shr (.str abc), .shr (.str w), .shr (.str n), .emp, .emp, .emp, .emp, .emp]
    have hns : n.length ≤ sizeLine := by rw [sizeLine_eq]; omega
    refine ⟨hns, rfl, _, _, rfl, hb, ⟨by omega, by omega⟩, fun r bag r0 r1 hb => ⟨rfl, ?_⟩⟩
    show b__law_new_name_c1t2 A _ [.par bag, .par (uD used), .shr (.str abc), .shr (.str w), .shr (.str n), .shr (.int r), .emp, .emp, .emp, .emp]
    refine ⟨hns, rfl, _, _, rfl, hb, ⟨by decide, by decide⟩, fun r' bag r0' r1' hb => ⟨by rw [abc_len]; decide, ?_⟩⟩
    obtain ⟨c, ec, hc⟩ := abc_get r0' r1'
    obtain ⟨g1, g2, g3⟩ := nn_near hlw (by omega) r0 r1 hc
    exact wo_in ec ⟨by show _ + 1 ≤ _; rw [sizeLine_eq]; omega, hns, by rw [sizeLine_eq]; omega, rfl, nn_3 A hb g1 hl hu h⟩
  cases used with
  | nil => exact nn_3 A hb hw hl hu h
  | cons u us =>
    refine ⟨rfl, _, _, rfl, hb, ⟨by decide, by decide⟩, fun r bag r0 r1 hb => ⟨rfl, rfl, ifs (fun z => ?_) fun z => nn_3 A hb hw hl hu h⟩⟩
    exact step (u :: us) bag hb (by simp) hl hu h
def letters (i : Nat) (acc : List D) : Prop := ∃ ss : List Str, acc = ss.map D.str ∧ ss.length = i ∧ ∀ s ∈ ss, one s
theorem t__law_new_name (A : Ad) : ∀ ds QR QO, sp__law_new_name A ds QR QO → ds.length = 2 → b__law_new_name A (endE [.par, .par] ds QR QO) (startE 8 [.par, .par] ds) := by
  rintro ds QR QO ⟨bag, used, rfl, hb, hl, hu, h⟩ _
  refine ⟨rfl, ?_⟩
  show b__law_new_name_t1 A _ [.par bag, .par (uD used), .shr (.str abc), .emp, .emp, .emp, .emp, .emp, .emp, .emp]
  refine ⟨rfl, rfl, _, _, rfl, hb, ⟨by decide, by decide⟩, fun m bag m0 m1 hb => ⟨⟨by omega, by omega⟩, ?_⟩⟩
  refine lc_inv (fun i acc ρ => ∃ bag, isBag bag ∧ letters i acc ∧ ρ = [.par bag, .par (uD used), .shr (.str abc), .emp, .emp, .emp, .emp, .emp, .emp, .emp]) _ ?_ ?_ ⟨bag, hb, ⟨[], rfl, rfl, fun s h => by simp at h⟩, rfl⟩
  · rintro i d acc ρ N hd ⟨bag, hb, ⟨ss, rfl, hi, hs⟩, rfl⟩ hN
    obtain ⟨hr, rfl⟩ := rngD_get hd
    refine ⟨rfl, rfl, rfl, _, _, rfl, hb, ⟨by decide, by decide⟩, fun r bag r0 r1 hb => ⟨by rw [abc_len]; decide, ?_⟩⟩
    obtain ⟨c, ec, hc⟩ := abc_get r0 r1
    refine wo_in ec ⟨by rw [List.length_map, hi, sizeLine_eq]; omega, hN _ _ ⟨bag, hb, ⟨ss ++ [⟨#[c]⟩], by simp, by simp [hi], fun s h => ?_⟩, rfl⟩⟩
    rcases List.mem_append.mp h with z | z
    · exact hs s z
    · have : s = ⟨#[c]⟩ := by simpa using z
      subst this
      exact ⟨rfl, low_one hc⟩
  · rintro acc ρ ⟨bag, hb, ⟨ss, rfl, hi, hs⟩, rfl⟩
    rw [rngD_len] at hi
    obtain ⟨j1, j2⟩ := join_one hs
    have sm : ∀ ss : List Str, (∀ s ∈ ss, one s) → (ss.map (·.length)).sum = ss.length := by
      intro ss
      induction ss with
      | nil => intro _; rfl
      | cons s ss ih =>
        intro h
        rw [List.map_cons, List.sum_cons, ih fun x hx => h x (List.mem_cons_of_mem _ hx), (h s (List.mem_cons_self ..)).1, List.length_cons]
        omega
    refine ⟨trivial, wo_in (strsOf_map ss) ⟨?_, rfl, ?_⟩⟩
    · rw [sm ss hs]
      show ss.length + ss.length * 0 ≤ _
      omega
    · exact nn_2 A hb ⟨by rw [j1]; omega, by rw [j1]; omega, j2⟩ (by rw [j1]; omega) hl hu h
end K00
end L3

set_option Elab.async false
set_option linter.all false
set_option maxRecDepth 100000
set_option autoImplicit false
set_option maxHeartbeats 0
namespace L3
namespace K00
open PySem PySem.Spec L2
open PyProof.Rows (b2i)
/-! ### looks -/
def plc (c : Nat) : Bool := (97 ≤ c && c ≤ 122) || c == 32 || c == 45 || (48 ≤ c && c ≤ 57)
structure lb (s : Str) : Prop where
  l1 : 1 ≤ s.length
  l2 : s.length ≤ 20
  pl : s.cps.toList.all plc = true
theorem lb.ok {s : Str} (h : lb s) : PyData.strOk s = true := by
  unfold PyData.strOk
  rw [← Array.all_toList, List.all_eq_true]
  intro c hc
  have := List.all_eq_true.mp h.pl c hc
  simp only [plc, Bool.or_eq_true, Bool.and_eq_true, decide_eq_true_eq, beq_iff_eq] at this
  simp only [decide_eq_true_eq]; omega
theorem lb.shp {s : Str} (h : lb s) : (D.str s).shp = true := shp_str h.ok
inductive T where
  | nd (l : Str) (ts : List T)
mutual
def T.d : T → D
  | .nd l ts => .tup [.str l, .tup (T.ds ts)]
def T.ds : List T → List D
  | [] => []
  | t :: ts => t.d :: T.ds ts
end
mutual
def T.labs : T → List Str
  | .nd l ts => l :: T.labsL ts
def T.labsL : List T → List Str
  | [] => []
  | t :: ts => t.labs ++ T.labsL ts
end
def T.ok : Nat → T → Prop
  | 0, _ => False
  | n + 1, .nd l ts => lb l ∧ ts.length ≤ 4 ∧ ∀ t ∈ ts, T.ok n t
theorem T.ds_map : ∀ ts : List T, T.ds ts = ts.map T.d
  | [] => rfl
  | t :: ts => by rw [T.ds, T.ds_map ts, List.map_cons]
theorem labsL_app : ∀ a b : List T, T.labsL (a ++ b) = T.labsL a ++ T.labsL b
  | [], b => rfl
  | t :: a, b => by rw [List.cons_append, T.labsL, labsL_app a b, T.labsL, List.append_assoc]
theorem labsL_len {m : Nat} : ∀ {ts : List T}, (∀ t ∈ ts, t.labs.length ≤ m) → (T.labsL ts).length ≤ ts.length * m
  | [], _ => by simp [T.labsL]
  | t :: ts, h => by
    have h1 := h t (List.mem_cons_self ..)
    have h2 := labsL_len (ts := ts) fun x hx => h x (List.mem_cons_of_mem _ hx)
    rw [T.labsL, List.length_append, List.length_cons, Nat.add_mul, Nat.one_mul]
    omega
theorem labs_len : ∀ (n : Nat) (t : T), t.ok n → n ≤ 5 → t.labs.length ≤ 5 ^ n
  | 0, _, h, _ => h.elim
  | n + 1, .nd l ts, h, hn => by
    obtain ⟨_, h2, h3⟩ := h
    have := labsL_len fun t ht => labs_len n t (h3 t ht) (by omega)
    have e : 5 ^ (n + 1) = 5 * 5 ^ n := by rw [Nat.pow_succ, Nat.mul_comm]
    have p : 1 ≤ 5 ^ n := Nat.pos_of_ne_zero (by simp)
    have q : ts.length * 5 ^ n ≤ 4 * 5 ^ n := Nat.mul_le_mul_right _ h2
    rw [T.labs, List.length_cons, e]
    omega
theorem labs_lb : ∀ (n : Nat) (t : T), t.ok n → ∀ s ∈ t.labs, lb s
  | 0, _, h => h.elim
  | n + 1, .nd l ts, h => by
    obtain ⟨h1, _, h3⟩ := h
    have go : ∀ ts : List T, (∀ t ∈ ts, t.ok n) → ∀ s ∈ T.labsL ts, lb s := by
      intro ts
      induction ts with
      | nil => intro _ s hs; simp [T.labsL] at hs
      | cons t ts ih =>
        intro h s hs
        rw [T.labsL] at hs
        rcases List.mem_append.mp hs with z | z
        · exact labs_lb n t (h t (List.mem_cons_self ..)) s z
        · exact ih (fun x hx => h x (List.mem_cons_of_mem _ hx)) s z
    intro s hs
    rw [T.labs] at hs
    rcases List.mem_cons.mp hs with rfl | z
    · exact h1
    · exact go ts h3 s z
structure Lk where
  top : T
  fo : Option Int
  rows : List (Str × Int)
  wait : List (Str × Int)
def rw' (p : Str × Int) : D := .tup [.tup [], .str p.1, .int p.2]
def foD : Option Int → D
  | none => .non
  | some i => .int i
def Lk.d (k : Lk) : D := .tup [k.top.d, foD k.fo, .tup (k.rows.map rw'), .tup (k.wait.map rw')]
structure Lk.ok (k : Lk) : Prop where
  top : k.top.ok 4
  rl : k.rows.length ≤ 3
  rw : ∀ p ∈ k.rows, wd p.1
  wl : k.wait.length ≤ 3
/-! ### drawing them -/
def lbs (ls : List Str) : Prop := (ls ≠ [] ∧ ls.length ≤ 5) ∧ ∀ s ∈ ls, lb s
def wds (ws : List Str) : Prop := (ws ≠ [] ∧ ws.length ≤ 5) ∧ ∀ s ∈ ws, wd s
theorem mem_uD {x : D} {l : List Str} (h : x ∈ l.map D.str) : ∃ s ∈ l, x = .str s := by
  obtain ⟨s, h1, h2⟩ := List.mem_map.mp h
  exact ⟨s, h1, h2.symm⟩
theorem chs {l : List Str} (h : l ≠ [] ∧ l.length ≤ 5) : l.map D.str ≠ [] ∧ (l.map D.str).length < 1073741824 := ⟨by simpa using h.1, by rw [List.length_map]; omega⟩
def sp__law_drawn_node' (n : Nat) : S3 := fun ds QR _ => ∃ (bag : D) (ls : List Str) (lv : Nat), ds = [bag, uD ls, .int lv] ∧ isBag bag ∧ lbs ls ∧ (1 ≤ lv ∧ lv ≤ n) ∧ ∀ (t : T) bag', t.ok lv → isBag bag' → QR t.d [bag', uD ls, .int lv]
def sp__law_drawn_node (A : Ad) : S3 := sp__law_drawn_node' 4
theorem z__law_drawn_node : ∀ ds QR QO, ¬ sp__law_drawn_node' 0 ds QR QO := by
  rintro ds QR QO ⟨bag, ls, lv, _, _, _, ⟨h1, h2⟩, _⟩
  omega
def b__law_drawn_node_t1 (A : Ad) (me : S3) : T3S := (sRet (eTup (aCons (eCall [.par, .shr] (sp__law_choice A) (aCons (eVar 0) (aCons (eVar 1) aNil))) (aCons (eCB cTuple (aCons (eShr (oLc (iR1 (aCons (eVar 3) aNil)) (gN 4) fYes (eCall [.par, .shr, .shr] me (aCons (eVar 0) (aCons (eVar 1) (aCons (eOp (oI0 fun i j => .int (i - j)) (eVar 2) (eC (.int 1))) aNil)))) [4])) aNil)) aNil))))
def b__law_drawn_node (A : Ad) (me : S3) : T3S := (sSeq (sAsg (eIf (fTst (eOp oGt (eVar 2) (eC (.int 1)))) (eCall [.par, .shr] (sp__law_pick A) (aCons (eVar 0) (aCons (eC (.int 3)) aNil))) (eC (.int 0))) (gN 3))
 (b__law_drawn_node_t1 A me))
theorem t__law_drawn_node (A : Ad) (n : Nat) : ∀ ds QR QO, sp__law_drawn_node' (n + 1) ds QR QO → ds.length = 3 → b__law_drawn_node A (sp__law_drawn_node' n) (endE [.par, .shr, .shr] ds QR QO) (startE 2 [.par, .shr, .shr] ds) := by
  rintro ds QR QO ⟨bag0, ls, lv, rfl, hb, ⟨h1, h2⟩, ⟨hl1, hl2⟩, h⟩ _
  have body : ∀ (m : Int) (bag : D), isBag bag → 0 ≤ m → m ≤ 4 → (m = 0 ∨ 2 ≤ lv) → b__law_drawn_node_t1 A (sp__law_drawn_node' n) (endE [.par, .shr, .shr] [bag0, uD ls, .int lv] QR QO) [.par bag, .shr (uD ls), .shr (.int lv), .shr (.int m), .emp] := by
    intro m bag hb m0 m1 hm
    refine ⟨rfl, _, _, rfl, hb, chs h1, fun x bag hx hb => ⟨⟨by omega, by omega⟩, ?_⟩⟩
    obtain ⟨s, hs, rfl⟩ := mem_uD hx
    refine lc_inv (fun i acc ρ => ∃ bag ts, isBag bag ∧ acc = T.ds ts ∧ ts.length = i ∧ (∀ t ∈ ts, t.ok (lv - 1)) ∧ ρ = [.par bag, .shr (uD ls), .shr (.int lv), .shr (.int m), .emp]) _ ?_ ?_ ⟨bag, [], hb, rfl, rfl, fun t h => by simp at h, rfl⟩
    · rintro i d acc ρ N hd ⟨bag, ts, hb, rfl, hi, ht, rfl⟩ hN
      obtain ⟨hr, rfl⟩ := rngD_get hd
      have e : ((lv : Int) - 1) = ((lv - 1 : Nat) : Int) := by omega
      refine ⟨rfl, rfl, rfl, bag, ls, lv - 1, by rw [← e], hb, ⟨h1, h2⟩, ⟨by omega, by omega⟩, fun t bag' hok hb' => ?_⟩
      refine ⟨by rw [T.ds_map, List.length_map, hi, sizeLine_eq]; omega, hN _ _ ⟨bag', ts ++ [t], hb', by rw [T.ds_map, T.ds_map]; simp, by simp [hi], fun x hx => ?_, rfl⟩⟩
      rcases List.mem_append.mp hx with z | z
      · exact ht x z
      · have : x = t := by simpa using z
        subst this; exact hok
    · rintro acc ρ ⟨bag, ts, hb, rfl, hi, ht, rfl⟩
      rw [rngD_len] at hi
      refine ⟨trivial, sz 2 rfl, ?_⟩
      have hok : (T.nd s ts).ok lv := by
        obtain ⟨k, rfl⟩ : ∃ k, lv = k + 1 := ⟨lv - 1, by omega⟩
        exact ⟨h2 s hs, by omega, ht⟩
      have := h (.nd s ts) bag hok hb
      exact this
  show if decide ((lv : Int) > 1) = true then _ else _
  refine ifs (fun z => ?_) fun z => ?_
  · have z : (lv : Int) > 1 := of_decide_eq_true z
    refine ⟨rfl, _, _, rfl, hb, ⟨by decide, by decide⟩, fun m bag m0 m1 hb => ⟨rfl, ?_⟩⟩
    show b__law_drawn_node_t1 A _ _ [.par bag, .shr (uD ls), .shr (.int lv), .shr (.int m), .emp]
    exact body m bag hb m0 (by omega) (.inr (by omega))
  · exact ⟨rfl, body 0 bag0 hb (by omega) (by omega) (.inl rfl)⟩
def sp__law_drawn_look (A : Ad) : S3 := fun ds QR _ => ∃ (bag : D) (ls ws : List Str), ds = [bag, uD ls, uD ws] ∧ isBag bag ∧ lbs ls ∧ wds ws ∧ ∀ (k : Lk) bag', k.ok → isBag bag' → QR k.d [bag', uD ls, uD ws]
def b__law_drawn_look_t3 (A : Ad) : T3S := (sRet (eTup (aCons (eVar 5) (aCons (eIf (fTst (eOp (oEq false) (eCall [.par, .shr] (sp__law_pick A) (aCons (eVar 0) (aCons (eC (.int 2)) aNil))) (eC (.int 0)))) (eC .non) (eCall [.par, .shr] (sp__law_pick A) (aCons (eVar 0) (aCons (eC (.int 5)) aNil)))) (aCons (eCB cTuple (aCons (eVar 3) aNil)) (aCons (eCB cTuple (aCons (eVar 4) aNil)) aNil))))))
def b__law_drawn_look_t2 (A : Ad) : T3S := (sSeq (sAsg (eTup (aCons (eCall [.par, .shr] (sp__law_choice A) (aCons (eVar 0) (aCons (eVar 1) aNil))) (aCons (eCB cTuple (aCons (eShr (oLc (iR1 (aCons (eCall [.par, .shr] (sp__law_pick A) (aCons (eVar 0) (aCons (eC (.int 5)) aNil))) aNil)) (gN 6) fYes (eCall [.par, .shr, .shr] (sp__law_drawn_node A) (aCons (eVar 0) (aCons (eVar 1) (aCons (eC (.int 3)) aNil)))) [6])) aNil)) aNil))) (gN 5))
 (b__law_drawn_look_t3 A))
def b__law_drawn_look_t1 (A : Ad) : T3S := (sSeq (sAsg (eShr (oLc (iR1 (aCons (eCall [.par, .shr] (sp__law_pick A) (aCons (eVar 0) (aCons (eC (.int 4)) aNil))) aNil)) (gN 6) fYes (eTup (aCons (eTup aNil) (aCons (eCall [.par, .shr] (sp__law_choice A) (aCons (eVar 0) (aCons (eVar 2) aNil))) (aCons (eCall [.par, .shr] (sp__law_pick A) (aCons (eVar 0) (aCons (eC (.int 4)) aNil))) aNil)))) [6])) (gN 4))
 (b__law_drawn_look_t2 A))
def b__law_drawn_look (A : Ad) : T3S := (sSeq (sAsg (eShr (oLc (iR1 (aCons (eCall [.par, .shr] (sp__law_pick A) (aCons (eVar 0) (aCons (eC (.int 4)) aNil))) aNil)) (gN 6) fYes (eTup (aCons (eTup aNil) (aCons (eCall [.par, .shr] (sp__law_choice A) (aCons (eVar 0) (aCons (eVar 2) aNil))) (aCons (eCall [.par, .shr] (sp__law_pick A) (aCons (eVar 0) (aCons (eC (.int 10)) aNil))) aNil)))) [6])) (gN 3))
 (b__law_drawn_look_t1 A))
theorem t__law_drawn_look (A : Ad) : ∀ ds QR QO, sp__law_drawn_look A ds QR QO → ds.length = 3 → b__law_drawn_look A (endE [.par, .shr, .shr] ds QR QO) (startE 4 [.par, .shr, .shr] ds) := by
  rintro ds QR QO ⟨bag, ls, ws, rfl, hb, ⟨h1, h2⟩, ⟨w1, w2⟩, h⟩ _
  refine ⟨rfl, _, _, rfl, hb, ⟨by decide, by decide⟩, fun m bag m0 m1 hb => ⟨⟨by omega, by omega⟩, ?_⟩⟩
  have rows : ∀ (hi : Int) (m : Int) (s3 : Sl) (bag : D) (Q : List D → En → Prop), isBag bag → 0 ≤ m → m ≤ 3 → 0 < hi → hi ≤ 10 → (∀ (rs : List (Str × Int)) (bag : D), isBag bag → rs.length ≤ 3 → (∀ p ∈ rs, wd p.1) → Q (rs.map rw') [.par bag, .shr (uD ls), .shr (uD ws), s3, .emp, .emp, .emp]) →
      lcL (gN 6) fYes (eTup (aCons (eTup aNil) (aCons (eCall [.par, .shr] (sp__law_choice A) (aCons (eVar 0) (aCons (eVar 2) aNil))) (aCons (eCall [.par, .shr] (sp__law_pick A) (aCons (eVar 0) (aCons (eC (.int hi)) aNil))) aNil)))) [6] Q (rngD 0 1 m.toNat) [] [.par bag, .shr (uD ls), .shr (uD ws), s3, .emp, .emp, .emp] := by
    intro hi m s3 bag Q hb m0 m1 k0 k1 hQ
    refine lc_inv (fun i acc ρ => ∃ (bag : D) (rs : List (Str × Int)), isBag bag ∧ acc = rs.map rw' ∧ rs.length = i ∧ (∀ p ∈ rs, wd p.1) ∧ ρ = [.par bag, .shr (uD ls), .shr (uD ws), s3, .emp, .emp, .emp]) _ ?_ ?_ ⟨bag, [], hb, rfl, rfl, fun t h => by simp at h, rfl⟩
    · rintro i d acc ρ N hd ⟨bag, rs, hb, rfl, hi, ht, rfl⟩ hN
      obtain ⟨hr, rfl⟩ := rngD_get hd
      refine ⟨rfl, rfl, sz 0 rfl, rfl, _, _, rfl, hb, chs w1, fun x bag hx hb => ?_⟩
      obtain ⟨s, hs, rfl⟩ := mem_uD hx
      refine ⟨rfl, _, _, rfl, hb, ⟨k0, by omega⟩, fun r bag r0 r1 hb => ⟨sz 3 rfl, ?_⟩⟩
      refine ⟨by rw [List.length_map, hi, sizeLine_eq]; omega, hN _ _ ⟨bag, rs ++ [(s, r)], hb, by rw [List.map_append]; rfl, by simp [hi], fun x hx => ?_, rfl⟩⟩
      rcases List.mem_append.mp hx with z | z
      · exact ht x z
      · have : x = (s, r) := by simpa using z
        subst this; exact w2 s hs
    · rintro acc ρ ⟨bag, rs, hb, rfl, hi, ht, rfl⟩
      rw [rngD_len] at hi
      exact hQ rs bag hb (by omega) ht
  refine rows 10 m .emp bag _ hb m0 (by omega) (by decide) (by decide) fun rs bag hb hl1 hr1 => ⟨trivial, rfl, ?_⟩
  show b__law_drawn_look_t1 A _ [.par bag, .shr (uD ls), .shr (uD ws), .shr (.lst (rs.map rw')), .emp, .emp, .emp]
  refine ⟨rfl, _, _, rfl, hb, ⟨by decide, by decide⟩, fun m bag m0 m1 hb => ⟨⟨by omega, by omega⟩, ?_⟩⟩
  refine rows 4 m _ bag _ hb m0 (by omega) (by decide) (by decide) fun vs bag hb hl2 hr2 => ⟨trivial, rfl, ?_⟩
  show b__law_drawn_look_t2 A _ [.par bag, .shr (uD ls), .shr (uD ws), .shr (.lst (rs.map rw')), .shr (.lst (vs.map rw')), .emp, .emp]
  refine ⟨rfl, _, _, rfl, hb, chs h1, fun x bag hx hb => ⟨rfl, _, _, rfl, hb, ⟨by decide, by decide⟩, fun m bag m0 m1 hb => ⟨⟨by omega, by omega⟩, ?_⟩⟩⟩
  obtain ⟨s, hs, rfl⟩ := mem_uD hx
  refine lc_inv (fun i acc ρ => ∃ bag ts, isBag bag ∧ acc = T.ds ts ∧ ts.length = i ∧ (∀ t ∈ ts, T.ok 3 t) ∧ ρ = [.par bag, .shr (uD ls), .shr (uD ws), .shr (.lst (rs.map rw')), .shr (.lst (vs.map rw')), .emp, .emp]) _ ?_ ?_ ⟨bag, [], hb, rfl, rfl, fun t h => by simp at h, rfl⟩
  · rintro i d acc ρ N hd ⟨bag, ts, hb, rfl, hi, ht, rfl⟩ hN
    obtain ⟨hr, rfl⟩ := rngD_get hd
    refine ⟨rfl, rfl, rfl, bag, ls, 3, rfl, hb, ⟨h1, h2⟩, ⟨by omega, by omega⟩, fun t bag' hok hb' => ?_⟩
    refine ⟨by rw [T.ds_map, List.length_map, hi, sizeLine_eq]; omega, hN _ _ ⟨bag', ts ++ [t], hb', by rw [T.ds_map, T.ds_map]; simp, by simp [hi], fun x hx => ?_, rfl⟩⟩
    rcases List.mem_append.mp hx with z | z
    · exact ht x z
    · have : x = t := by simpa using z
      subst this; exact hok
  · rintro acc ρ ⟨bag, ts, hb, rfl, hi, ht, rfl⟩
    rw [rngD_len] at hi
    refine ⟨trivial, sz 2 rfl, rfl, ?_⟩
    show b__law_drawn_look_t3 A _ [.par bag, .shr (uD ls), .shr (uD ws), .shr (.lst (rs.map rw')), .shr (.lst (vs.map rw')), .shr (T.nd s ts).d, .emp]
    have top : T.ok 4 (.nd s ts) := ⟨h2 s hs, by omega, ht⟩
    refine ⟨rfl, _, _, rfl, hb, ⟨by decide, by decide⟩, fun r bag r0 r1 hb => ⟨rfl, rfl, ifs (fun z => ?_) fun z => ?_⟩⟩
    · exact ⟨sz 4 rfl, h ⟨.nd s ts, none, rs, vs⟩ bag ⟨top, hl1, hr1, hl2⟩ hb⟩
    · exact ⟨rfl, _, _, rfl, hb, ⟨by decide, by decide⟩, fun f bag f0 f1 hb => ⟨sz 4 rfl, h ⟨.nd s ts, some f, rs, vs⟩ bag ⟨top, hl1, hr1, hl2⟩ hb⟩⟩
end K00
end L3

set_option Elab.async false
set_option linter.all false
set_option maxRecDepth 100000
set_option autoImplicit false
set_option maxHeartbeats 0
namespace L3
namespace K00
open PySem PySem.Spec L2
open PyProof.Rows (b2i)
/-! ### labels of a shown form -/
def sp_labels_in' (n : Nat) : S3 := fun ds QR _ => ∃ (t : T) (k : Nat), ds = [t.d] ∧ t.ok k ∧ k ≤ n ∧ k ≤ 4 ∧ QR (uD t.labs) ds
def sp_labels_in (A : Ad) : S3 := sp_labels_in' 4
def sp__law_labels' : Nat → S3 := sp_labels_in'
def sp__law_labels (A : Ad) : S3 := sp_labels_in' 4
theorem z_labels_in : ∀ ds QR QO, ¬ sp_labels_in' 0 ds QR QO := by
  rintro ds QR QO ⟨t, k, _, h, h2, _⟩
  have : k = 0 := by omega
  subst this; exact h
theorem z__law_labels : ∀ ds QR QO, ¬ sp__law_labels' 0 ds QR QO := z_labels_in
def b_labels_in_l1 (A : Ad) (me : S3) : T3S := (sDrop (eBM "list" mExtend (eVar 1) (aCons (eCall [.shr] me (aCons (eVar 2) aNil)) aNil)))
def b_labels_in_t2 (A : Ad) (me : S3) : T3S := (sFrz 1 (sRet (eVar 1)))
def b_labels_in_t1 (A : Ad) (me : S3) : T3S := (sSeq (sFor (iS (eOp oIdx (eVar 0) (eC (.int 1)))) (gN 2)
 (b_labels_in_l1 A me))
 (b_labels_in_t2 A me))
def b_labels_in (A : Ad) (me : S3) : T3S := (sSeq (sAsgO (oLst (aCons (eOp oIdx (eVar 0) (eC (.int 0))) aNil)) 1)
 (b_labels_in_t1 A me))
def b__law_labels_l1 (A : Ad) (me : S3) : T3S := (sDrop (eBM "list" mExtend (eVar 1) (aCons (eCall [.shr] me (aCons (eVar 2) aNil)) aNil)))
def b__law_labels_t2 (A : Ad) (me : S3) : T3S := (sFrz 1 (sRet (eVar 1)))
def b__law_labels_t1 (A : Ad) (me : S3) : T3S := (sSeq (sFor (iS (eOp oIdx (eVar 0) (eC (.int 1)))) (gN 2)
 (b__law_labels_l1 A me))
 (b__law_labels_t2 A me))
def b__law_labels (A : Ad) (me : S3) : T3S := (sSeq (sAsgO (oLst (aCons (eOp oIdx (eVar 0) (eC (.int 0))) aNil)) 1)
 (b__law_labels_t1 A me))
theorem t_labels_in (A : Ad) (n : Nat) : ∀ ds QR QO, sp_labels_in' (n + 1) ds QR QO → ds.length = 1 → b_labels_in A (sp_labels_in' n) (endE [.shr] ds QR QO) (startE 2 [.shr] ds) := by
  rintro ds QR QO ⟨t, k, rfl, hk, h1, h2, h⟩ _
  obtain ⟨k, rfl⟩ : ∃ j, k = j + 1 := by
    cases k with
    | zero => exact hk.elim
    | succ j => exact ⟨j, rfl⟩
  cases t with
  | nd l ts =>
    obtain ⟨g1, g2, g3⟩ := hk
    refine ⟨sz 1 rfl, rfl, ?_⟩
    show b_labels_in_t1 A _ _ [.shr (T.nd l ts).d, .own (.lst [.str l]), .emp]
    refine for_inv (fun i ρ => ∃ s2, s2.locked = false ∧ i ≤ ts.length ∧ ρ = [.shr (T.nd l ts).d, .own (.lst ((l :: T.labsL (ts.take i)).map D.str)), s2]) _ ?_ ?_ ⟨.emp, rfl, Nat.zero_le _, rfl⟩
    · rintro i d ρ N hd ⟨s2, hl, hi, rfl⟩ hN
      have hd : (T.ds ts)[i]? = some d := hd
      rw [T.ds_map, List.getElem?_map] at hd
      obtain ⟨t, ht, rfl⟩ := Option.map_eq_some_iff.mp hd
      have hm := List.mem_of_getElem? ht
      have hlt := (List.getElem?_eq_some_iff.mp ht).1
      refine ⟨unF hl, ?_⟩
      show b_labels_in_l1 A _ _ [.shr (T.nd l ts).d, .own (.lst ((l :: T.labsL (ts.take i)).map D.str)), .shr t.d]
      refine ⟨rfl, rfl, t, k, rfl, g3 t hm, by omega, by omega, ?_⟩
      have b1 := labs_len k t (g3 t hm) (by omega)
      have b2 := labsL_len (ts := ts.take i) fun x hx => labs_len k x (g3 x (List.mem_of_mem_take hx)) (by omega)
      have b3 : (ts.take i).length ≤ 4 := Nat.le_trans (List.length_take_le' i ts) g2
      have b4 : 5 ^ k ≤ 125 := Nat.pow_le_pow_right (by decide) (by omega : k ≤ 3)
      have b5 : (ts.take i).length * 5 ^ k ≤ 4 * 125 := Nat.mul_le_mul b3 b4
      refine ⟨?_, ?_⟩
      · rw [List.length_map, List.length_map, List.length_cons, sizeLine_eq]; omega
      · refine hN _ ⟨.shr t.d, rfl, by omega, ?_⟩
        have e : T.labsL (ts.take (i + 1)) = T.labsL (ts.take i) ++ t.labs := by
          rw [List.take_add_one, ht, labsL_app]
          simp [T.labsL]
        have e2 : (l :: (T.labsL (ts.take i) ++ t.labs)).map D.str = (l :: T.labsL (ts.take i)).map D.str ++ t.labs.map D.str := by simp
        rw [e, e2]
        rfl
    · rintro ρ ⟨s2, hl, hi, rfl⟩
      have e : (T.ds ts).length = ts.length := by rw [T.ds_map, List.length_map]
      have key : ∀ m, m = ts.length → b_labels_in_t2 A (sp_labels_in' n) (endE [.shr] [(T.nd l ts).d] QR QO) [.shr (T.nd l ts).d, .own (.lst ((l :: T.labsL (ts.take m)).map D.str)), s2] := by
        rintro m rfl
        rw [List.take_length]
        exact h
      exact ⟨trivial, key _ e⟩
theorem t__law_labels (A : Ad) (n : Nat) : ∀ ds QR QO, sp__law_labels' (n + 1) ds QR QO → ds.length = 1 → b__law_labels A (sp__law_labels' n) (endE [.shr] ds QR QO) (startE 2 [.shr] ds) := by
  rintro ds QR QO ⟨t, k, rfl, hk, h1, h2, h⟩ _
  obtain ⟨k, rfl⟩ : ∃ j, k = j + 1 := by
    cases k with
    | zero => exact hk.elim
    | succ j => exact ⟨j, rfl⟩
  cases t with
  | nd l ts =>
    obtain ⟨g1, g2, g3⟩ := hk
    refine ⟨sz 1 rfl, rfl, ?_⟩
    show b__law_labels_t1 A _ _ [.shr (T.nd l ts).d, .own (.lst [.str l]), .emp]
    refine for_inv (fun i ρ => ∃ s2, s2.locked = false ∧ i ≤ ts.length ∧ ρ = [.shr (T.nd l ts).d, .own (.lst ((l :: T.labsL (ts.take i)).map D.str)), s2]) _ ?_ ?_ ⟨.emp, rfl, Nat.zero_le _, rfl⟩
    · rintro i d ρ N hd ⟨s2, hl, hi, rfl⟩ hN
      have hd : (T.ds ts)[i]? = some d := hd
      rw [T.ds_map, List.getElem?_map] at hd
      obtain ⟨t, ht, rfl⟩ := Option.map_eq_some_iff.mp hd
      have hm := List.mem_of_getElem? ht
      have hlt := (List.getElem?_eq_some_iff.mp ht).1
      refine ⟨unF hl, ?_⟩
      show b__law_labels_l1 A _ _ [.shr (T.nd l ts).d, .own (.lst ((l :: T.labsL (ts.take i)).map D.str)), .shr t.d]
      refine ⟨rfl, rfl, t, k, rfl, g3 t hm, by omega, by omega, ?_⟩
      have b1 := labs_len k t (g3 t hm) (by omega)
      have b2 := labsL_len (ts := ts.take i) fun x hx => labs_len k x (g3 x (List.mem_of_mem_take hx)) (by omega)
      have b3 : (ts.take i).length ≤ 4 := Nat.le_trans (List.length_take_le' i ts) g2
      have b4 : 5 ^ k ≤ 125 := Nat.pow_le_pow_right (by decide) (by omega : k ≤ 3)
      have b5 : (ts.take i).length * 5 ^ k ≤ 4 * 125 := Nat.mul_le_mul b3 b4
      refine ⟨?_, ?_⟩
      · rw [List.length_map, List.length_map, List.length_cons, sizeLine_eq]; omega
      · refine hN _ ⟨.shr t.d, rfl, by omega, ?_⟩
        have e : T.labsL (ts.take (i + 1)) = T.labsL (ts.take i) ++ t.labs := by
          rw [List.take_add_one, ht, labsL_app]
          simp [T.labsL]
        have e2 : (l :: (T.labsL (ts.take i) ++ t.labs)).map D.str = (l :: T.labsL (ts.take i)).map D.str ++ t.labs.map D.str := by simp
        rw [e, e2]
        rfl
    · rintro ρ ⟨s2, hl, hi, rfl⟩
      have e : (T.ds ts).length = ts.length := by rw [T.ds_map, List.length_map]
      have key : ∀ m, m = ts.length → b__law_labels_t2 A (sp__law_labels' n) (endE [.shr] [(T.nd l ts).d] QR QO) [.shr (T.nd l ts).d, .own (.lst ((l :: T.labsL (ts.take m)).map D.str)), s2] := by
        rintro m rfl
        rw [List.take_length]
        exact h
      exact ⟨trivial, key _ e⟩
end K00
end L3

set_option Elab.async false
set_option linter.all false
set_option maxRecDepth 100000
set_option autoImplicit false
set_option maxHeartbeats 0
namespace L3
namespace K00
open PySem PySem.Spec L2
open PyProof.Rows (b2i)
/-! ### claims -/
inductive Cl where
  | shown (l : Str) (n : Int) | armed (w : Str) | waits (n : Int) | foc | neg (a : Cl) | both (a b : Cl) | eith (a b : Cl) | odd (d : D)
def Cl.d : Cl → D
  | .shown l n => .tup [.str "shown", .str l, .int n]
  | .armed w => .tup [.str "armed", .str w]
  | .waits n => .tup [.str "waits", .int n]
  | .foc => .tup [.str "focused"]
  | .neg a => .tup [.str "not", a.d]
  | .both a b => .tup [.str "both", a.d, b.d]
  | .eith a b => .tup [.str "either", a.d, b.d]
  | .odd d => d
def Cl.good : Cl → Prop
  | .shown l n => lb l ∧ 1 ≤ n ∧ n ≤ 9
  | .armed w => wd w
  | .waits n => 1 ≤ n ∧ n ≤ 3
  | .foc => True
  | .neg a => a.good
  | .both a b => a.good ∧ b.good
  | .eith a b => a.good ∧ b.good
  | .odd _ => False
def Cl.dep : Cl → Nat
  | .neg a => a.dep + 1
  | .both a b => max a.dep b.dep + 1
  | .eith a b => max a.dep b.dep + 1
  | _ => 1
theorem Cl.dep_pos (c : Cl) : 0 < c.dep := by cases c <;> simp [Cl.dep]
def Cl.holds (k : Lk) : Cl → Bool
  | .shown l n => decide ((k.top.labs.count l : Int) ≥ n)
  | .armed w => decide (w ∈ k.rows.map (·.1))
  | .waits n => decide ((k.wait.length : Int) ≥ n)
  | .foc => k.fo.isSome
  | .neg a => !a.holds k
  | .both a b => a.holds k && b.holds k
  | .eith a b => a.holds k || b.holds k
  | .odd _ => false
theorem sShown : (D.str "shown").shp = true := by decide +kernel
theorem sArmed : (D.str "armed").shp = true := by decide +kernel
theorem sWaits : (D.str "waits").shp = true := by decide +kernel
theorem sFoc : (D.str "focused").shp = true := by decide +kernel
theorem sNot : (D.str "not").shp = true := by decide +kernel
theorem sBoth : (D.str "both").shp = true := by decide +kernel
theorem sEith : (D.str "either").shp = true := by decide +kernel
def sp_holds_of' (n : Nat) : S3 := fun ds QR _ => ∃ (c : Cl) (k : Lk), ds = [c.d, k.d] ∧ c.good ∧ k.ok ∧ c.dep ≤ n ∧ QR (.bl (c.holds k)) ds
def sp_holds_of (A : Ad) : S3 := sp_holds_of' 7
def sp__law_holds' : Nat → S3 := sp_holds_of'
def sp__law_holds (A : Ad) : S3 := sp_holds_of' 7
theorem z_holds_of : ∀ ds QR QO, ¬ sp_holds_of' 0 ds QR QO := by
  rintro ds QR QO ⟨c, k, _, _, _, h, _⟩
  have := c.dep_pos
  omega
theorem z__law_holds : ∀ ds QR QO, ¬ sp__law_holds' 0 ds QR QO := z_holds_of
def b_holds_of_t8 (A : Ad) (me : S3) : T3S := (sRet (eOr (eVar 3) (eCall [.shr, .shr] me (aCons (eOp oIdx (eVar 0) (eC (.int 2))) (aCons (eVar 1) aNil)))))
def b_holds_of_t7 (A : Ad) (me : S3) : T3S := (sSeq (sIf (fTst (eOp (oEq false) (eVar 2) (eC (.str "both"))))
 (sRet (eAnd (eVar 3) (eCall [.shr, .shr] me (aCons (eOp oIdx (eVar 0) (eC (.int 2))) (aCons (eVar 1) aNil)))))
 sNext)
 (b_holds_of_t8 A me))
def b_holds_of_t6 (A : Ad) (me : S3) : T3S := (sSeq (sIf (fTst (eOp (oEq false) (eVar 2) (eC (.str "not"))))
 (sRet (eNot (eVar 3)))
 sNext)
 (b_holds_of_t7 A me))
def b_holds_of_t5 (A : Ad) (me : S3) : T3S := (sSeq (sAsg (eCall [.shr, .shr] me (aCons (eOp oIdx (eVar 0) (eC (.int 1))) (aCons (eVar 1) aNil))) (gN 3))
 (b_holds_of_t6 A me))
def b_holds_of_t4 (A : Ad) (me : S3) : T3S := (sSeq (sIf (fTst (eOp (oEq false) (eVar 2) (eC (.str "focused"))))
 (sRet (eOp (oIsN true) (eOp oIdx (eVar 1) (eC (.int 1))) (eC .non)))
 sNext)
 (b_holds_of_t5 A me))
def b_holds_of_t3 (A : Ad) (me : S3) : T3S := (sSeq (sIf (fTst (eOp (oEq false) (eVar 2) (eC (.str "waits"))))
 (sRet (eOp oGe (eCB cLen (aCons (eOp oIdx (eVar 1) (eC (.int 3))) aNil)) (eOp oIdx (eVar 0) (eC (.int 1)))))
 sNext)
 (b_holds_of_t4 A me))
def b_holds_of_t2 (A : Ad) (me : S3) : T3S := (sSeq (sIf (fTst (eOp (oEq false) (eVar 2) (eC (.str "armed"))))
 (sRet (eOp (oIn false) (eOp oIdx (eVar 0) (eC (.int 1))) (eShr (oLc (iS (eOp oIdx (eVar 1) (eC (.int 2)))) (gN 4) fYes (eOp oIdx (eVar 4) (eC (.int 1))) [4]))))
 sNext)
 (b_holds_of_t3 A me))
def b_holds_of_t1 (A : Ad) (me : S3) : T3S := (sSeq (sIf (fTst (eOp (oEq false) (eVar 2) (eC (.str "shown"))))
 (sRet (eOp oGe (eBM "list" mCountS (eCall [.shr] (sp_labels_in A) (aCons (eOp oIdx (eVar 1) (eC (.int 0))) aNil)) (aCons (eOp oIdx (eVar 0) (eC (.int 1))) aNil)) (eOp oIdx (eVar 0) (eC (.int 2)))))
 sNext)
 (b_holds_of_t2 A me))
def b_holds_of (A : Ad) (me : S3) : T3S := (sSeq (sAsg (eOp oIdx (eVar 0) (eC (.int 0))) (gN 2))
 (b_holds_of_t1 A me))
theorem t_holds_of (A : Ad) (n : Nat) : ∀ ds QR QO, sp_holds_of' (n + 1) ds QR QO → ds.length = 2 → b_holds_of A (sp_holds_of' n) (endE [.shr, .shr] ds QR QO) (startE 3 [.shr, .shr] ds) := by
  rintro ds QR QO ⟨c, k, rfl, hg, hk, hd, h⟩ _
  cases c with
  | shown l i =>
    obtain ⟨g1, g2, g3⟩ := hg
    exact ⟨rfl, sShown, sShown, rfl, k.top, 4, rfl, hk.top, by decide, by decide, rfl, wo_in (strsOf_map k.top.labs) h⟩
  | armed w =>
    have hg : wd w := hg
    refine ⟨rfl, sArmed, sShown, sArmed, sArmed, ?_⟩
    have e : ∀ l : List (Str × Int), l.filterMap (fun p => some (D.str p.1)) = (l.map (·.1)).map D.str := fun l => by rw [fm_all, List.map_map]; rfl
    refine lc_of (ρ := [.shr (Cl.armed w).d, .shr k.d, .shr (.str "armed"), .emp, .emp]) k.rows rw' (fun p => some (.str p.1)) rfl rfl (by have := hk.rl; rw [sizeLine_eq]; omega) (fun p hp acc N hl hN => ⟨rfl, hl, hN⟩) ⟨trivial, hg.shp, ?_, ?_⟩
    · rw [e]
      exact wds_shp fun s hs => by
        obtain ⟨p, hp, rfl⟩ := List.mem_map.mp hs
        exact hk.rw p hp
    · have e2 : ((k.rows.filterMap (fun p => some (D.str p.1))).any fun z => D.eqv z (.str w)) = decide (w ∈ k.rows.map (·.1)) := by rw [e, any_strs]
      show QR (.bl ((k.rows.filterMap (fun p => some (D.str p.1))).any fun z => D.eqv z (.str w))) _
      rw [e2]; exact h
  | waits i =>
    refine ⟨rfl, sWaits, sShown, sWaits, sArmed, sWaits, sWaits, ?_⟩
    have e : ((k.wait.map rw').length : Int) = (k.wait.length : Int) := by rw [List.length_map]
    show QR (.bl (decide (((k.wait.map rw').length : Int) ≥ i))) _
    rw [e]; exact h
  | foc =>
    refine ⟨rfl, sFoc, sShown, sFoc, sArmed, sFoc, sWaits, sFoc, sFoc, ?_⟩
    obtain ⟨top, fo, rows, wait⟩ := k
    cases fo with
    | none => exact h
    | some f => exact h
  | neg a =>
    have hd : a.dep + 1 ≤ n + 1 := hd
    exact ⟨rfl, sNot, sShown, sNot, sArmed, sNot, sWaits, sNot, sFoc, rfl, a, k, rfl, hg, hk, by omega, rfl, sNot, sNot, h⟩
  | both a b =>
    have hd : max a.dep b.dep + 1 ≤ n + 1 := hd
    refine ⟨rfl, sBoth, sShown, sBoth, sArmed, sBoth, sWaits, sBoth, sFoc, rfl, a, k, rfl, hg.1, hk, by omega, rfl, sBoth, sNot, sBoth, sBoth, ?_⟩
    have h : QR (.bl (a.holds k && b.holds k)) [(Cl.both a b).d, k.d] := h
    cases ha : a.holds k with
    | false => rw [ha] at h; exact h
    | true => rw [ha] at h; exact ⟨rfl, b, k, rfl, hg.2, hk, by omega, h⟩
  | eith a b =>
    have hd : max a.dep b.dep + 1 ≤ n + 1 := hd
    refine ⟨rfl, sEith, sShown, sEith, sArmed, sEith, sWaits, sEith, sFoc, rfl, a, k, rfl, hg.1, hk, by omega, rfl, sEith, sNot, sEith, sBoth, ?_⟩
    have h : QR (.bl (a.holds k || b.holds k)) [(Cl.eith a b).d, k.d] := h
    cases ha : a.holds k with
    | false => rw [ha] at h; exact ⟨rfl, b, k, rfl, hg.2, hk, by omega, h⟩
    | true => rw [ha] at h; exact h
  | odd d => exact hg.elim
def b__law_holds_t6 (A : Ad) (me : S3) : T3S := (sRet (eIf (fTst (eOp (oEq false) (eOp oIdx (eVar 0) (eC (.int 0))) (eC (.str "both")))) (eAnd (eOp oIdx (eVar 2) (eC (.int 0))) (eOp oIdx (eVar 2) (eC (.int 1)))) (eOr (eOp oIdx (eVar 2) (eC (.int 0))) (eOp oIdx (eVar 2) (eC (.int 1))))))
def b__law_holds_t5 (A : Ad) (me : S3) : T3S := (sSeq (sIf (fTst (eOp (oEq false) (eOp oIdx (eVar 0) (eC (.int 0))) (eC (.str "not"))))
 (sRet (eNot (eOp oIdx (eVar 2) (eC (.int 0)))))
 sNext)
 (b__law_holds_t6 A me))
def b__law_holds_t4 (A : Ad) (me : S3) : T3S := (sSeq (sAsg (eShr (oLc (iS (eSl (eVar 0) (pSo (eC (.int 1))) pNo)) (gN 5) fYes (eCall [.shr, .shr] me (aCons (eVar 5) (aCons (eVar 1) aNil))) [5])) (gN 2))
 (b__law_holds_t5 A me))
def b__law_holds_t3 (A : Ad) (me : S3) : T3S := (sSeq (sIf (fTst (eOp (oEq false) (eOp oIdx (eVar 0) (eC (.int 0))) (eC (.str "focused"))))
 (sRet (eOp (oIsN true) (eOp oIdx (eVar 1) (eC (.int 1))) (eC .non)))
 sNext)
 (b__law_holds_t4 A me))
def b__law_holds_t2 (A : Ad) (me : S3) : T3S := (sSeq (sIf (fTst (eOp (oEq false) (eOp oIdx (eVar 0) (eC (.int 0))) (eC (.str "waits"))))
 (sRet (eOp oGe (eCB cLen (aCons (eOp oIdx (eVar 1) (eC (.int 3))) aNil)) (eOp oIdx (eVar 0) (eC (.int 1)))))
 sNext)
 (b__law_holds_t3 A me))
def b__law_holds_t1 (A : Ad) (me : S3) : T3S := (sSeq (sIf (fTst (eOp (oEq false) (eOp oIdx (eVar 0) (eC (.int 0))) (eC (.str "armed"))))
 (sRet (eOp (oEq true) (eShr (oLc (iS (eOp oIdx (eVar 1) (eC (.int 2)))) (gN 4) (fTst (eOp (oEq false) (eOp oIdx (eVar 4) (eC (.int 1))) (eOp oIdx (eVar 0) (eC (.int 1))))) (eVar 4) [4])) (eLst aNil)))
 sNext)
 (b__law_holds_t2 A me))
def b__law_holds (A : Ad) (me : S3) : T3S := (sSeq (sIf (fTst (eOp (oEq false) (eOp oIdx (eVar 0) (eC (.int 0))) (eC (.str "shown"))))
 (sRet (eOp oGe (eCB cLen (aCons (eShr (oLc (iS (eCall [.shr] (sp__law_labels A) (aCons (eOp oIdx (eVar 1) (eC (.int 0))) aNil))) (gN 3) (fTst (eOp (oEq false) (eVar 3) (eOp oIdx (eVar 0) (eC (.int 1))))) (eVar 3) [3])) aNil)) (eOp oIdx (eVar 0) (eC (.int 2)))))
 sNext)
 (b__law_holds_t1 A me))
theorem cnt_filter (a : Str) : ∀ l : List Str, (l.filterMap fun s => if s = a then some (D.str s) else none).length = l.count a
  | [] => rfl
  | s :: l => by
    rw [List.filterMap_cons, List.count_cons]
    by_cases h : s = a
    · subst h; simp [cnt_filter s l]
    · simp [h, cnt_filter a l]
theorem t__law_holds (A : Ad) (n : Nat) : ∀ ds QR QO, sp__law_holds' (n + 1) ds QR QO → ds.length = 2 → b__law_holds A (sp__law_holds' n) (endE [.shr, .shr] ds QR QO) (startE 4 [.shr, .shr] ds) := by
  rintro ds QR QO ⟨c, k, rfl, hg, hk, hd, h⟩ _
  cases c with
  | shown l i =>
    obtain ⟨g1, g2, g3⟩ := hg
    refine ⟨sShown, sShown, rfl, k.top, 4, rfl, hk.top, by decide, by decide, ?_⟩
    have hl := labs_len 4 k.top hk.top (by decide)
    have hb := labs_lb 4 k.top hk.top
    have hcl : (5 : Nat) ^ 4 = 625 := rfl
    refine lc_of (ρ := [.shr (Cl.shown l i).d, .shr k.d, .emp, .emp, .emp, .emp]) k.top.labs D.str (fun s => if s = l then some (.str s) else none) rfl rfl (by rw [sizeLine_eq]; omega) (fun s hs acc N hl hN => ⟨rfl, (hb s hs).shp, g1.shp, ?_⟩) ⟨trivial, ?_⟩
    · have e : D.eqv (.str s) (.str l) = decide (s = l) := by
        simp only [D.eqv]
        by_cases z : s = l <;> simp [z]
      by_cases z : s = l
      · rw [if_pos z] at hN
        exact ift (by show D.eqv (.str s) (.str l) = true; rw [e]; exact decide_eq_true z) ⟨hl, hN⟩
      · rw [if_neg z] at hN
        have hN : N (acc ++ []) _ := hN
        rw [List.append_nil] at hN
        exact ife (by show ¬ D.eqv (.str s) (.str l) = true; rw [e]; simpa using z) hN
    · show QR (.bl (decide (((k.top.labs.filterMap fun s => if s = l then some (D.str s) else none).length : Int) ≥ i))) _
      rw [cnt_filter]; exact h
  | armed w =>
    have hg : wd w := hg
    refine ⟨sArmed, sShown, sArmed, sArmed, ?_⟩
    refine lc_of (ρ := [.shr (Cl.armed w).d, .shr k.d, .emp, .emp, .emp, .emp]) k.rows rw' (fun p => if p.1 = w then some (rw' p) else none) rfl rfl (by have := hk.rl; rw [sizeLine_eq]; omega) (fun p hp acc N hl hN => ⟨rfl, (hk.rw p hp).shp, hg.shp, ?_⟩) ⟨trivial, ?_⟩
    · have e : D.eqv (.str p.1) (.str w) = decide (p.1 = w) := by
        simp only [D.eqv]
        by_cases z : p.1 = w <;> simp [z]
      by_cases z : p.1 = w
      · rw [if_pos z] at hN
        exact ift (by show D.eqv (.str p.1) (.str w) = true; rw [e]; exact decide_eq_true z) ⟨hl, hN⟩
      · rw [if_neg z] at hN
        have hN : N (acc ++ []) _ := hN
        rw [List.append_nil] at hN
        exact ife (by show ¬ D.eqv (.str p.1) (.str w) = true; rw [e]; simpa using z) hN
    · have sh : ∀ l : List (Str × Int), (∀ p ∈ l, wd p.1) → (D.lst (l.filterMap fun p => if p.1 = w then some (rw' p) else none)).shp = true := by
        have go : ∀ l : List (Str × Int), (∀ p ∈ l, wd p.1) → D.oks (l.filterMap fun p => if p.1 = w then some (rw' p) else none) = true ∧ D.deps (l.filterMap fun p => if p.1 = w then some (rw' p) else none) ≤ 2 := by
          intro l
          induction l with
          | nil => intro _; exact ⟨rfl, by simp [D.deps]⟩
          | cons p l ih =>
            intro hl
            obtain ⟨a, b⟩ := ih fun x hx => hl x (List.mem_cons_of_mem _ hx)
            have hp := (hl p (List.mem_cons_self ..)).ok
            rw [List.filterMap_cons]
            by_cases z : p.1 = w
            · rw [if_pos z]
              refine ⟨?_, ?_⟩
              · show D.oks (rw' p :: _) = true
                simp only [D.oks, rw', D.ok, Bool.and_eq_true]
                exact ⟨⟨trivial, hp, trivial, trivial⟩, a⟩
              · have e : (rw' p).dep = 2 := by simp [rw', D.dep, D.deps]
                show max (rw' p).dep (D.deps _) ≤ 2
                omega
            · rw [if_neg z]; exact ⟨a, b⟩
        intro l hl
        obtain ⟨a, b⟩ := go l hl
        have c : D.deps (l.filterMap fun p => if p.1 = w then some (rw' p) else none) + 1 ≤ 50 := by omega
        unfold D.shp
        rw [Bool.and_eq_true, decide_eq_true_eq]
        simp only [D.ok, D.dep]
        exact ⟨a, c⟩
      have ee : ∀ l : List (Str × Int), (!D.eqv (.lst (l.filterMap fun p => if p.1 = w then some (rw' p) else none)) (.lst [])) = decide (w ∈ l.map (·.1)) := by
        intro l
        induction l with
        | nil => rfl
        | cons p l ih =>
          rw [List.filterMap_cons, List.map_cons]
          by_cases z : p.1 = w
          · rw [if_pos z]
            show true = _
            exact (decide_eq_true (by rw [z]; exact List.mem_cons_self ..)).symm
          · rw [if_neg z, ih]
            have : ¬ w = p.1 := fun e => z e.symm
            simp [this]
      refine ⟨sz 0 rfl, sh _ hk.rw, rfl, ?_⟩
      show QR (.bl (!D.eqv (.lst (k.rows.filterMap fun p => if p.1 = w then some (rw' p) else none)) (.lst []))) _
      rw [ee]; exact h
  | waits i =>
    refine ⟨sWaits, sShown, sWaits, sArmed, sWaits, sWaits, ?_⟩
    have e : ((k.wait.map rw').length : Int) = (k.wait.length : Int) := by rw [List.length_map]
    show QR (.bl (decide (((k.wait.map rw').length : Int) ≥ i))) _
    rw [e]; exact h
  | foc =>
    refine ⟨sFoc, sShown, sFoc, sArmed, sFoc, sWaits, sFoc, sFoc, ?_⟩
    obtain ⟨top, fo, rows, wait⟩ := k
    cases fo with
    | none => exact h
    | some f => exact h
  | neg a =>
    have hd : a.dep + 1 ≤ n + 1 := hd
    refine ⟨sNot, sShown, sNot, sArmed, sNot, sWaits, sNot, sFoc, ?_⟩
    refine lc_of (ρ := [.shr (Cl.neg a).d, .shr k.d, .emp, .emp, .emp, .emp]) [a] Cl.d (fun c => some (.bl (c.holds k))) rfl rfl (show 1 < sizeLine by decide) (fun c hc acc N hl hN => ?_) ⟨trivial, rfl, ?_⟩
    · have : c = a := by simpa using hc
      subst this
      exact ⟨rfl, rfl, c, k, rfl, hg, hk, by omega, hl, hN⟩
    · exact ⟨sNot, sNot, h⟩
  | both a b =>
    have hd : max a.dep b.dep + 1 ≤ n + 1 := hd
    refine ⟨sBoth, sShown, sBoth, sArmed, sBoth, sWaits, sBoth, sFoc, ?_⟩
    refine lc_of (ρ := [.shr (Cl.both a b).d, .shr k.d, .emp, .emp, .emp, .emp]) [a, b] Cl.d (fun c => some (.bl (c.holds k))) rfl rfl (show 2 < sizeLine by decide) (fun c hc acc N hl hN => ?_) ⟨trivial, rfl, ?_⟩
    · have : c = a ∨ c = b := by simpa using hc
      rcases this with rfl | rfl
      · exact ⟨rfl, rfl, c, k, rfl, hg.1, hk, by omega, hl, hN⟩
      · exact ⟨rfl, rfl, c, k, rfl, hg.2, hk, by omega, hl, hN⟩
    · refine ⟨sBoth, sNot, sBoth, sBoth, ?_⟩
      have h : QR (.bl (a.holds k && b.holds k)) [(Cl.both a b).d, k.d] := h
      refine ifs (fun z => ?_) fun z => ?_
      · have z : a.holds k = true := z
        rw [z] at h; exact h
      · have z : a.holds k = false := by rw [← Bool.not_eq_true]; exact z
        show QR (.bl (a.holds k)) _
        rw [z] at h ⊢; exact h
  | eith a b =>
    have hd : max a.dep b.dep + 1 ≤ n + 1 := hd
    refine ⟨sEith, sShown, sEith, sArmed, sEith, sWaits, sEith, sFoc, ?_⟩
    refine lc_of (ρ := [.shr (Cl.eith a b).d, .shr k.d, .emp, .emp, .emp, .emp]) [a, b] Cl.d (fun c => some (.bl (c.holds k))) rfl rfl (show 2 < sizeLine by decide) (fun c hc acc N hl hN => ?_) ⟨trivial, rfl, ?_⟩
    · have : c = a ∨ c = b := by simpa using hc
      rcases this with rfl | rfl
      · exact ⟨rfl, rfl, c, k, rfl, hg.1, hk, by omega, hl, hN⟩
      · exact ⟨rfl, rfl, c, k, rfl, hg.2, hk, by omega, hl, hN⟩
    · refine ⟨sEith, sNot, sEith, sBoth, ?_⟩
      have h : QR (.bl (a.holds k || b.holds k)) [(Cl.eith a b).d, k.d] := h
      refine ifs (fun z => ?_) fun z => ?_
      · have z : a.holds k = true := z
        show QR (.bl (a.holds k)) _
        rw [z] at h ⊢; exact h
      · have z : a.holds k = false := by rw [← Bool.not_eq_true]; exact z
        rw [z] at h; exact h
  | odd d => exact hg.elim
end K00
end L3

set_option Elab.async false
set_option linter.all false
set_option maxRecDepth 100000
set_option autoImplicit false
set_option maxHeartbeats 0
namespace L3
namespace K00
open PySem PySem.Spec L2
open PyProof.Rows (b2i)
/-! ### parts -/
def tbl_ITEMS : List (Str × Int) := [("shown", 3), ("armed", 2), ("waits", 2), ("focused", 1), ("not", 2), ("both", 3), ("either", 3)]
def abs_ITEMS : List Str := ["nor"]
def fD : D := .tup [.str "focused"]
def a21 : Str := Txt.mul "a" 21
def odds : List D := [.non, .tup [], .tup [.str "shown"], .tup [.str "shown", .str "", .int 1], .tup [.str "shown", .str a21, .int 1], .tup [.str "shown", .str "a", .int 0], .tup [.str "shown", .str "a", .int 10], .tup [.str "shown", .str "a", .bl true],
  .tup [.str "armed", .str "Ab"], .tup [.str "armed", .str "abcdefghi"], .tup [.str "armed"], .tup [.str "waits", .int 0], .tup [.str "waits", .int 4], .tup [.str "waits", .str "1"], .tup [.str "focused", .int 1], .tup [.str "not"], .tup [.str "both", fD],
  .tup [.str "nor", fD, fD], .lst [.str "focused"], .tup [.str "either", fD, fD, fD], .tup [.int 1, fD], .str "focused", .tup [.str "shown", .int 3, .int 1], .tup [.str "waits", .bl false]]
/-- the node itself is in order -/
def Cl.node : Cl → Prop
  | .shown l n => lb l ∧ 1 ≤ n ∧ n ≤ 9
  | .armed w => wd w
  | .waits n => 1 ≤ n ∧ n ≤ 3
  | .odd _ => False
  | _ => True
def sp_is_claim_part (A : Ad) : S3 := fun ds QR _ => ∃ (d : D) (b : Bool), ds = [d] ∧ ((∃ c : Cl, c.node ∧ d = c.d ∧ b = true) ∨ (d ∈ odds ∧ b = false)) ∧ QR (.bl b) ds
def b_is_claim_part_c3t1 (A : Ad) : T3S := (sRet (eCall [.shr, .shr, .shr] (sp_is_number A) (aCons (eOp oIdx (eVar 0) (eC (.int 2))) (aCons (eC (.int 1)) (aCons (eC (.int 9)) aNil)))))
def b_is_claim_part_t5 (A : Ad) : T3S := (sRet (eC (.bl true)))
def b_is_claim_part_t4 (A : Ad) : T3S := (sSeq (sIf (fTst (eOp (oEq false) (eOp oIdx (eVar 0) (eC (.int 0))) (eC (.str "waits"))))
 (sRet (eCall [.shr, .shr, .shr] (sp_is_number A) (aCons (eOp oIdx (eVar 0) (eC (.int 1))) (aCons (eC (.int 1)) (aCons (eC (.int 3)) aNil)))))
 sNext)
 (b_is_claim_part_t5 A))
def b_is_claim_part_t3 (A : Ad) : T3S := (sSeq (sIf (fTst (eOp (oEq false) (eOp oIdx (eVar 0) (eC (.int 0))) (eC (.str "armed"))))
 (sRet (eCall [.shr] (sp_is_name A) (aCons (eOp oIdx (eVar 0) (eC (.int 1))) aNil)))
 sNext)
 (b_is_claim_part_t4 A))
def b_is_claim_part_t2 (A : Ad) : T3S := (sSeq (sIf (fTst (eOp (oEq false) (eOp oIdx (eVar 0) (eC (.int 0))) (eC (.str "shown"))))
 (sSeq (sIf (fOr (fNot (fTru (eCB cIsi (aCons (eOp oIdx (eVar 0) (eC (.int 1))) (aCons (eC (.ty "str")) aNil))))) (fNot (fTst (eChain oLe oLe (eC (.int 1)) (eCB cLen (aCons (eOp oIdx (eVar 0) (eC (.int 1))) aNil)) (eC (.int 20))))))
 (sRet (eC (.bl false)))
 sNext)
 (b_is_claim_part_c3t1 A))
 sNext)
 (b_is_claim_part_t3 A))
def b_is_claim_part_t1 (A : Ad) : T3S := (sSeq (sIf (fOr (fNot (fTru (eCB cIsi (aCons (eOp oIdx (eVar 0) (eC (.int 0))) (aCons (eC (.ty "str")) aNil))))) (fOr (fTst (eOp (oKInA true A.ITEMS tbl_ITEMS abs_ITEMS) (eOp oIdx (eVar 0) (eC (.int 0))) (eC (.cls A.ITEMS)))) (fTst (eOp (oEq true) (eCB cLen (aCons (eVar 0) aNil)) (eOp (oKGet A.ITEMS tbl_ITEMS) (eC (.cls A.ITEMS)) (eOp oIdx (eVar 0) (eC (.int 0))))))))
 (sRet (eC (.bl false)))
 sNext)
 (b_is_claim_part_t2 A))
def b_is_claim_part (A : Ad) : T3S := (sSeq (sIf (fOr (fNot (fTru (eCB cIsi (aCons (eVar 0) (aCons (eC (.ty "tuple")) aNil))))) (fTst (eOp (oEq false) (eCB cLen (aCons (eVar 0) aNil)) (eC (.int 0)))))
 (sRet (eC (.bl false)))
 sNext)
 (b_is_claim_part_t1 A))
theorem t_is_claim_part (A : Ad) : ∀ ds QR QO, sp_is_claim_part A ds QR QO → ds.length = 1 → b_is_claim_part A (endE [.shr] ds QR QO) (startE 0 [.shr] ds) := by
  rintro ds QR QO ⟨d, b, rfl, h0, h⟩ _
  rcases h0 with ⟨c, hg, rfl, rfl⟩ | ⟨hd, rfl⟩
  · cases c with
    | shown l i =>
      obtain ⟨g1, g2, g3⟩ := hg
      refine ⟨rfl, rfl, rfl, rfl, rfl, rfl, rfl, rfl, sShown, sShown, rfl, ?_⟩
      have h1 := g1.l1
      have h2 := g1.l2
      have hs : l.length ≤ sizeLine := by rw [sizeLine_eq]; omega
      refine ⟨hs, ift (decide_eq_true (by omega)) (ife ?_ ?_)⟩
      · have e : decide ((l.length : Int) ≤ 20) = true := decide_eq_true (by omega)
        show ¬ (!(decide ((l.length : Int) ≤ 20))) = true
        rw [e]; decide
      · exact ⟨rfl, .int i, 1, 9, true, rfl, .inl ⟨i, rfl, (decide_eq_true ⟨g2, g3⟩).symm⟩, h⟩
    | armed w => exact ⟨rfl, rfl, rfl, rfl, rfl, rfl, rfl, rfl, sArmed, sShown, sArmed, sArmed, rfl, w, true, rfl, .inl ⟨hg, rfl⟩, h⟩
    | waits i =>
      obtain ⟨g2, g3⟩ := hg
      exact ⟨rfl, rfl, rfl, rfl, rfl, rfl, rfl, rfl, sWaits, sShown, sWaits, sArmed, sWaits, sWaits, rfl, .int i, 1, 3, true, rfl, .inl ⟨i, rfl, (decide_eq_true ⟨g2, g3⟩).symm⟩, h⟩
    | foc => exact ⟨rfl, rfl, rfl, rfl, rfl, rfl, rfl, rfl, sFoc, sShown, sFoc, sArmed, sFoc, sWaits, h⟩
    | neg a => exact ⟨rfl, rfl, rfl, rfl, rfl, rfl, rfl, rfl, sNot, sShown, sNot, sArmed, sNot, sWaits, h⟩
    | both a b => exact ⟨rfl, rfl, rfl, rfl, rfl, rfl, rfl, rfl, sBoth, sShown, sBoth, sArmed, sBoth, sWaits, h⟩
    | eith a b => exact ⟨rfl, rfl, rfl, rfl, rfl, rfl, rfl, rfl, sEith, sShown, sEith, sArmed, sEith, sWaits, h⟩
    | odd d => exact hg.elim
  · simp only [odds, List.mem_cons, List.not_mem_nil, or_false] at hd
    rcases hd with rfl | rfl | rfl | rfl | rfl | rfl | rfl | rfl | rfl | rfl | rfl | rfl | rfl | rfl | rfl | rfl | rfl | rfl | rfl | rfl | rfl | rfl | rfl | rfl
    · repeat (first | exact h | refine ⟨rfl, ?_⟩)
    · repeat (first | exact h | refine ⟨rfl, ?_⟩)
    · repeat (first | exact h | refine ⟨rfl, ?_⟩)
    · repeat (first | exact h | refine ⟨rfl, ?_⟩ | refine ⟨sShown, ?_⟩ | refine ⟨(by decide +kernel : _ ≤ sizeLine), ?_⟩)
    · repeat (first | exact h | refine ⟨rfl, ?_⟩ | refine ⟨sShown, ?_⟩ | refine ⟨(by decide +kernel : _ ≤ sizeLine), ?_⟩)
    · repeat (first | exact h | refine ⟨rfl, ?_⟩ | refine ⟨sShown, ?_⟩ | refine ⟨(by decide +kernel : _ ≤ sizeLine), ?_⟩)
      exact ⟨.int 0, 1, 9, false, rfl, .inl ⟨0, rfl, rfl⟩, h⟩
    · repeat (first | exact h | refine ⟨rfl, ?_⟩ | refine ⟨sShown, ?_⟩ | refine ⟨(by decide +kernel : _ ≤ sizeLine), ?_⟩)
      exact ⟨.int 10, 1, 9, false, rfl, .inl ⟨10, rfl, rfl⟩, h⟩
    · repeat (first | exact h | refine ⟨rfl, ?_⟩ | refine ⟨sShown, ?_⟩ | refine ⟨(by decide +kernel : _ ≤ sizeLine), ?_⟩)
      exact ⟨.bl true, 1, 9, false, rfl, .inr ⟨.inl ⟨_, rfl⟩, rfl⟩, h⟩
    · repeat (first | exact h | refine ⟨rfl, ?_⟩ | refine ⟨sShown, ?_⟩ | refine ⟨sArmed, ?_⟩)
      exact ⟨"Ab", false, rfl, .inr (.inl ⟨rfl, rfl⟩), h⟩
    · repeat (first | exact h | refine ⟨rfl, ?_⟩ | refine ⟨sShown, ?_⟩ | refine ⟨sArmed, ?_⟩)
      exact ⟨"abcdefghi", false, rfl, .inr (.inr ⟨rfl, rfl⟩), h⟩
    · repeat (first | exact h | refine ⟨rfl, ?_⟩)
    · repeat (first | exact h | refine ⟨rfl, ?_⟩ | refine ⟨sShown, ?_⟩ | refine ⟨sArmed, ?_⟩ | refine ⟨sWaits, ?_⟩)
      exact ⟨.int 0, 1, 3, false, rfl, .inl ⟨0, rfl, rfl⟩, h⟩
    · repeat (first | exact h | refine ⟨rfl, ?_⟩ | refine ⟨sShown, ?_⟩ | refine ⟨sArmed, ?_⟩ | refine ⟨sWaits, ?_⟩)
      exact ⟨.int 4, 1, 3, false, rfl, .inl ⟨4, rfl, rfl⟩, h⟩
    · repeat (first | exact h | refine ⟨rfl, ?_⟩ | refine ⟨sShown, ?_⟩ | refine ⟨sArmed, ?_⟩ | refine ⟨sWaits, ?_⟩)
      exact ⟨.str "1", 1, 3, false, rfl, .inr ⟨.inr ⟨_, rfl⟩, rfl⟩, h⟩
    · repeat (first | exact h | refine ⟨rfl, ?_⟩)
    · repeat (first | exact h | refine ⟨rfl, ?_⟩)
    · repeat (first | exact h | refine ⟨rfl, ?_⟩)
    · repeat (first | exact h | refine ⟨rfl, ?_⟩)
      show ("nor" : Str) ∈ abs_ITEMS ∧ _
      exact ⟨List.mem_cons_self .., h⟩
    · repeat (first | exact h | refine ⟨rfl, ?_⟩)
    · repeat (first | exact h | refine ⟨rfl, ?_⟩)
    · repeat (first | exact h | refine ⟨rfl, ?_⟩)
    · repeat (first | exact h | refine ⟨rfl, ?_⟩)
    · repeat (first | exact h | refine ⟨rfl, ?_⟩ | refine ⟨sShown, ?_⟩ | refine ⟨(by decide +kernel : _ ≤ sizeLine), ?_⟩)
    · repeat (first | exact h | refine ⟨rfl, ?_⟩ | refine ⟨sShown, ?_⟩ | refine ⟨sArmed, ?_⟩ | refine ⟨sWaits, ?_⟩)
      exact ⟨.bl false, 1, 3, false, rfl, .inr ⟨.inl ⟨_, rfl⟩, rfl⟩, h⟩
end K00
end L3

set_option Elab.async false
set_option linter.all false
set_option maxRecDepth 100000
set_option autoImplicit false
set_option maxHeartbeats 0
namespace L3
namespace K00
open PySem PySem.Spec L2
open PyProof.Rows (b2i)
/-! ### levels -/
def Cl.kids : Cl → List Cl
  | .neg a => [a]
  | .both a b => [a, b]
  | .eith a b => [a, b]
  | _ => []
def md : List Cl → Nat
  | [] => 0
  | c :: l => max c.dep (md l)
theorem md_app (l : List Cl) (c : Cl) : md (l ++ [c]) = max (md l) c.dep := by
  induction l with
  | nil => simp [md]
  | cons x l ih => rw [List.cons_append, md, ih, md]; omega
theorem dep_kids (c : Cl) : c.dep = md c.kids + 1 := by cases c <;> simp [Cl.dep, Cl.kids, md]
theorem good_kids {c : Cl} (h : c.good) : ∀ x ∈ c.kids, x.good := by
  cases c with
  | neg a =>
    intro x hx
    have : x = a := by simpa [Cl.kids] using hx
    subst this; exact h
  | both a b =>
    intro x hx
    have : x = a ∨ x = b := by simpa [Cl.kids] using hx
    rcases this with rfl | rfl
    · exact h.1
    · exact h.2
  | eith a b =>
    intro x hx
    have : x = a ∨ x = b := by simpa [Cl.kids] using hx
    rcases this with rfl | rfl
    · exact h.1
    · exact h.2
  | _ => intro x hx; simp [Cl.kids] at hx
theorem dep_kid {c x : Cl} (h : x ∈ c.kids) : x.dep + 1 ≤ c.dep := by
  have go : ∀ l : List Cl, x ∈ l → x.dep ≤ md l := by
    intro l
    induction l with
    | nil => intro h; simp at h
    | cons y l ih =>
      intro h
      rcases List.mem_cons.mp h with rfl | h
      · exact Nat.le_max_left ..
      · exact Nat.le_trans (ih h) (Nat.le_max_right ..)
  rw [dep_kids c]
  have := go _ h
  omega
theorem wd_not : wd "not" := ⟨by decide, by decide, fun c hc => by
  have e : ("not" : Str).cps.toList.all (fun c => decide (97 ≤ c ∧ c ≤ 122)) = true := by decide +kernel
  rw [List.all_eq_true] at e
  exact of_decide_eq_true (e _ hc)⟩
theorem sNBE : (D.lst [.str "not", .str "both", .str "either"]).shp = true := by decide +kernel
def sp__law_levels' (n : Nat) : S3 := fun ds QR _ => ∃ c : Cl, ds = [c.d] ∧ c.good ∧ c.dep ≤ n ∧ QR (.int c.dep) ds
def sp__law_levels (A : Ad) : S3 := sp__law_levels' 7
theorem z__law_levels : ∀ ds QR QO, ¬ sp__law_levels' 0 ds QR QO := by
  rintro ds QR QO ⟨c, _, _, h, _⟩
  have := c.dep_pos
  omega
def b__law_levels_l1t1 (A : Ad) (me : S3) : T3S := (sAsg (eIf (fTst (eOp oGt (eVar 3) (eVar 1))) (eVar 3) (eVar 1)) (gN 1))
def b__law_levels_l1 (A : Ad) (me : S3) : T3S := (sSeq (sAsg (eCall [.shr] me (aCons (eVar 2) aNil)) (gN 3))
 (b__law_levels_l1t1 A me))
def b__law_levels_t2 (A : Ad) (me : S3) : T3S := (sRet (eOp oAdd (eVar 1) (eC (.int 1))))
def b__law_levels_t1 (A : Ad) (me : S3) : T3S := (sSeq (sFor (iS (eIf (fTst (eOp (oIn false) (eOp oIdx (eVar 0) (eC (.int 0))) (eLst (aCons (eC (.str "not")) (aCons (eC (.str "both")) (aCons (eC (.str "either")) aNil)))))) (eSl (eVar 0) (pSo (eC (.int 1))) pNo) (eTup aNil))) (gN 2)
 (b__law_levels_l1 A me))
 (b__law_levels_t2 A me))
def b__law_levels (A : Ad) (me : S3) : T3S := (sSeq (sAsg (eC (.int 0)) (gN 1))
 (b__law_levels_t1 A me))
theorem t__law_levels (A : Ad) (n : Nat) : ∀ ds QR QO, sp__law_levels' (n + 1) ds QR QO → ds.length = 1 → b__law_levels A (sp__law_levels' n) (endE [.shr] ds QR QO) (startE 3 [.shr] ds) := by
  rintro ds QR QO ⟨c, rfl, hg, hd, h⟩ _
  have loop : ∀ (l : List D) (r : Rs) (E : E3), l = c.kids.map Cl.d → (∀ ρ, E.nx ρ → True) → (∀ s2 s3, E.nx [.shr c.d, .shr (.int (md c.kids : Nat)), s2, s3]) → forL (gN 2) (b__law_levels_l1 A (sp__law_levels' n)) E l [.shr c.d, .shr (.int 0), .emp, .emp] := by
    intro l r E hl _ hE
    refine for_inv (fun i ρ => ∃ s2 s3, s2.locked = false ∧ s3.locked = false ∧ i ≤ c.kids.length ∧ ρ = [.shr c.d, .shr (.int (md (c.kids.take i) : Nat)), s2, s3]) _ ?_ ?_ ⟨.emp, .emp, rfl, rfl, Nat.zero_le _, rfl⟩
    · rintro i d ρ N hd' ⟨s2, s3, h2, h3, hi, rfl⟩ hN
      rw [hl, List.getElem?_map] at hd'
      obtain ⟨x, hx, rfl⟩ := Option.map_eq_some_iff.mp hd'
      have hm := List.mem_of_getElem? hx
      have hlt := (List.getElem?_eq_some_iff.mp hx).1
      have hdx := dep_kid hm
      refine ⟨unF h2, ?_⟩
      show b__law_levels_l1 A _ _ [.shr c.d, .shr (.int (md (c.kids.take i) : Nat)), .shr x.d, s3]
      refine ⟨rfl, x, rfl, good_kids hg x hm, by omega, unF h3, ?_⟩
      have e : md (c.kids.take (i + 1)) = max (md (c.kids.take i)) x.dep := by
        rw [List.take_add_one, hx]; exact md_app _ _
      show b__law_levels_l1t1 A (sp__law_levels' n) _ [.shr c.d, .shr (.int (md (c.kids.take i) : Nat)), .shr x.d, .shr (.int x.dep)]
      refine ifs (fun z => ?_) fun z => ?_
      · have z : (x.dep : Int) > (md (c.kids.take i) : Nat) := of_decide_eq_true z
        refine ⟨rfl, hN _ ⟨.shr x.d, .shr (.int x.dep), rfl, rfl, by omega, ?_⟩⟩
        rw [e, Nat.max_eq_right (by omega)]; rfl
      · have z : ¬ (x.dep : Int) > (md (c.kids.take i) : Nat) := fun q => z (decide_eq_true q)
        refine ⟨rfl, hN _ ⟨.shr x.d, .shr (.int x.dep), rfl, rfl, by omega, ?_⟩⟩
        rw [e, Nat.max_eq_left (by omega)]; rfl
    · rintro ρ ⟨s2, s3, h2, h3, hi, rfl⟩
      have e : l.length = c.kids.length := by rw [hl, List.length_map]
      rw [e, List.take_length]
      exact hE s2 s3
  have fin : ∀ (s2 s3 : Sl), b__law_levels_t2 A (sp__law_levels' n) (endE [.shr] [c.d] QR QO) [.shr c.d, .shr (.int (md c.kids : Nat)), s2, s3] := by
    intro s2 s3
    have e : ((md c.kids : Nat) : Int) + 1 = (c.dep : Nat) := by rw [dep_kids c]; omega
    show QR (.int (((md c.kids : Nat) : Int) + 1)) _
    rw [e]; exact h
  cases c with
  | shown l i => exact ⟨rfl, sz 3 rfl, sShown, sNBE, sz 0 rfl, loop [] (.val .non) _ rfl (fun _ _ => trivial) fun s2 s3 => ⟨trivial, fin s2 s3⟩⟩
  | armed w => exact ⟨rfl, sz 3 rfl, sArmed, sNBE, sz 0 rfl, loop [] (.val .non) _ rfl (fun _ _ => trivial) fun s2 s3 => ⟨trivial, fin s2 s3⟩⟩
  | waits i => exact ⟨rfl, sz 3 rfl, sWaits, sNBE, sz 0 rfl, loop [] (.val .non) _ rfl (fun _ _ => trivial) fun s2 s3 => ⟨trivial, fin s2 s3⟩⟩
  | foc => exact ⟨rfl, sz 3 rfl, sFoc, sNBE, sz 0 rfl, loop [] (.val .non) _ rfl (fun _ _ => trivial) fun s2 s3 => ⟨trivial, fin s2 s3⟩⟩
  | neg a => exact ⟨rfl, sz 3 rfl, sNot, sNBE, loop [a.d] (.val .non) _ rfl (fun _ _ => trivial) fun s2 s3 => ⟨trivial, fin s2 s3⟩⟩
  | both a b => exact ⟨rfl, sz 3 rfl, sBoth, sNBE, loop [a.d, b.d] (.val .non) _ rfl (fun _ _ => trivial) fun s2 s3 => ⟨trivial, fin s2 s3⟩⟩
  | eith a b => exact ⟨rfl, sz 3 rfl, sEith, sNBE, loop [a.d, b.d] (.val .non) _ rfl (fun _ _ => trivial) fun s2 s3 => ⟨trivial, fin s2 s3⟩⟩
  | odd d => exact hg.elim
end K00
end L3

set_option Elab.async false
set_option linter.all false
set_option maxRecDepth 100000
set_option autoImplicit false
set_option maxHeartbeats 0
namespace L3
namespace K00
open PySem PySem.Spec L2
open PyProof.Rows (b2i)
/-! ### what can be told of claims -/
def Cl.fine : Cl → Prop
  | .shown l n => lb l ∧ 1 ≤ n ∧ n ≤ 9
  | .armed w => wd w
  | .waits n => 1 ≤ n ∧ n ≤ 3
  | .foc => True
  | .neg a => a.fine
  | .both a b => a.fine ∧ b.fine
  | .eith a b => a.fine ∧ b.fine
  | .odd d => d ∈ odds
def Cl.bad : Cl → Option D
  | .neg a => a.bad
  | .both a b => a.bad.or b.bad
  | .eith a b => a.bad.or b.bad
  | .odd d => some d
  | _ => none
theorem fine_good : ∀ c : Cl, c.fine → c.bad = none → c.good
  | .shown _ _, h, _ => h
  | .armed _, h, _ => h
  | .waits _, h, _ => h
  | .foc, h, _ => h
  | .neg a, h, e => fine_good a h e
  | .both a b, h, e => by
    have e : a.bad.or b.bad = none := e
    rw [Option.or_eq_none_iff] at e
    exact ⟨fine_good a h.1 e.1, fine_good b h.2 e.2⟩
  | .eith a b, h, e => by
    have e : a.bad.or b.bad = none := e
    rw [Option.or_eq_none_iff] at e
    exact ⟨fine_good a h.1 e.1, fine_good b h.2 e.2⟩
  | .odd _, _, e => by cases e
theorem good_fine : ∀ c : Cl, c.good → c.fine ∧ c.bad = none
  | .shown _ _, h => ⟨h, rfl⟩
  | .armed _, h => ⟨h, rfl⟩
  | .waits _, h => ⟨h, rfl⟩
  | .foc, h => ⟨h, rfl⟩
  | .neg a, h => good_fine a h
  | .both a b, h => by
    obtain ⟨a1, a2⟩ := good_fine a h.1
    obtain ⟨b1, b2⟩ := good_fine b h.2
    exact ⟨⟨a1, b1⟩, by show a.bad.or b.bad = none; rw [a2, b2]; rfl⟩
  | .eith a b, h => by
    obtain ⟨a1, a2⟩ := good_fine a h.1
    obtain ⟨b1, b2⟩ := good_fine b h.2
    exact ⟨⟨a1, b1⟩, by show a.bad.or b.bad = none; rw [a2, b2]; rfl⟩
  | .odd _, h => h.elim
theorem odds_tel {d : D} (h : d ∈ odds) : d.tel = true := by
  have e : odds.all D.tel = true := by decide +kernel
  rw [List.all_eq_true] at e
  exact e d h
theorem bad_tel : ∀ {c : Cl} {d : D}, c.fine → c.bad = some d → d ∈ odds
  | .shown _ _, _, _, e => by cases e
  | .armed _, _, _, e => by cases e
  | .waits _, _, _, e => by cases e
  | .foc, _, _, e => by cases e
  | .neg a, d, h, e => bad_tel (c := a) h e
  | .both a b, d, h, e => by
    have e : a.bad.or b.bad = some d := e
    rcases Option.or_eq_some_iff.mp e with e | ⟨_, e⟩
    · exact bad_tel (c := a) h.1 e
    · exact bad_tel (c := b) h.2 e
  | .eith a b, d, h, e => by
    have e : a.bad.or b.bad = some d := e
    rcases Option.or_eq_some_iff.mp e with e | ⟨_, e⟩
    · exact bad_tel (c := a) h.1 e
    · exact bad_tel (c := b) h.2 e
  | .odd x, d, h, e => by cases e; exact h
theorem cl_parts : ∀ c : Cl, c.good → c.d.ok = true ∧ c.d.sho = true ∧ c.d.dep ≤ c.dep ∧ c.d.wid + 100 ≤ 2400 * 2 ^ c.dep
  | .shown l n, ⟨h, h1, h2⟩ => by
    have a := h.ok
    have b := h.l2
    have c : n.natAbs.log2 < 1920 := Nat.lt_of_le_of_lt (Nat.log2_le_self _) (by omega)
    have e : (D.str "shown").ok = true := by decide +kernel
    have e' : ("shown" : Str).length = 5 := by decide
    refine ⟨?_, ?_, ?_, ?_⟩
    · show (_ && (_ && _)) = true
      rw [e]; show (true && (PyData.strOk l && _)) = true; rw [a]; rfl
    · show (true && (true && (decide (n.natAbs.log2 < 1920) && true))) = true
      rw [decide_eq_true c]; rfl
    · show D.dep (.tup [.str "shown", .str l, .int n]) ≤ 1
      simp [D.dep, D.deps]
    · show D.wid (.tup [.str "shown", .str l, .int n]) + 100 ≤ 2400 * 2 ^ 1
      simp only [D.wid, D.wids, e']; omega
  | .armed w, h => by
    have a := wd.ok h
    have b := wd.l2 h
    have e : (D.str "armed").ok = true := by decide +kernel
    have e' : ("armed" : Str).length = 5 := by decide
    refine ⟨?_, rfl, ?_, ?_⟩
    · show (_ && (_ && _)) = true
      rw [e]; show (true && (PyData.strOk w && _)) = true; rw [a]; rfl
    · show D.dep (.tup [.str "armed", .str w]) ≤ 1
      simp [D.dep, D.deps]
    · show D.wid (.tup [.str "armed", .str w]) + 100 ≤ 2400 * 2 ^ 1
      simp only [D.wid, D.wids, e']; omega
  | .waits n, ⟨h1, h2⟩ => by
    have c : n.natAbs.log2 < 1920 := Nat.lt_of_le_of_lt (Nat.log2_le_self _) (by omega)
    have e : (D.str "waits").ok = true := by decide +kernel
    have e' : ("waits" : Str).length = 5 := by decide
    refine ⟨?_, ?_, ?_, ?_⟩
    · show (_ && (_ && _)) = true
      rw [e]; rfl
    · show (true && (decide (n.natAbs.log2 < 1920) && true)) = true
      rw [decide_eq_true c]; rfl
    · show D.dep (.tup [.str "waits", .int n]) ≤ 1
      simp [D.dep, D.deps]
    · show D.wid (.tup [.str "waits", .int n]) + 100 ≤ 2400 * 2 ^ 1
      simp only [D.wid, D.wids, e']; omega
  | .foc, _ => by
    have e' : ("focused" : Str).length = 7 := by decide
    refine ⟨by decide +kernel, rfl, ?_, ?_⟩
    · show D.dep (.tup [.str "focused"]) ≤ 1
      simp [D.dep, D.deps]
    · show D.wid (.tup [.str "focused"]) + 100 ≤ 2400 * 2 ^ 1
      simp only [D.wid, D.wids, e']; omega
  | .neg a, h => by
    obtain ⟨a1, a2, a3, a4⟩ := cl_parts a h
    have e : (D.str "not").ok = true := by decide +kernel
    have e' : ("not" : Str).length = 3 := by decide
    have p : 2 ^ (a.dep + 1) = 2 * 2 ^ a.dep := by rw [Nat.pow_succ, Nat.mul_comm]
    refine ⟨?_, ?_, ?_, ?_⟩
    · show (_ && (a.d.ok && _)) = true
      rw [e, a1]; rfl
    · show (true && (a.d.sho && _)) = true
      rw [a2]; rfl
    · show D.dep (.tup [.str "not", a.d]) ≤ a.dep + 1
      simp only [D.dep, D.deps]; omega
    · show D.wid (.tup [.str "not", a.d]) + 100 ≤ 2400 * 2 ^ (a.dep + 1)
      simp only [D.wid, D.wids, e']; omega
  | .both a b, h => by
    obtain ⟨a1, a2, a3, a4⟩ := cl_parts a h.1
    obtain ⟨b1, b2, b3, b4⟩ := cl_parts b h.2
    have e : (D.str "both").ok = true := by decide +kernel
    have e' : ("both" : Str).length = 4 := by decide
    have p : 2 ^ (max a.dep b.dep + 1) = 2 * 2 ^ (max a.dep b.dep) := by rw [Nat.pow_succ, Nat.mul_comm]
    have p1 : 2 ^ a.dep ≤ 2 ^ (max a.dep b.dep) := Nat.pow_le_pow_right (by decide) (Nat.le_max_left ..)
    have p2 : 2 ^ b.dep ≤ 2 ^ (max a.dep b.dep) := Nat.pow_le_pow_right (by decide) (Nat.le_max_right ..)
    refine ⟨?_, ?_, ?_, ?_⟩
    · show (_ && (a.d.ok && (b.d.ok && _))) = true
      rw [e, a1, b1]; rfl
    · show (true && (a.d.sho && (b.d.sho && _))) = true
      rw [a2, b2]; rfl
    · show D.dep (.tup [.str "both", a.d, b.d]) ≤ max a.dep b.dep + 1
      simp only [D.dep, D.deps]; omega
    · show D.wid (.tup [.str "both", a.d, b.d]) + 100 ≤ 2400 * 2 ^ (max a.dep b.dep + 1)
      simp only [D.wid, D.wids, e']; omega
  | .eith a b, h => by
    obtain ⟨a1, a2, a3, a4⟩ := cl_parts a h.1
    obtain ⟨b1, b2, b3, b4⟩ := cl_parts b h.2
    have e : (D.str "either").ok = true := by decide +kernel
    have e' : ("either" : Str).length = 6 := by decide
    have p : 2 ^ (max a.dep b.dep + 1) = 2 * 2 ^ (max a.dep b.dep) := by rw [Nat.pow_succ, Nat.mul_comm]
    have p1 : 2 ^ a.dep ≤ 2 ^ (max a.dep b.dep) := Nat.pow_le_pow_right (by decide) (Nat.le_max_left ..)
    have p2 : 2 ^ b.dep ≤ 2 ^ (max a.dep b.dep) := Nat.pow_le_pow_right (by decide) (Nat.le_max_right ..)
    refine ⟨?_, ?_, ?_, ?_⟩
    · show (_ && (a.d.ok && (b.d.ok && _))) = true
      rw [e, a1, b1]; rfl
    · show (true && (a.d.sho && (b.d.sho && _))) = true
      rw [a2, b2]; rfl
    · show D.dep (.tup [.str "either", a.d, b.d]) ≤ max a.dep b.dep + 1
      simp only [D.dep, D.deps]; omega
    · show D.wid (.tup [.str "either", a.d, b.d]) + 100 ≤ 2400 * 2 ^ (max a.dep b.dep + 1)
      simp only [D.wid, D.wids, e']; omega
  | .odd _, h => h.elim
theorem cl_tel {c : Cl} (h : c.good) (hd : c.dep ≤ 8) : c.d.tel = true := by
  obtain ⟨a, b, c1, d⟩ := cl_parts c h
  have p : 2 ^ c.dep ≤ 2 ^ 8 := Nat.pow_le_pow_right (by decide) hd
  have q : (2 : Nat) ^ 8 = 256 := rfl
  exact tel_iff.mpr ⟨a, b, by omega, by omega⟩
theorem cl_shp {c : Cl} (h : c.good) (hd : c.dep ≤ 8) : c.d.shp = true := by
  obtain ⟨a, b, c1, d⟩ := cl_parts c h
  unfold D.shp
  rw [a, decide_eq_true (by omega)]; rfl
end K00
end L3

set_option Elab.async false
set_option linter.all false
set_option maxRecDepth 100000
set_option autoImplicit false
set_option maxHeartbeats 0
namespace L3
namespace K00
open PySem PySem.Spec L2
open PyProof.Rows (b2i)
/-! ### check_claim -/
def wtD (p : Cl × Int) : D := .tup [p.1.d, .int p.2]
def Cl.size : Cl → Nat
  | .neg a => a.size + 1
  | .both a b => a.size + b.size + 1
  | .eith a b => a.size + b.size + 1
  | _ => 1
def wsum (ws : List (Cl × Int)) : Nat := (ws.map fun p => p.1.size).sum
theorem wsum_snoc (ws : List (Cl × Int)) (p : Cl × Int) : wsum (ws ++ [p]) = wsum ws + p.1.size := by simp [wsum]
theorem size_le : ∀ f : Cl, f.size + 1 ≤ 2 ^ f.dep
  | .shown _ _ => by show 1 + 1 ≤ 2 ^ 1; decide
  | .armed _ => by show 1 + 1 ≤ 2 ^ 1; decide
  | .waits _ => by show 1 + 1 ≤ 2 ^ 1; decide
  | .foc => by show 1 + 1 ≤ 2 ^ 1; decide
  | .odd _ => by show 1 + 1 ≤ 2 ^ 1; decide
  | .neg a => by
    have h1 := size_le a
    show a.size + 1 + 1 ≤ 2 ^ (a.dep + 1)
    rw [Nat.pow_succ]
    have : 1 ≤ 2 ^ a.dep := Nat.one_le_pow _ _ (by decide)
    omega
  | .both a b => by
    have h1 := size_le a
    have h2 := size_le b
    show a.size + b.size + 1 + 1 ≤ 2 ^ (max a.dep b.dep + 1)
    have e1 : 2 ^ a.dep ≤ 2 ^ (max a.dep b.dep) := Nat.pow_le_pow_right (by decide) (by omega)
    have e2 : 2 ^ b.dep ≤ 2 ^ (max a.dep b.dep) := Nat.pow_le_pow_right (by decide) (by omega)
    rw [Nat.pow_succ]
    omega
  | .eith a b => by
    have h1 := size_le a
    have h2 := size_le b
    show a.size + b.size + 1 + 1 ≤ 2 ^ (max a.dep b.dep + 1)
    have e1 : 2 ^ a.dep ≤ 2 ^ (max a.dep b.dep) := Nat.pow_le_pow_right (by decide) (by omega)
    have e2 : 2 ^ b.dep ≤ 2 ^ (max a.dep b.dep) := Nat.pow_le_pow_right (by decide) (by omega)
    rw [Nat.pow_succ]
    omega
theorem size_pos (f : Cl) : 1 ≤ f.size := by cases f <;> simp [Cl.size]
theorem wsum_len : ∀ ws : List (Cl × Int), ws.length ≤ wsum ws
  | [] => Nat.le_refl _
  | p :: ws => by
    have := wsum_len ws
    have := size_pos p.1
    simp [wsum] at *
    omega
theorem pop_last (X : List D) (d : D) : (X ++ [d])[(X ++ [d]).length - 1]? = some d := by simp
def bads (ws : List (Cl × Int)) : Option D := ws.foldl (fun acc p => p.1.bad.or acc) none
def dpt (ws : List (Cl × Int)) : Int := ws.foldl (fun m p => max m (p.2 + p.1.dep - 1)) 0
theorem bads_snoc (ws : List (Cl × Int)) (p : Cl × Int) : bads (ws ++ [p]) = p.1.bad.or (bads ws) := by unfold bads; rw [List.foldl_append]; rfl
theorem dpt_snoc (ws : List (Cl × Int)) (p : Cl × Int) : dpt (ws ++ [p]) = max (dpt ws) (p.2 + p.1.dep - 1) := by unfold dpt; rw [List.foldl_append]; rfl
/-- what comes of a claim: nothing, or a part that is told of -/
def Cl.res (c : Cl) (N : Prop) (X : D → Prop) : Prop := match c.bad with
  | some d => X d
  | none => if c.dep ≤ 5 then N else X c.d
def sx_check_claim (A : Ad) : SX := fun ds QR _ QX => ∃ c : Cl, ds = [c.d] ∧ c.fine ∧ c.dep ≤ 8 ∧ c.res (QR .non ds) fun d => QX A.BadClaim [("part", d)] ds
def b_check_claim_l1c3l2 (A : Ad) : T3S := (sDrop (eBM "list" mAppend (eVar 1) (aCons (eTup (aCons (eOp oIdx (eVar 3) (eVar 5)) (aCons (eOp oAdd (eVar 4) (eC (.int 1))) aNil))) aNil)))
def b_check_claim_l1t3 (A : Ad) (X3 : E3X) : T3S := (sIf (fTst (eOp (oIn false) (eOp oIdx (eVar 3) (eC (.int 0))) (eC (.tup ((["not", "both", "either"] : List Str).map D.str)))))
 (sFor (iRm (aCons (eOp (oI0 fun i j => .int (i - j)) (eCB cLen (aCons (eVar 3) aNil)) (eC (.int 1))) (aCons (eC (.int 0)) (aCons (eNeg (eC (.int 1))) aNil)))) (gN 5)
 (b_check_claim_l1c3l2 A))
 sNext)
def b_check_claim_l1t2 (A : Ad) (X3 : E3X) : T3S := (sSeq (sIf (fTst (eOp oGt (eVar 4) (eVar 2)))
 (sAsg (eVar 4) (gN 2))
 sNext)
 (b_check_claim_l1t3 A X3))
def b_check_claim_l1t1 (A : Ad) (X3 : E3X) : T3S := (sSeq (sIf (fNot (fTru (eCall [.shr] (sp_is_claim_part A) (aCons (eVar 3) aNil))))
 (sRaiseX A.BadClaim (fl1 "part" false) (aCons (eVar 3) aNil) X3)
 sNext)
 (b_check_claim_l1t2 A X3))
def b_check_claim_l1 (A : Ad) (X3 : E3X) : T3S := (sSeq (sAsg (eBM0 "list" mPop (eVar 1)) (gT 2 (fun xs ρ Q => match xs with | x :: r => (gN 3) x ρ fun ρ1 => (fun xs ρ Q => match xs with | x :: r => (gN 4) x ρ fun ρ1 => (fun xs ρ Q => xs = [] ∧ Q ρ) r ρ1 Q | [] => False) r ρ1 Q | [] => False)))
 (b_check_claim_l1t1 A X3))
def b_check_claim_t3 (A : Ad) (X3 : E3X) : T3S := (sIf (fTst (eOp oGt (eVar 2) (eC (.int 5))))
 (sRaiseX A.BadClaim (fl1 "part" false) (aCons (eVar 0) aNil) X3)
 sNext)
def b_check_claim_t2 (A : Ad) (X3 : E3X) : T3S := (sSeq (sWhile (fTru (eVar 1))
 (b_check_claim_l1 A X3))
 (b_check_claim_t3 A X3))
def b_check_claim_t1 (A : Ad) (X3 : E3X) : T3S := (sSeq (sAsg (eC (.int 1)) (gN 2))
 (b_check_claim_t2 A X3))
def b_check_claim (A : Ad) : E3X → T3S := fun X3 => (sSeq (sAsgO (oLst (aCons (eTup (aCons (eVar 0) (aCons (eC (.int 1)) aNil))) aNil)) 1)
 (b_check_claim_t1 A X3))
theorem sNBEt : (D.tup [.str "not", .str "both", .str "either"]).shp = true := by decide +kernel
theorem fl_part {d : D} (h : d.tel = true) : fl1 "part" false [d] = some [(("part" : Str), d)] := if_pos h
theorem t_check_claim (A : Ad) : ∀ ds QR QO QX, sx_check_claim A ds QR QO QX → ds.length = 1 → b_check_claim A (endX [.shr] ds QX) (endE [.shr] ds QR QO) (startE 5 [.shr] ds) := by
  rintro ds QR QO QX ⟨c, rfl, hg, hd, h⟩ _
  refine ⟨sz _ rfl, sz _ rfl, rfl, rfl, ?_⟩
  show b_check_claim_t2 A _ _ [.shr c.d, .own (.lst [wtD (c, 1)]), .shr (.int 1), .emp, .emp, .emp]
  have cp := c.dep_pos
  refine ⟨fun m ρ => ∃ (ws : List (Cl × Int)) (deep : Int) (s3 s4 s5 : Sl), s3.locked = false ∧ s4.locked = false ∧ s5.locked = false ∧ (∀ p ∈ ws, p.1.fine) ∧ bads ws = c.bad ∧ max deep (dpt ws) = c.dep ∧ wsum ws = m ∧ m ≤ 900 ∧ ρ = [.shr c.d, .own (.lst (ws.map wtD)), .shr (.int deep), s3, s4, s5], ⟨c.size, [(c, 1)], 1, .emp, .emp, .emp, rfl, rfl, rfl, ?_, ?_, ?_, by simp [wsum], ?_, rfl⟩, ?_⟩
  · intro p hp
    rw [List.mem_singleton.mp hp]
    exact hg
  · show c.bad.or none = c.bad
    simp
  · show max (1 : Int) (max 0 (1 + c.dep - 1)) = c.dep
    omega
  · have h1 := size_le c
    have h2 : 2 ^ c.dep ≤ 2 ^ 8 := Nat.pow_le_pow_right (by decide) hd
    have h3 : (2 : Nat) ^ 8 = 256 := by decide
    omega
  · rintro m ρ ⟨ws, deep, s3, s4, s5, h3, h4, h5, hws, hbad, hdp, hm, hm2, rfl⟩
    rcases List.eq_nil_or_concat ws with rfl | ⟨ws', p, rfl⟩
    · have hb : c.bad = none := hbad.symm
      have hdp : max deep 0 = (c.dep : Int) := hdp
      unfold Cl.res at h
      rw [hb] at h
      show b_check_claim_t3 A (endX [.shr] [c.d] QX) (endE [.shr] [c.d] QR QO) [.shr c.d, .own (.lst []), .shr (.int deep), s3, s4, s5]
      refine ifs (fun z => ?_) fun z => ?_
      · have z : (5 : Int) < deep := of_decide_eq_true z
        have h : if c.dep ≤ 5 then QR .non [c.d] else QX A.BadClaim [("part", c.d)] [c.d] := h
        rw [if_neg (by omega)] at h
        exact ⟨(by decide : 1 ≤ 1000), wo_in (fl_part (cl_tel (fine_good c hg hb) hd)) h⟩
      · have z : ¬ (5 : Int) < deep := fun q => z (decide_eq_true q)
        have h : if c.dep ≤ 5 then QR .non [c.d] else QX A.BadClaim [("part", c.d)] [c.d] := h
        rw [if_pos (by omega)] at h
        exact h
    · rw [List.concat_eq_append] at hws hm hbad hdp ⊢
      rw [List.map_append]
      obtain ⟨g, lv⟩ := p
      have gf : g.fine := hws (g, lv) (by simp)
      rw [bads_snoc] at hbad
      rw [dpt_snoc] at hdp
      have hbad : g.bad.or (bads ws') = c.bad := hbad
      have hdp : max deep (max (dpt ws') (lv + (g.dep : Nat) - 1)) = (c.dep : Nat) := hdp
      have hws' : ∀ p ∈ ws', p.1.fine := fun p hp => hws p (List.mem_append_left _ hp)
      have hm : wsum ws' + g.size = m := by rw [wsum_snoc] at hm; exact hm
      have gp := g.dep_pos
      have hlen : (ws'.map wtD).length ≤ 900 := by
        have := wsum_len ws'
        rw [List.length_map]; omega
      have ne : (!(ws'.map wtD ++ List.map wtD [(g, lv)]).isEmpty) = true := by simp
      refine ift ne ?_
      refine ⟨rfl, ?_⟩
      refine wo_in (x := wtD (g, lv)) (pop_last _ _) ⟨rfl, unF h3, unF h4, rfl, ?_⟩
      show b_check_claim_l1t1 A _ { nx := _, rt := _, ro := _, bk := _, ct := _ } [.shr c.d, .own (.lst (ws'.map wtD ++ [wtD (g, lv)]).dropLast), .shr (.int deep), .shr g.d, .shr (.int lv), s5]
      rw [List.dropLast_concat]
      by_cases ho : ∃ d, g = .odd d
      · obtain ⟨d, rfl⟩ := ho
        have hb : c.bad = some d := hbad.symm
        unfold Cl.res at h
        rw [hb] at h
        have gf : d ∈ odds := gf
        refine ⟨rfl, d, false, rfl, .inr ⟨gf, rfl⟩, ?_⟩
        exact ⟨(by decide : 1 ≤ 1000), wo_in (fl_part (odds_tel gf)) h⟩
      have hn : g.node := by
        cases g with
        | odd d => exact (ho ⟨d, rfl⟩).elim
        | shown l n => exact gf
        | armed w => exact gf
        | waits n => exact gf
        | foc => trivial
        | neg a => trivial
        | both a b => trivial
        | eith a b => trivial
      refine ⟨rfl, g.d, true, rfl, .inl ⟨g, hn, rfl, rfl⟩, ?_⟩
      show b_check_claim_l1t2 A _ { nx := _, rt := _, ro := _, bk := _, ct := _ } [.shr c.d, .own (.lst (ws'.map wtD)), .shr (.int deep), .shr g.d, .shr (.int lv), s5]
      have rest : ∀ (deep : Int), max deep (max (dpt ws') (lv + (g.dep : Nat) - 1)) = (c.dep : Nat) → lv ≤ deep → ∀ (X3 : E3X) (E : E3), (∀ (ws : List (Cl × Int)) (s5 : Sl), s5.locked = false → (∀ p ∈ ws, p.1.fine) → bads ws = c.bad → max deep (dpt ws) = (c.dep : Nat) → wsum ws + 1 = m → E.nx [.shr c.d, .own (.lst (ws.map wtD)), .shr (.int deep), .shr g.d, .shr (.int lv), s5]) →
          b_check_claim_l1t3 A X3 E [.shr c.d, .own (.lst (ws'.map wtD)), .shr (.int deep), .shr g.d, .shr (.int lv), s5] := by
        intro deep hdp hlv X3 E hE
        have sl : ∀ n, n ≤ 1000 → n < sizeLine := fun n h => by rw [sizeLine_eq]; omega
        cases g with
        | shown l n => exact ⟨sShown, sNBEt, hE ws' s5 h5 hws' hbad (by have : max deep (max (dpt ws') (lv + (1 : Nat) - 1)) = (c.dep : Nat) := hdp; omega) (by simpa [Cl.size] using hm)⟩
        | armed w => exact ⟨sArmed, sNBEt, hE ws' s5 h5 hws' hbad (by have : max deep (max (dpt ws') (lv + (1 : Nat) - 1)) = (c.dep : Nat) := hdp; omega) (by simpa [Cl.size] using hm)⟩
        | waits n => exact ⟨sWaits, sNBEt, hE ws' s5 h5 hws' hbad (by have : max deep (max (dpt ws') (lv + (1 : Nat) - 1)) = (c.dep : Nat) := hdp; omega) (by simpa [Cl.size] using hm)⟩
        | foc => exact ⟨sFoc, sNBEt, hE ws' s5 h5 hws' hbad (by have : max deep (max (dpt ws') (lv + (1 : Nat) - 1)) = (c.dep : Nat) := hdp; omega) (by simpa [Cl.size] using hm)⟩
        | odd d => exact (ho ⟨d, rfl⟩).elim
        | neg a =>
          have hdp : max deep (max (dpt ws') (lv + (a.dep + 1 : Nat) - 1)) = (c.dep : Nat) := hdp
          have hbad : a.bad.or (bads ws') = c.bad := hbad
          have ap := a.dep_pos
          refine ⟨sNot, sNBEt, rfl, ⟨by show (-(2 ^ 62) : Int) ≤ 1; decide, by show (1 : Int) < 2 ^ 62; decide, by decide, by decide⟩, unF h5, rfl, sz _ rfl, sl _ (by omega), trivial, ?_⟩
          have := hE (ws' ++ [(a, lv + 1)]) (.shr (.int 1)) rfl ?_ ?_ ?_ ?_
          · rw [List.map_append] at this
            exact this
          · intro p hp
            rcases List.mem_append.mp hp with hp | hp
            · exact hws' p hp
            · rw [List.mem_singleton.mp hp]; exact gf
          · rw [bads_snoc]; exact hbad
          · rw [dpt_snoc]
            show max deep (max (dpt ws') (lv + 1 + (a.dep : Nat) - 1)) = _
            omega
          · simp [wsum, Cl.size] at hm ⊢; omega
        | both a b =>
          have hdp : max deep (max (dpt ws') (lv + (max a.dep b.dep + 1 : Nat) - 1)) = (c.dep : Nat) := hdp
          have hbad : (a.bad.or b.bad).or (bads ws') = c.bad := hbad
          have ap := a.dep_pos
          have bp := b.dep_pos
          have hl3 : (ws'.map wtD).length + 1 ≤ 1000 := by omega
          refine ⟨sBoth, sNBEt, rfl, ⟨by show (-(2 ^ 62) : Int) ≤ 2; decide, by show (2 : Int) < 2 ^ 62; decide, by decide, by decide⟩, unF h5, rfl, sz _ rfl, sl _ (by omega), rfl, rfl, sz _ rfl, sl _ (by rw [List.length_append]; exact hl3), trivial, ?_⟩
          have := hE (ws' ++ [(b, lv + 1), (a, lv + 1)]) (.shr (.int 1)) rfl ?_ ?_ ?_ ?_
          · rw [List.map_append] at this
            rw [List.append_assoc]
            exact this
          · intro p hp
            rcases List.mem_append.mp hp with hp | hp
            · exact hws' p hp
            · simp only [List.mem_cons, List.not_mem_nil, or_false] at hp
              rcases hp with rfl | rfl
              · exact gf.2
              · exact gf.1
          · rw [show ws' ++ [(b, lv + 1), (a, lv + 1)] = (ws' ++ [(b, lv + 1)]) ++ [(a, lv + 1)] by simp, bads_snoc, bads_snoc, ← hbad, Option.or_assoc]
          · rw [show ws' ++ [(b, lv + 1), (a, lv + 1)] = (ws' ++ [(b, lv + 1)]) ++ [(a, lv + 1)] by simp, dpt_snoc, dpt_snoc]
            show max deep (max (max (dpt ws') (lv + 1 + (b.dep : Nat) - 1)) (lv + 1 + (a.dep : Nat) - 1)) = _
            omega
          · simp [wsum, Cl.size] at hm ⊢; omega
        | eith a b =>
          have hdp : max deep (max (dpt ws') (lv + (max a.dep b.dep + 1 : Nat) - 1)) = (c.dep : Nat) := hdp
          have hbad : (a.bad.or b.bad).or (bads ws') = c.bad := hbad
          have ap := a.dep_pos
          have bp := b.dep_pos
          have hl3 : (ws'.map wtD).length + 1 ≤ 1000 := by omega
          refine ⟨sEith, sNBEt, rfl, ⟨by show (-(2 ^ 62) : Int) ≤ 2; decide, by show (2 : Int) < 2 ^ 62; decide, by decide, by decide⟩, unF h5, rfl, sz _ rfl, sl _ (by omega), rfl, rfl, sz _ rfl, sl _ (by rw [List.length_append]; exact hl3), trivial, ?_⟩
          have := hE (ws' ++ [(b, lv + 1), (a, lv + 1)]) (.shr (.int 1)) rfl ?_ ?_ ?_ ?_
          · rw [List.map_append] at this
            rw [List.append_assoc]
            exact this
          · intro p hp
            rcases List.mem_append.mp hp with hp | hp
            · exact hws' p hp
            · simp only [List.mem_cons, List.not_mem_nil, or_false] at hp
              rcases hp with rfl | rfl
              · exact gf.2
              · exact gf.1
          · rw [show ws' ++ [(b, lv + 1), (a, lv + 1)] = (ws' ++ [(b, lv + 1)]) ++ [(a, lv + 1)] by simp, bads_snoc, bads_snoc, ← hbad, Option.or_assoc]
          · rw [show ws' ++ [(b, lv + 1), (a, lv + 1)] = (ws' ++ [(b, lv + 1)]) ++ [(a, lv + 1)] by simp, dpt_snoc, dpt_snoc]
            show max deep (max (max (dpt ws') (lv + 1 + (b.dep : Nat) - 1)) (lv + 1 + (a.dep : Nat) - 1)) = _
            omega
          · simp [wsum, Cl.size] at hm ⊢; omega
      refine ifs (fun z => ?_) fun z => ?_
      · have z : lv > deep := of_decide_eq_true z
        refine ⟨rfl, rest lv (by omega) (Int.le_refl _) (endX [.shr] [c.d] QX) _ fun ws s5 h5 h6 h7 h8 h9 => ?_⟩
        exact ⟨wsum ws, by omega, ws, lv, .shr g.d, .shr (.int lv), s5, rfl, rfl, h5, h6, h7, h8, rfl, by omega, rfl⟩
      · have z : ¬ lv > deep := fun q => z (decide_eq_true q)
        refine rest deep hdp (by omega) (endX [.shr] [c.d] QX) _ fun ws s5 h5 h6 h7 h8 h9 => ?_
        exact ⟨wsum ws, by omega, ws, deep, .shr g.d, .shr (.int lv), s5, rfl, rfl, h5, h6, h7, h8, rfl, by omega, rfl⟩
end K00
end L3

set_option Elab.async false
set_option linter.all false
set_option maxRecDepth 100000
set_option autoImplicit false
set_option maxHeartbeats 0
namespace L3
namespace K00
open PySem PySem.Spec L2
open PyProof.Rows (b2i)
/-! ### Claim -/
def cO (A : Ad) (c : Cl) : D := .obj A.Claim [("_parts", c.d)]
theorem bx_good : ∀ {c : Cl}, c.good → c.d.isBx = false
  | .shown _ _, _ => rfl
  | .armed _, _ => rfl
  | .waits _, _ => rfl
  | .foc, _ => rfl
  | .neg _, _ => rfl
  | .both _ _, _ => rfl
  | .eith _ _, _ => rfl
  | .odd _, h => h.elim
theorem res_mono {c : Cl} {N N' : Prop} {X X' : D → Prop} (h : c.res N X) (hN : c.good → N → N') (hX : ∀ d, X d → X' d) (hf : c.fine) : c.res N' X' := by
  unfold Cl.res at *
  cases hb : c.bad with
  | some d => rw [hb] at h; exact hX d h
  | none =>
    rw [hb] at h
    have h : if c.dep ≤ 5 then N else X c.d := h
    show if c.dep ≤ 5 then N' else X' c.d
    by_cases z : c.dep ≤ 5
    · rw [if_pos z] at h ⊢; exact hN (fine_good c hf hb) h
    · rw [if_neg z] at h ⊢; exact hX _ h
theorem res_good {c : Cl} {N : Prop} {X : D → Prop} (hg : c.good) (hd : c.dep ≤ 5) (h : N) : c.res N X := by
  unfold Cl.res
  rw [(good_fine c hg).2]
  show if c.dep ≤ 5 then N else X c.d
  rw [if_pos hd]; exact h
def sx_Claim___init__ (A : Ad) : SX := fun ds QR _ QX => ∃ c : Cl, ds = [.obj A.Claim [], c.d] ∧ c.fine ∧ c.dep ≤ 8 ∧ c.res (QR .non [cO A c, c.d]) fun d => QX A.BadClaim [("part", d)] [.obj A.Claim [], c.d]
def sp_Claim___init__ (A : Ad) : S3 := fun ds QR QO => sx_Claim___init__ A ds QR QO fun _ _ _ => False
def b_Claim___init___t1 (A : Ad) (X3 : E3X) : T3S := (sFldP A.Claim "_parts" (eVar 1) (eVar 0))
def b_Claim___init__ (A : Ad) : E3X → T3S := fun X3 => (sSeq (sDrop (eCallX [.shr] (sx_check_claim A) (aCons (eVar 1) aNil) X3))
 (b_Claim___init___t1 A X3))
theorem t_Claim___init__ (A : Ad) : ∀ ds QR QO QX, sx_Claim___init__ A ds QR QO QX → ds.length = 2 → b_Claim___init__ A (endX [.par, .shr] ds QX) (endE [.par, .shr] ds QR QO) (startE 0 [.par, .shr] ds) := by
  rintro ds QR QO QX ⟨c, rfl, hf, hd, h⟩ _
  refine ⟨rfl, c, rfl, hf, hd, res_mono h (fun hg h => ?_) (fun d h => h) hf⟩
  exact ⟨rfl, by decide, h⟩
def sp_Claim_parts (A : Ad) : S3 := fun ds QR _ => ∃ c : Cl, ds = [cO A c] ∧ c.good ∧ QR c.d ds
def b_Claim_parts (A : Ad) : T3S := (sRet (eFld A.Claim "_parts" (eVar 0)))
theorem t_Claim_parts (A : Ad) : ∀ ds QR QO, sp_Claim_parts A ds QR QO → ds.length = 1 → b_Claim_parts A (endE [.shr] ds QR QO) (startE 0 [.shr] ds) := by
  rintro ds QR QO ⟨c, rfl, hg, h⟩ _
  exact ⟨rfl, bx_good hg, h⟩
def sp_Claim___call__ (A : Ad) : S3 := fun ds QR _ => ∃ (c : Cl) (k : Lk), ds = [cO A c, k.d] ∧ c.good ∧ c.dep ≤ 7 ∧ k.ok ∧ QR (.bl (c.holds k)) ds
def b_Claim___call__ (A : Ad) : T3S := (sRet (eCall [.shr, .shr] (sp_holds_of A) (aCons (eFld A.Claim "_parts" (eVar 0)) (aCons (eVar 1) aNil))))
theorem t_Claim___call__ (A : Ad) : ∀ ds QR QO, sp_Claim___call__ A ds QR QO → ds.length = 2 → b_Claim___call__ A (endE [.shr, .shr] ds QR QO) (startE 0 [.shr, .shr] ds) := by
  rintro ds QR QO ⟨c, k, rfl, hg, hd, hk, h⟩ _
  exact ⟨rfl, bx_good hg, rfl, c, k, rfl, hg, hk, hd, h⟩
def sp_Claim___and__ (A : Ad) : S3 := fun ds QR _ => ∃ a b : Cl, ds = [cO A a, cO A b] ∧ a.good ∧ b.good ∧ a.dep ≤ 4 ∧ b.dep ≤ 4 ∧ QR (cO A (.both a b)) ds
def b_Claim___and__ (A : Ad) : T3S := (sRet (eShr (oMake A.Claim [.shr] (sp_Claim___init__ A) (aCons (eTup (aCons (eC (.str "both")) (aCons (eFld A.Claim "_parts" (eVar 0)) (aCons (eProp A.Claim .shr (sp_Claim_parts A) (eVar 1)) aNil)))) aNil))))
theorem t_Claim___and__ (A : Ad) : ∀ ds QR QO, sp_Claim___and__ A ds QR QO → ds.length = 2 → b_Claim___and__ A (endE [.shr, .shr] ds QR QO) (startE 0 [.shr, .shr] ds) := by
  rintro ds QR QO ⟨a, b, rfl, ha, hb, da, db, h⟩ _
  have dd : (Cl.both a b).dep ≤ 5 := by show max a.dep b.dep + 1 ≤ 5; omega
  exact ⟨rfl, bx_good ha, rfl, rfl, b, rfl, hb, sz 3 rfl, rfl, .both a b, rfl, (good_fine (.both a b) ⟨ha, hb⟩).1, by omega, res_good (c := .both a b) ⟨ha, hb⟩ dd ⟨rfl, h⟩⟩
def sp_Claim___or__ (A : Ad) : S3 := fun ds QR _ => ∃ a b : Cl, ds = [cO A a, cO A b] ∧ a.good ∧ b.good ∧ a.dep ≤ 4 ∧ b.dep ≤ 4 ∧ QR (cO A (.eith a b)) ds
def b_Claim___or__ (A : Ad) : T3S := (sRet (eShr (oMake A.Claim [.shr] (sp_Claim___init__ A) (aCons (eTup (aCons (eC (.str "either")) (aCons (eFld A.Claim "_parts" (eVar 0)) (aCons (eProp A.Claim .shr (sp_Claim_parts A) (eVar 1)) aNil)))) aNil))))
theorem t_Claim___or__ (A : Ad) : ∀ ds QR QO, sp_Claim___or__ A ds QR QO → ds.length = 2 → b_Claim___or__ A (endE [.shr, .shr] ds QR QO) (startE 0 [.shr, .shr] ds) := by
  rintro ds QR QO ⟨a, b, rfl, ha, hb, da, db, h⟩ _
  have dd : (Cl.eith a b).dep ≤ 5 := by show max a.dep b.dep + 1 ≤ 5; omega
  exact ⟨rfl, bx_good ha, rfl, rfl, b, rfl, hb, sz 3 rfl, rfl, .eith a b, rfl, (good_fine (.eith a b) ⟨ha, hb⟩).1, by omega, res_good (c := .eith a b) ⟨ha, hb⟩ dd ⟨rfl, h⟩⟩
def sp_Claim___invert__ (A : Ad) : S3 := fun ds QR _ => ∃ a : Cl, ds = [cO A a] ∧ a.good ∧ a.dep ≤ 4 ∧ QR (cO A (.neg a)) ds
def b_Claim___invert__ (A : Ad) : T3S := (sRet (eShr (oMake A.Claim [.shr] (sp_Claim___init__ A) (aCons (eTup (aCons (eC (.str "not")) (aCons (eFld A.Claim "_parts" (eVar 0)) aNil))) aNil))))
theorem t_Claim___invert__ (A : Ad) : ∀ ds QR QO, sp_Claim___invert__ A ds QR QO → ds.length = 1 → b_Claim___invert__ A (endE [.shr] ds QR QO) (startE 0 [.shr] ds) := by
  rintro ds QR QO ⟨a, rfl, ha, da, h⟩ _
  have dd : (Cl.neg a).dep ≤ 5 := by show a.dep + 1 ≤ 5; omega
  exact ⟨rfl, bx_good ha, sz 2 rfl, rfl, .neg a, rfl, (good_fine (.neg a) ha).1, by omega, res_good (c := .neg a) ha dd ⟨rfl, h⟩⟩
def sp_Claim___eq__ (A : Ad) : S3 := fun ds QR _ => ∃ (a b : Cl) (r : Bool), ds = [cO A a, cO A b] ∧ a.good ∧ b.good ∧ a.dep ≤ 8 ∧ b.dep ≤ 8 ∧ D.eqv a.d b.d = r ∧ QR (.bl r) ds
def b_Claim___eq__ (A : Ad) : T3S := (sRet (eAnd (eCB (cIsC A.Claim) (aCons (eVar 1) (aCons (eC (.cls A.Claim)) aNil))) (eOp (oEq false) (eProp A.Claim .shr (sp_Claim_parts A) (eVar 0)) (eProp A.Claim .shr (sp_Claim_parts A) (eVar 1)))))
theorem t_Claim___eq__ (A : Ad) : ∀ ds QR QO, sp_Claim___eq__ A ds QR QO → ds.length = 2 → b_Claim___eq__ A (endE [.shr, .shr] ds QR QO) (startE 0 [.shr, .shr] ds) := by
  rintro ds QR QO ⟨a, b, _, rfl, ha, hb, da, db, rfl, h⟩ _
  exact ⟨⟨rfl, rfl⟩, rfl, rfl, a, rfl, ha, rfl, rfl, b, rfl, hb, cl_shp ha da, cl_shp hb db, h⟩
/-! ### the law's helpers -/
def sp__law_same (A : Ad) : S3 := fun ds QR _ => ∃ (x y : D) (b : Bool), ds = [x, y] ∧ (∃ xs, x = .tup xs) ∧ (∃ ys, y = .tup ys) ∧ x.tel = true ∧ y.tel = true ∧ decide (x.toP.shown = y.toP.shown) = b ∧ QR (.bl b) ds
def b__law_same (A : Ad) : T3S := (sRet (eOp oEqT (eCB cRepr (aCons (eVar 0) aNil)) (eCB cRepr (aCons (eVar 1) aNil))))
theorem t__law_same (A : Ad) : ∀ ds QR QO, sp__law_same A ds QR QO → ds.length = 2 → b__law_same A (endE [.shr, .shr] ds QR QO) (startE 0 [.shr, .shr] ds) := by
  rintro ds QR QO ⟨x, y, _, rfl, ⟨xs, rfl⟩, ⟨ys, rfl⟩, h1, h2, rfl, h⟩ _
  exact ⟨tel_iff.mp h1, tel_iff.mp h2, h⟩
def sp__law_tells (A : Ad) : S3 := fun ds QR _ => ∃ (c : Cl) (k : Lk) (b : Bool), ds = [cO A c, k.d, .bl b] ∧ c.good ∧ c.dep ≤ 7 ∧ k.ok ∧ c.holds k = b ∧ QR (.bl true) ds
def b__law_tells_t1 (A : Ad) : T3S := (sRet (eAnd (eCB cIsi (aCons (eVar 3) (aCons (eC (.ty "bool")) aNil))) (eOp (oEq false) (eVar 3) (eVar 2))))
def b__law_tells (A : Ad) : T3S := (sSeq (sAsg (eCallI A.Claim [.shr, .shr] (sp_Claim___call__ A) (eVar 0) (aCons (eVar 1) aNil)) (gN 3))
 (b__law_tells_t1 A))
theorem t__law_tells (A : Ad) : ∀ ds QR QO, sp__law_tells A ds QR QO → ds.length = 3 → b__law_tells A (endE [.shr, .shr, .shr] ds QR QO) (startE 1 [.shr, .shr, .shr] ds) := by
  rintro ds QR QO ⟨c, k, b, rfl, hg, hd, hk, e, h⟩ _
  refine ⟨rfl, rfl, c, k, rfl, hg, hd, hk, rfl, rfl, rfl, rfl, ?_⟩
  show QR (.bl (c.holds k == b)) _
  have : (c.holds k == b) = true := by rw [e]; exact beq_self_eq_true b
  rw [this]; exact h
def sx__law_refused (A : Ad) : SX := fun ds QR _ _ => ∃ c : Cl, ds = [c.d] ∧ c.fine ∧ c.dep ≤ 8 ∧ c.res (QR (.tup [.str "none", .non]) ds) fun d => QR (.tup [.str "BadClaim", d]) ds
def sp__law_refused (A : Ad) : S3 := fun ds QR QO => sx__law_refused A ds QR QO fun _ _ _ => False
def b__law_refused_c1 (A : Ad) (X3 : E3X) : T3S := (sDrop (eMakeX A.Claim [.shr] (sx_Claim___init__ A) (aCons (eVar 0) aNil) X3))
def b__law_refused_e1t1 (A : Ad) (a dd C : Addr) : T3S := (sRet (eTup (aCons (eC (.str "BadClaim")) (aCons (eXf a dd C A.BadClaim "part" 1) aNil))))
def b__law_refused_e1 (A : Ad) (a dd C : Addr) : T3S := (sSeq (sIf (fOr (fNot (fTru (eCB (cIsX a dd C (kiT "ValueError" [(A.BadClaim, true)])) (aCons (eVar 1) (aCons (eC (.ty "ValueError")) aNil))))) (fOr (fNot (fTru (eCB (cIsX a dd C (kiC A.ScreenError [(A.BadClaim, true)])) (aCons (eVar 1) (aCons (eC (.cls A.ScreenError)) aNil))))) (fTru (eCB (cIsX a dd C (kiC A.BadForm [(A.BadClaim, false)])) (aCons (eVar 1) (aCons (eC (.cls A.BadForm)) aNil))))))
 (sRet (eTup (aCons (eC (.str "another")) (aCons (eC .non) aNil))))
 sNext)
 (b__law_refused_e1t1 A a dd C))
def b__law_refused_e2 (A : Ad) (a dd C : Addr) : T3S := (sRet (eTup (aCons (eC (.str "another")) (aCons (eC .non) aNil))))
def b__law_refused_t1 (A : Ad) (X3 : E3X) : T3S := (sRet (eTup (aCons (eC (.str "none")) (aCons (eC .non) aNil))))
def b__law_refused (A : Ad) : E3X → T3S := fun X3 => (sSeq (sTryX (fun X3 => (b__law_refused_c1 A X3))
 ((xh [(A.BadClaim, true)], 1, fun a dd C => (b__law_refused_e1 A a dd C)) :: ((xh [], 1, fun a dd C => (b__law_refused_e2 A a dd C)) :: [])) X3)
 (b__law_refused_t1 A X3))
theorem many_hit {Wo : E3X} {E : E3} {e : Addr → Option Bool} {i : Nat} {ts : Addr → Addr → Addr → T3S} {r : List Hd3} {C : Addr} {fs : List (Str × D)} {ρ : En} (h : e C = some true) (q : unl ρ i = true ∧ ∀ a dd, ts a dd C (suiteE E i) (ρ.set i (.shr (.exc a dd C fs)))) : xMany Wo E ((e, i, ts) :: r) C fs ρ := by
  show (match e C with | some true => unl ρ i = true ∧ ∀ a dd, ts a dd C (suiteE E i) (ρ.set i (.shr (.exc a dd C fs))) | some false => xMany Wo E r C fs ρ | none => False)
  rw [h]; exact q
theorem t__law_refused (A : Ad) : ∀ ds QR QO QX, sx__law_refused A ds QR QO QX → ds.length = 1 → b__law_refused A (endX [.shr] ds QX) (endE [.shr] ds QR QO) (startE 1 [.shr] ds) := by
  rintro ds QR QO QX ⟨c, rfl, hf, hd, h⟩ _
  refine ⟨rfl, c, rfl, hf, hd, res_mono h (fun _ h => ⟨rfl, sz 2 rfl, h⟩) (fun d h => ?_) hf⟩
  refine many_hit xh_1 ⟨rfl, fun a dd => ?_⟩
  refine ⟨⟨rfl, rfl, rfl⟩, wo_in (kiT_1.trans xh_1) ?_⟩
  refine ⟨⟨rfl, rfl, rfl⟩, wo_in (kiC_1.trans xh_1) ?_⟩
  refine ⟨⟨rfl, rfl, rfl⟩, wo_in (kiC_1.trans xh_1) ?_⟩
  exact ⟨⟨rfl, rfl, rfl, rfl⟩, sz 2 rfl, h⟩
end K00
end L3

set_option Elab.async false
set_option linter.all false
set_option maxRecDepth 100000
set_option autoImplicit false
set_option maxHeartbeats 0
namespace L3
namespace K00
open PySem PySem.Spec L2
open PyProof.Rows (b2i)
/-! ### drawn claims -/
def sp__law_drawn_claim' (n : Nat) : S3 := fun ds QR _ => ∃ (bag : D) (ls ws : List Str) (lv : Nat), ds = [bag, uD ls, uD ws, .int lv] ∧ isBag bag ∧ lbs ls ∧ wds ws ∧ (1 ≤ lv ∧ lv ≤ n) ∧ ∀ (c : Cl) bag', c.good → c.dep ≤ lv → isBag bag' → QR c.d [bag', uD ls, uD ws, .int lv]
def sp__law_drawn_claim (A : Ad) : S3 := sp__law_drawn_claim' 6
theorem z__law_drawn_claim : ∀ ds QR QO, ¬ sp__law_drawn_claim' 0 ds QR QO := by
  rintro ds QR QO ⟨bag, ls, ws, lv, _, _, _, _, ⟨h1, h2⟩, _⟩
  omega
def b__law_drawn_claim_c1t1 (A : Ad) (me : S3) : T3S := (sRet (eOp oIdx (eVar 5) (eCall [.par, .shr] (sp__law_pick A) (aCons (eVar 0) (aCons (eC (.int 5)) aNil)))))
def b__law_drawn_claim_t4 (A : Ad) (me : S3) : T3S := (sRet (eTup (aCons (eOp oIdx (eLst (aCons (eC (.str "both")) (aCons (eC (.str "either")) aNil))) (eOp (oI0 fun i j => .int (i - j)) (eOp (oI CDiv fun i j => .int (i / j)) (eVar 4) (eC (.int 2))) (eC (.int 2)))) (aCons (eVar 6) (aCons (eCall [.par, .shr, .shr, .shr] me (aCons (eVar 0) (aCons (eVar 1) (aCons (eVar 2) (aCons (eOp (oI0 fun i j => .int (i - j)) (eVar 3) (eC (.int 1))) aNil))))) aNil)))))
def b__law_drawn_claim_t3 (A : Ad) (me : S3) : T3S := (sSeq (sIf (fTst (eOp (oEq false) (eVar 4) (eC (.int 3))))
 (sRet (eTup (aCons (eC (.str "not")) (aCons (eVar 6) aNil))))
 sNext)
 (b__law_drawn_claim_t4 A me))
def b__law_drawn_claim_t2 (A : Ad) (me : S3) : T3S := (sSeq (sAsg (eCall [.par, .shr, .shr, .shr] me (aCons (eVar 0) (aCons (eVar 1) (aCons (eVar 2) (aCons (eOp (oI0 fun i j => .int (i - j)) (eVar 3) (eC (.int 1))) aNil))))) (gN 6))
 (b__law_drawn_claim_t3 A me))
def b__law_drawn_claim_t1 (A : Ad) (me : S3) : T3S := (sSeq (sIf (fOr (fTst (eOp oLe (eVar 3) (eC (.int 1)))) (fTst (eOp oLt (eVar 4) (eC (.int 3)))))
 (sSeq (sAsg (eLst (aCons (eTup (aCons (eC (.str "shown")) (aCons (eCall [.par, .shr] (sp__law_choice A) (aCons (eVar 0) (aCons (eVar 1) aNil))) (aCons (eOp oAdd (eC (.int 1)) (eCall [.par, .shr] (sp__law_pick A) (aCons (eVar 0) (aCons (eC (.int 9)) aNil)))) aNil)))) (aCons (eTup (aCons (eC (.str "armed")) (aCons (eCall [.par, .shr] (sp__law_choice A) (aCons (eVar 0) (aCons (eVar 2) aNil))) aNil))) (aCons (eTup (aCons (eC (.str "waits")) (aCons (eOp oAdd (eC (.int 1)) (eCall [.par, .shr] (sp__law_pick A) (aCons (eVar 0) (aCons (eC (.int 3)) aNil)))) aNil))) (aCons (eTup (aCons (eC (.str "focused")) aNil)) (aCons (eTup (aCons (eC (.str "shown")) (aCons (eCall [.par, .shr] (sp__law_choice A) (aCons (eVar 0) (aCons (eVar 1) aNil))) (aCons (eC (.int 1)) aNil)))) aNil)))))) (gN 5))
 (b__law_drawn_claim_c1t1 A me))
 sNext)
 (b__law_drawn_claim_t2 A me))
def b__law_drawn_claim (A : Ad) (me : S3) : T3S := (sSeq (sAsg (eCall [.par, .shr] (sp__law_pick A) (aCons (eVar 0) (aCons (eC (.int 7)) aNil))) (gN 4))
 (b__law_drawn_claim_t1 A me))
theorem t__law_drawn_claim (A : Ad) (n : Nat) : ∀ ds QR QO, sp__law_drawn_claim' (n + 1) ds QR QO → ds.length = 4 → b__law_drawn_claim A (sp__law_drawn_claim' n) (endE [.par, .shr, .shr, .shr] ds QR QO) (startE 3 [.par, .shr, .shr, .shr] ds) := by
  rintro ds QR QO ⟨bag0, ls, ws, lv, rfl, hb, hls, hws, ⟨hl1, hl2⟩, h⟩ _
  refine ⟨rfl, bag0, 7, rfl, hb, ⟨by decide, by decide⟩, fun way bag y0 y1 hb => ⟨rfl, ?_⟩⟩
  show b__law_drawn_claim_t1 A (sp__law_drawn_claim' n) _ [.par bag, .shr (uD ls), .shr (uD ws), .shr (.int lv), .shr (.int way), .emp, .emp]
  have leaf : ∀ (E : E3), E = { endE [.par, .shr, .shr, .shr] [bag0, uD ls, uD ws, .int lv] QR QO with nx := b__law_drawn_claim_t2 A (sp__law_drawn_claim' n) (endE [.par, .shr, .shr, .shr] [bag0, uD ls, uD ws, .int lv] QR QO) } → (sSeq (sAsg (eLst (aCons (eTup (aCons (eC (.str "shown")) (aCons (eCall [.par, .shr] (sp__law_choice A) (aCons (eVar 0) (aCons (eVar 1) aNil))) (aCons (eOp oAdd (eC (.int 1)) (eCall [.par, .shr] (sp__law_pick A) (aCons (eVar 0) (aCons (eC (.int 9)) aNil)))) aNil)))) (aCons (eTup (aCons (eC (.str "armed")) (aCons (eCall [.par, .shr] (sp__law_choice A) (aCons (eVar 0) (aCons (eVar 2) aNil))) aNil))) (aCons (eTup (aCons (eC (.str "waits")) (aCons (eOp oAdd (eC (.int 1)) (eCall [.par, .shr] (sp__law_pick A) (aCons (eVar 0) (aCons (eC (.int 3)) aNil)))) aNil))) (aCons (eTup (aCons (eC (.str "focused")) aNil)) (aCons (eTup (aCons (eC (.str "shown")) (aCons (eCall [.par, .shr] (sp__law_choice A) (aCons (eVar 0) (aCons (eVar 1) aNil))) (aCons (eC (.int 1)) aNil)))) aNil)))))) (gN 5))
      (b__law_drawn_claim_c1t1 A (sp__law_drawn_claim' n))) E [.par bag, .shr (uD ls), .shr (uD ws), .shr (.int lv), .shr (.int way), .emp, .emp] := by
    rintro E rfl
    refine ⟨rfl, _, _, rfl, hb, chs hls.1, fun x bag hx hb => ⟨rfl, _, _, rfl, hb, ⟨by decide, by decide⟩, fun r bag r0 r1 hb => ⟨sz 3 rfl, ?_⟩⟩⟩
    obtain ⟨l1, hl1', rfl⟩ := mem_uD hx
    refine ⟨rfl, _, _, rfl, hb, chs hws.1, fun x bag hx hb => ⟨sz 2 rfl, ?_⟩⟩
    obtain ⟨w1, hw1, rfl⟩ := mem_uD hx
    refine ⟨rfl, _, _, rfl, hb, ⟨by decide, by decide⟩, fun r2 bag r20 r21 hb => ⟨sz 2 rfl, sz 1 rfl, rfl, _, _, rfl, hb, chs hls.1, fun x bag hx hb => ⟨sz 3 rfl, sz 5 rfl, rfl, ?_⟩⟩⟩
    obtain ⟨l2, hl2', rfl⟩ := mem_uD hx
    show b__law_drawn_claim_c1t1 A (sp__law_drawn_claim' n) _ [.par bag, .shr (uD ls), .shr (uD ws), .shr (.int lv), .shr (.int way), .shr (.lst [(Cl.shown l1 (1 + r)).d, (Cl.armed w1).d, (Cl.waits (1 + r2)).d, Cl.foc.d, (Cl.shown l2 1).d]), .emp]
    refine ⟨rfl, _, _, rfl, hb, ⟨by decide, by decide⟩, fun k bag k0 k1 hb => ?_⟩
    have fin : ∀ (c : Cl), L2.atI [(Cl.shown l1 (1 + r)).d, (Cl.armed w1).d, (Cl.waits (1 + r2)).d, Cl.foc.d, (Cl.shown l2 1).d] k = some c.d → c.good → c.dep = 1 → wo (L2.atI [(Cl.shown l1 (1 + r)).d, (Cl.armed w1).d, (Cl.waits (1 + r2)).d, Cl.foc.d, (Cl.shown l2 1).d] k) fun d => QR d [bag, uD ls, uD ws, .int lv] := fun c e hg hd => wo_in e (h c bag hg (by omega) hb)
    have : k = 0 ∨ k = 1 ∨ k = 2 ∨ k = 3 ∨ k = 4 := by omega
    rcases this with rfl | rfl | rfl | rfl | rfl
    · exact fin (.shown l1 (1 + r)) rfl ⟨hls.2 _ hl1', by omega, by omega⟩ rfl
    · exact fin (.armed w1) rfl (hws.2 _ hw1) rfl
    · exact fin (.waits (1 + r2)) rfl ⟨by omega, by omega⟩ rfl
    · exact fin .foc rfl trivial rfl
    · exact fin (.shown l2 1) rfl ⟨hls.2 _ hl2', by omega, by omega⟩ rfl
  have e : ((lv : Int) - 1) = ((lv - 1 : Nat) : Int) := by omega
  have node : (lv : Int) > 1 → 3 ≤ way → b__law_drawn_claim_t2 A (sp__law_drawn_claim' n) (endE [.par, .shr, .shr, .shr] [bag0, uD ls, uD ws, .int lv] QR QO) [.par bag, .shr (uD ls), .shr (uD ws), .shr (.int lv), .shr (.int way), .emp, .emp] := by
    intro z1 z2
    refine ⟨rfl, bag, ls, ws, lv - 1, by rw [← e], hb, hls, hws, ⟨by omega, by omega⟩, fun c bag hg hd hb => ⟨rfl, ?_⟩⟩
    show b__law_drawn_claim_t3 A (sp__law_drawn_claim' n) _ [.par bag, .shr (uD ls), .shr (uD ws), .shr (.int lv), .shr (.int way), .emp, .shr c.d]
    refine ⟨rfl, rfl, ifs (fun z => ?_) fun z => ?_⟩
    · exact ⟨sz 2 rfl, h (.neg c) bag hg (by show c.dep + 1 ≤ lv; omega) hb⟩
    · have nw : way ≠ 3 := fun q => z (by subst q; rfl)
      have pick2 : ∀ (w : Str) (mk : Cl → Cl → Cl), (∀ a b, (mk a b).d = .tup [.str w, a.d, b.d]) → (∀ a b, a.good → b.good → (mk a b).good) → (∀ a b, (mk a b).dep = max a.dep b.dep + 1) → L2.atI [D.str "both", D.str "either"] (way / 2 - 2) = some (.str w) →
          b__law_drawn_claim_t4 A (sp__law_drawn_claim' n) (endE [.par, .shr, .shr, .shr] [bag0, uD ls, uD ws, .int lv] QR QO) [.par bag, .shr (uD ls), .shr (uD ws), .shr (.int lv), .shr (.int way), .emp, .shr c.d] := by
        intro w mk h1 h2 h3 hat
        refine ⟨sz 2 rfl, ⟨by decide, by decide⟩, wo_in hat ⟨rfl, bag, ls, ws, lv - 1, by rw [← e], hb, hls, hws, ⟨by omega, by omega⟩, fun c2 bag hg2 hd2 hb => ⟨sz 3 rfl, ?_⟩⟩⟩
        have := h (mk c c2) bag (h2 _ _ hg hg2) (by rw [h3]; omega) hb
        rw [h1] at this
        exact this
      have hw : way = 4 ∨ way = 5 ∨ way = 6 := by omega
      rcases hw with rfl | rfl | rfl
      · exact pick2 "both" Cl.both (fun _ _ => rfl) (fun _ _ a b => ⟨a, b⟩) (fun _ _ => rfl) rfl
      · exact pick2 "both" Cl.both (fun _ _ => rfl) (fun _ _ a b => ⟨a, b⟩) (fun _ _ => rfl) rfl
      · exact pick2 "either" Cl.eith (fun _ _ => rfl) (fun _ _ a b => ⟨a, b⟩) (fun _ _ => rfl) rfl
  refine ifs (fun z => leaf _ rfl) fun z => ifs (fun z2 => leaf _ rfl) fun z2 => node ?_ ?_
  · have : ¬ (lv : Int) ≤ 1 := fun q => z (decide_eq_true q)
    omega
  · have : ¬ way < 3 := fun q => z2 (decide_eq_true q)
    omega
def sp__law_deep (A : Ad) : S3 := fun ds QR _ => ∃ (bag : D) (ls ws : List Str), ds = [bag, uD ls, uD ws, .int 5] ∧ isBag bag ∧ lbs ls ∧ wds ws ∧ ∀ (c : Cl) bag', c.good → c.dep = 5 → isBag bag' → QR c.d [bag', uD ls, uD ws, .int 5]
def b__law_deep_l1t2 (A : Ad) : T3S := (sIf (fTst (eOp (oEq false) (eVar 6) (eC (.str "not"))))
 (sAsg (eTup (aCons (eC (.str "not")) (aCons (eVar 4) aNil))) (gN 4))
 (sAsg (eIf (fTst (eOp (oEq false) (eCall [.par, .shr] (sp__law_pick A) (aCons (eVar 0) (aCons (eC (.int 2)) aNil))) (eC (.int 0)))) (eTup (aCons (eVar 6) (aCons (eVar 4) (aCons (eVar 7) aNil)))) (eTup (aCons (eVar 6) (aCons (eVar 7) (aCons (eVar 4) aNil))))) (gN 4)))
def b__law_deep_l1t1 (A : Ad) : T3S := (sSeq (sAsg (eCall [.par, .shr, .shr, .shr] (sp__law_drawn_claim A) (aCons (eVar 0) (aCons (eVar 1) (aCons (eVar 2) (aCons (eC (.int 1)) aNil))))) (gN 7))
 (b__law_deep_l1t2 A))
def b__law_deep_l1 (A : Ad) : T3S := (sSeq (sAsg (eOp oIdx (eLst (aCons (eC (.str "not")) (aCons (eC (.str "both")) (aCons (eC (.str "either")) aNil)))) (eCall [.par, .shr] (sp__law_pick A) (aCons (eVar 0) (aCons (eC (.int 3)) aNil)))) (gN 6))
 (b__law_deep_l1t1 A))
def b__law_deep_t2 (A : Ad) : T3S := (sRet (eVar 4))
def b__law_deep_t1 (A : Ad) : T3S := (sSeq (sFor (iR1 (aCons (eOp (oI0 fun i j => .int (i - j)) (eVar 3) (eC (.int 1))) aNil)) (gN 5)
 (b__law_deep_l1 A))
 (b__law_deep_t2 A))
def b__law_deep (A : Ad) : T3S := (sSeq (sAsg (eCall [.par, .shr, .shr, .shr] (sp__law_drawn_claim A) (aCons (eVar 0) (aCons (eVar 1) (aCons (eVar 2) (aCons (eC (.int 1)) aNil))))) (gN 4))
 (b__law_deep_t1 A))
theorem t__law_deep (A : Ad) : ∀ ds QR QO, sp__law_deep A ds QR QO → ds.length = 4 → b__law_deep A (endE [.par, .shr, .shr, .shr] ds QR QO) (startE 4 [.par, .shr, .shr, .shr] ds) := by
  rintro ds QR QO ⟨bag0, ls, ws, rfl, hb, hls, hws, h⟩ _
  refine ⟨rfl, bag0, ls, ws, 1, rfl, hb, hls, hws, ⟨by decide, by decide⟩, fun c bag hg hd hb => ⟨rfl, ⟨by decide, by decide⟩, ?_⟩⟩
  have cd : c.dep = 1 := by have := c.dep_pos; omega
  show forL (gN 5) (b__law_deep_l1 A) _ (rngD 0 1 4) [.par bag, .shr (uD ls), .shr (uD ws), .shr (.int 5), .shr c.d, .emp, .emp, .emp]
  refine for_inv (fun i ρ => ∃ (bag : D) (c : Cl) (s5 s6 s7 : Sl), isBag bag ∧ c.good ∧ c.dep = i + 1 ∧ s5.locked = false ∧ s6.locked = false ∧ s7.locked = false ∧ ρ = [.par bag, .shr (uD ls), .shr (uD ws), .shr (.int 5), .shr c.d, s5, s6, s7]) _ ?_ ?_ ⟨bag, c, .emp, .emp, .emp, hb, hg, by omega, rfl, rfl, rfl, rfl⟩
  · rintro i d ρ N hd ⟨bag, c, s5, s6, s7, hb, hg, hdp, h5, h6, h7, rfl⟩ hN
    obtain ⟨hr, rfl⟩ := rngD_get hd
    refine ⟨unF h5, ?_⟩
    show b__law_deep_l1 A _ [.par bag, .shr (uD ls), .shr (uD ws), .shr (.int 5), .shr c.d, .shr (.int (0 + (i : Nat) * 1)), s6, s7]
    refine ⟨sz 3 rfl, rfl, _, _, rfl, hb, ⟨by decide, by decide⟩, fun r bag r0 r1 hb => ?_⟩
    have step : ∀ (w : Str), (w = "not" ∨ w = "both" ∨ w = "either") → ∀ E : E3, (∀ (bag : D) (c' : Cl) (s7 : Sl), isBag bag → c'.good → c'.dep = i + 2 → s7.locked = false → E.nx [.par bag, .shr (uD ls), .shr (uD ws), .shr (.int 5), .shr c'.d, .shr (.int (0 + (i : Nat) * 1)), .shr (.str w), s7]) →
        b__law_deep_l1t1 A E [.par bag, .shr (uD ls), .shr (uD ws), .shr (.int 5), .shr c.d, .shr (.int (0 + (i : Nat) * 1)), .shr (.str w), s7] := by
      intro w hw E hE
      refine ⟨rfl, bag, ls, ws, 1, rfl, hb, hls, hws, ⟨by decide, by decide⟩, fun c2 bag hg2 hd2 hb => ⟨unF h7, ?_⟩⟩
      have d2 : c2.dep = 1 := by have := c2.dep_pos; omega
      show b__law_deep_l1t2 A E [.par bag, .shr (uD ls), .shr (uD ws), .shr (.int 5), .shr c.d, .shr (.int (0 + (i : Nat) * 1)), .shr (.str w), .shr c2.d]
      have mm1 : max c.dep c2.dep + 1 = i + 2 := by omega
      have mm2 : max c2.dep c.dep + 1 = i + 2 := by omega
      rcases hw with rfl | rfl | rfl
      · exact ⟨sNot, sNot, sz 2 rfl, rfl, hE bag (.neg c) (.shr c2.d) hb hg (by show c.dep + 1 = _; omega) rfl⟩
      · refine ⟨sBoth, sNot, rfl, _, _, rfl, hb, ⟨by decide, by decide⟩, fun r bag r0 r1 hb => ⟨rfl, rfl, ifs (fun z => ?_) fun z => ?_⟩⟩
        · exact ⟨sz 3 rfl, rfl, hE bag (.both c c2) (.shr c2.d) hb ⟨hg, hg2⟩ mm1 rfl⟩
        · exact ⟨sz 3 rfl, rfl, hE bag (.both c2 c) (.shr c2.d) hb ⟨hg2, hg⟩ mm2 rfl⟩
      · refine ⟨sEith, sNot, rfl, _, _, rfl, hb, ⟨by decide, by decide⟩, fun r bag r0 r1 hb => ⟨rfl, rfl, ifs (fun z => ?_) fun z => ?_⟩⟩
        · exact ⟨sz 3 rfl, rfl, hE bag (.eith c c2) (.shr c2.d) hb ⟨hg, hg2⟩ mm1 rfl⟩
        · exact ⟨sz 3 rfl, rfl, hE bag (.eith c2 c) (.shr c2.d) hb ⟨hg2, hg⟩ mm2 rfl⟩
    have rr : r = 0 ∨ r = 1 ∨ r = 2 := by
      have : r < 3 := r1
      omega
    rcases rr with rfl | rfl | rfl
    · exact ⟨unF h6, step "not" (.inl rfl) _ fun bag c' s7 a1 a2 a3 a4 => hN _ ⟨bag, c', .shr (.int (0 + (i : Nat) * 1)), .shr (.str "not"), s7, a1, a2, a3, rfl, rfl, a4, rfl⟩⟩
    · exact ⟨unF h6, step "both" (.inr (.inl rfl)) _ fun bag c' s7 a1 a2 a3 a4 => hN _ ⟨bag, c', .shr (.int (0 + (i : Nat) * 1)), .shr (.str "both"), s7, a1, a2, a3, rfl, rfl, a4, rfl⟩⟩
    · exact ⟨unF h6, step "either" (.inr (.inr rfl)) _ fun bag c' s7 a1 a2 a3 a4 => hN _ ⟨bag, c', .shr (.int (0 + (i : Nat) * 1)), .shr (.str "either"), s7, a1, a2, a3, rfl, rfl, a4, rfl⟩⟩
  · rintro ρ ⟨bag, c, s5, s6, s7, hb, hg, hdp, h5, h6, h7, rfl⟩
    rw [rngD_len] at hdp
    exact ⟨trivial, h c bag hg (by omega) hb⟩
def sp__law_spoilt' (n : Nat) : S3 := fun ds QR _ => ∃ (bag : D) (c : Cl), ds = [bag, c.d] ∧ isBag bag ∧ c.good ∧ c.dep ≤ n ∧ ∀ (c' : Cl) (p : D) bag', c'.fine → c'.bad = some p → c'.dep ≤ c.dep → isBag bag' → QR (.tup [c'.d, p]) [bag', c.d]
def sp__law_spoilt (A : Ad) : S3 := sp__law_spoilt' 6
theorem z__law_spoilt : ∀ ds QR QO, ¬ sp__law_spoilt' 0 ds QR QO := by
  rintro ds QR QO ⟨bag, c, _, _, _, h, _⟩
  have := c.dep_pos
  omega
def b__law_spoilt_c1t2 (A : Ad) (me : S3) : T3S := (sRet (eTup (aCons (eOp oAdd (eOp oAdd (eSl (eVar 1) pNo (pSo (eVar 2))) (eTup (aCons (eVar 3) aNil))) (eSl (eVar 1) (pSo (eOp oAdd (eVar 2) (eC (.int 1)))) pNo)) (aCons (eVar 4) aNil))))
def b__law_spoilt_c1t1 (A : Ad) (me : S3) : T3S := (sSeq (sAsg (eCall [.par, .shr] me (aCons (eVar 0) (aCons (eOp oIdx (eVar 1) (eVar 2)) aNil))) (gT 2 (fun xs ρ Q => match xs with | x :: r => (gN 3) x ρ fun ρ1 => (fun xs ρ Q => match xs with | x :: r => (gN 4) x ρ fun ρ1 => (fun xs ρ Q => xs = [] ∧ Q ρ) r ρ1 Q | [] => False) r ρ1 Q | [] => False)))
 (b__law_spoilt_c1t2 A me))
def b__law_spoilt_t2 (A : Ad) (me : S3) : T3S := (sRet (eTup (aCons (eVar 5) (aCons (eVar 5) aNil))))
def b__law_spoilt_t1 (A : Ad) (me : S3) : T3S := (sSeq (sAsg (eOp oIdx (eLst (aCons (eC .non) (aCons (eTup aNil) (aCons (eTup (aCons (eC (.str "shown")) aNil)) (aCons (eTup (aCons (eC (.str "shown")) (aCons (eC (.str "")) (aCons (eC (.int 1)) aNil)))) (aCons (eTup (aCons (eC (.str "shown")) (aCons (eOp oMulS (eC (.str "a")) (eC (.int 21))) (aCons (eC (.int 1)) aNil)))) (aCons (eTup (aCons (eC (.str "shown")) (aCons (eC (.str "a")) (aCons (eC (.int 0)) aNil)))) (aCons (eTup (aCons (eC (.str "shown")) (aCons (eC (.str "a")) (aCons (eC (.int 10)) aNil)))) (aCons (eTup (aCons (eC (.str "shown")) (aCons (eC (.str "a")) (aCons (eC (.bl true)) aNil)))) (aCons (eTup (aCons (eC (.str "armed")) (aCons (eC (.str "Ab")) aNil))) (aCons (eTup (aCons (eC (.str "armed")) (aCons (eC (.str "abcdefghi")) aNil))) (aCons (eTup (aCons (eC (.str "armed")) aNil)) (aCons (eTup (aCons (eC (.str "waits")) (aCons (eC (.int 0)) aNil))) (aCons (eTup (aCons (eC (.str "waits")) (aCons (eC (.int 4)) aNil))) (aCons (eTup (aCons (eC (.str "waits")) (aCons (eC (.str "1")) aNil))) (aCons (eTup (aCons (eC (.str "focused")) (aCons (eC (.int 1)) aNil))) (aCons (eTup (aCons (eC (.str "not")) aNil)) (aCons (eTup (aCons (eC (.str "both")) (aCons (eTup (aCons (eC (.str "focused")) aNil)) aNil))) (aCons (eTup (aCons (eC (.str "nor")) (aCons (eTup (aCons (eC (.str "focused")) aNil)) (aCons (eTup (aCons (eC (.str "focused")) aNil)) aNil)))) (aCons (eLst (aCons (eC (.str "focused")) aNil)) (aCons (eTup (aCons (eC (.str "either")) (aCons (eTup (aCons (eC (.str "focused")) aNil)) (aCons (eTup (aCons (eC (.str "focused")) aNil)) (aCons (eTup (aCons (eC (.str "focused")) aNil)) aNil))))) (aCons (eTup (aCons (eC (.int 1)) (aCons (eTup (aCons (eC (.str "focused")) aNil)) aNil))) (aCons (eC (.str "focused")) (aCons (eTup (aCons (eC (.str "shown")) (aCons (eC (.int 3)) (aCons (eC (.int 1)) aNil)))) (aCons (eTup (aCons (eC (.str "waits")) (aCons (eC (.bl false)) aNil))) aNil))))))))))))))))))))))))) (eCall [.par, .shr] (sp__law_pick A) (aCons (eVar 0) (aCons (eC (.int 24)) aNil)))) (gN 5))
 (b__law_spoilt_t2 A me))
def b__law_spoilt (A : Ad) (me : S3) : T3S := (sSeq (sIf (fAnd (fTst (eOp (oIn false) (eOp oIdx (eVar 1) (eC (.int 0))) (eLst (aCons (eC (.str "not")) (aCons (eC (.str "both")) (aCons (eC (.str "either")) aNil)))))) (fTst (eOp oGt (eCall [.par, .shr] (sp__law_pick A) (aCons (eVar 0) (aCons (eC (.int 3)) aNil))) (eC (.int 0)))))
 (sSeq (sAsg (eOp oAdd (eC (.int 1)) (eCall [.par, .shr] (sp__law_pick A) (aCons (eVar 0) (aCons (eOp (oI0 fun i j => .int (i - j)) (eCB cLen (aCons (eVar 1) aNil)) (eC (.int 1))) aNil)))) (gN 2))
 (b__law_spoilt_c1t1 A me))
 sNext)
 (b__law_spoilt_t1 A me))
theorem sp_leaf (A : Ad) (n : Nat) {QR QO : D → List D → Prop} {bag0 bag : D} {c : Cl} (hb : isBag bag) (h : ∀ (c' : Cl) (p : D) bag', c'.fine → c'.bad = some p → c'.dep ≤ c.dep → isBag bag' → QR (.tup [c'.d, p]) [bag', c.d]) :
    b__law_spoilt_t1 A (sp__law_spoilt' n) (endE [.par, .shr] [bag0, c.d] QR QO) [.par bag, .shr c.d, .emp, .emp, .emp, .emp] := by
  have cp := c.dep_pos
  have key : ∀ bag, isBag bag → ∀ d, d ∈ odds → b__law_spoilt_t2 A (sp__law_spoilt' n) (endE [.par, .shr] [bag0, c.d] QR QO) [.par bag, .shr c.d, .emp, .emp, .emp, .shr d] := fun bag hb d hd => ⟨sz 2 rfl, h (.odd d) d bag hd rfl cp hb⟩
  have mk : MulOk "a" 21 := mulOk (x := "a") (n := 21) (by decide) (by decide)
  refine ⟨sz 0 rfl, sz 1 rfl, sz 3 rfl, mk, sz 3 rfl, sz 3 rfl, sz 3 rfl, sz 3 rfl, sz 2 rfl, sz 2 rfl, sz 1 rfl, sz 2 rfl, sz 2 rfl, sz 2 rfl, sz 2 rfl, sz 1 rfl, sz 1 rfl, sz 2 rfl, sz 1 rfl, sz 1 rfl, sz 3 rfl, sz 1 rfl, sz 1 rfl, sz 1 rfl, sz 1 rfl, sz 4 rfl, sz 1 rfl, sz 2 rfl, sz 3 rfl, sz 2 rfl, sz 24 rfl, rfl, _, _, rfl, hb, ⟨by decide, by decide⟩, fun r bag r0 r1 hb => ?_⟩
  have hr : r.toNat < odds.length := by show r.toNat < 24; omega
  have e : L2.atI odds r = some odds[r.toNat] := atI_g r0 (List.getElem?_eq_getElem hr)
  exact wo_in e ⟨rfl, key bag hb _ (List.getElem_mem hr)⟩
theorem t__law_spoilt (A : Ad) (n : Nat) : ∀ ds QR QO, sp__law_spoilt' (n + 1) ds QR QO → ds.length = 2 → b__law_spoilt A (sp__law_spoilt' n) (endE [.par, .shr] ds QR QO) (startE 4 [.par, .shr] ds) := by
  rintro ds QR QO ⟨bag0, c, rfl, hb, hg, hd, h⟩ _
  cases c with
  | shown l i => exact ⟨sz 3 rfl, sShown, sNBE, sp_leaf A n hb h⟩
  | armed w => exact ⟨sz 3 rfl, sArmed, sNBE, sp_leaf A n hb h⟩
  | waits i => exact ⟨sz 3 rfl, sWaits, sNBE, sp_leaf A n hb h⟩
  | foc => exact ⟨sz 3 rfl, sFoc, sNBE, sp_leaf A n hb h⟩
  | odd d => exact hg.elim
  | neg a =>
    have hd : a.dep + 1 ≤ n + 1 := hd
    refine ⟨sz 3 rfl, sNot, sNBE, rfl, _, _, rfl, hb, ⟨by decide, by decide⟩, fun r bag r0 r1 hb => ifs (fun z => ?_) fun z => sp_leaf A n hb h⟩
    refine ⟨rfl, bag, 1, rfl, hb, ⟨by decide, by decide⟩, fun r bag r0 r1 hb => ⟨rfl, ?_⟩⟩
    have : r = 0 := by omega
    subst this
    refine ⟨rfl, bag, a, rfl, hb, hg, by omega, fun c' p bag hf hbd hdp hb => ⟨rfl, rfl, rfl, rfl, ?_⟩⟩
    exact ⟨sz 1 rfl, sz 2 rfl, sz 2 rfl, sz 2 rfl, h (.neg c') p bag hf hbd (by show c'.dep + 1 ≤ a.dep + 1; omega) hb⟩
  | both a b =>
    have hd : max a.dep b.dep + 1 ≤ n + 1 := hd
    refine ⟨sz 3 rfl, sBoth, sNBE, rfl, _, _, rfl, hb, ⟨by decide, by decide⟩, fun r bag r0 r1 hb => ifs (fun z => ?_) fun z => sp_leaf A n hb h⟩
    refine ⟨rfl, bag, 2, rfl, hb, ⟨by decide, by decide⟩, fun r bag r0 r1 hb => ⟨rfl, ?_⟩⟩
    have : r = 0 ∨ r = 1 := by omega
    rcases this with rfl | rfl
    · refine ⟨rfl, bag, a, rfl, hb, hg.1, by omega, fun c' p bag hf hbd hdp hb => ⟨rfl, rfl, rfl, rfl, ?_⟩⟩
      exact ⟨sz 1 rfl, sz 2 rfl, sz 3 rfl, sz 2 rfl, h (.both c' b) p bag ⟨hf, (good_fine b hg.2).1⟩ (by show c'.bad.or b.bad = _; rw [hbd]; rfl) (by show max c'.dep b.dep + 1 ≤ max a.dep b.dep + 1; omega) hb⟩
    · refine ⟨rfl, bag, b, rfl, hb, hg.2, by omega, fun c' p bag hf hbd hdp hb => ⟨rfl, rfl, rfl, rfl, ?_⟩⟩
      exact ⟨sz 1 rfl, sz 3 rfl, sz 3 rfl, sz 2 rfl, h (.both a c') p bag ⟨(good_fine a hg.1).1, hf⟩ (by show a.bad.or c'.bad = _; rw [(good_fine a hg.1).2, hbd]; rfl) (by show max a.dep c'.dep + 1 ≤ max a.dep b.dep + 1; omega) hb⟩
  | eith a b =>
    have hd : max a.dep b.dep + 1 ≤ n + 1 := hd
    refine ⟨sz 3 rfl, sEith, sNBE, rfl, _, _, rfl, hb, ⟨by decide, by decide⟩, fun r bag r0 r1 hb => ifs (fun z => ?_) fun z => sp_leaf A n hb h⟩
    refine ⟨rfl, bag, 2, rfl, hb, ⟨by decide, by decide⟩, fun r bag r0 r1 hb => ⟨rfl, ?_⟩⟩
    have : r = 0 ∨ r = 1 := by omega
    rcases this with rfl | rfl
    · refine ⟨rfl, bag, a, rfl, hb, hg.1, by omega, fun c' p bag hf hbd hdp hb => ⟨rfl, rfl, rfl, rfl, ?_⟩⟩
      exact ⟨sz 1 rfl, sz 2 rfl, sz 3 rfl, sz 2 rfl, h (.eith c' b) p bag ⟨hf, (good_fine b hg.2).1⟩ (by show c'.bad.or b.bad = _; rw [hbd]; rfl) (by show max c'.dep b.dep + 1 ≤ max a.dep b.dep + 1; omega) hb⟩
    · refine ⟨rfl, bag, b, rfl, hb, hg.2, by omega, fun c' p bag hf hbd hdp hb => ⟨rfl, rfl, rfl, rfl, ?_⟩⟩
      exact ⟨sz 1 rfl, sz 3 rfl, sz 3 rfl, sz 2 rfl, h (.eith a c') p bag ⟨(good_fine a hg.1).1, hf⟩ (by show a.bad.or c'.bad = _; rw [(good_fine a hg.1).2, hbd]; rfl) (by show max a.dep c'.dep + 1 ≤ max a.dep b.dep + 1; omega) hb⟩
end K00
end L3

set_option Elab.async false
set_option linter.all false
set_option maxRecDepth 100000
set_option autoImplicit false
set_option maxHeartbeats 0
namespace L3
namespace K00
open PySem PySem.Spec L2
open PyProof.Rows (b2i)
/-! ### claims are told apart by their texts -/
open PySem.Builtin PySem.Builtin.Str in
theorem chr_plain {c : Nat} (h : plc c = true) : reprChar 39 c = [c] := by
  have e : ((List.range 123).all fun c => !plc c || (reprChar 39 c == [c])) = true := by decide +kernel
  rw [List.all_eq_true] at e
  have hc : c < 123 := by
    simp only [plc, Bool.or_eq_true, Bool.and_eq_true, decide_eq_true_eq, beq_iff_eq] at h
    omega
  have := e c (List.mem_range.mpr hc)
  rw [h] at this
  simpa using this
open PySem.Builtin PySem.Builtin.Str in
theorem fold_plain : ∀ (l : List Nat) (acc : Array Nat), l.all plc = true → (l.foldl (fun out c => out ++ (reprChar 39 c).toArray) acc).toList = acc.toList ++ l
  | [], acc, _ => by simp
  | c :: l, acc, h => by
    rw [List.all_cons, Bool.and_eq_true] at h
    rw [List.foldl_cons, fold_plain l _ h.2, chr_plain h.1]
    simp
theorem no39 {l : List Nat} (h : l.all plc = true) : 39 ∉ l := fun q => by
  have := List.all_eq_true.mp h _ q
  revert this; decide
theorem tl_repr {s : Str} (h : s.cps.toList.all plc = true) : TL.tl (reprText s) = 39 :: (TL.tl s ++ [39]) := by
  have q : reprQuote s = 39 := by
    unfold reprQuote
    have : s.cps.contains 39 = false := by
      rw [← Bool.not_eq_true, Array.contains_iff_mem]
      intro z
      exact no39 h (by simpa using z)
    rw [this]; rfl
  unfold reprText
  rw [q]
  show (Array.push _ 39).toList = _
  rw [Array.toList_push, ← Array.foldl_toList, fold_plain _ _ h]
  rfl
def tt (l : List (List Nat)) : List Nat := 40 :: (TL.joinL [44, 32] l ++ (if l.length == 1 then [44, 41] else [41]))
theorem tl_tuple (ts : List Str) : TL.tl (tupleText ts) = tt (ts.map TL.tl) := by
  unfold tupleText tt
  rw [TL.tl_append, TL.tl_append, TL.tl_join, List.length_map]
  have e1 : TL.tl ("(" : Str) = [40] := by decide +kernel
  have e2 : TL.tl (", " : Str) = [44, 32] := by decide +kernel
  rw [e1, e2]
  cases ts.length == 1 <;> (simp; decide +kernel)
theorem tl_dig {n : Int} (h1 : 1 ≤ n) (h2 : n ≤ 9) : TL.tl (Str.ofString (toString n)) = [48 + n.toNat] := by
  have : n = 1 ∨ n = 2 ∨ n = 3 ∨ n = 4 ∨ n = 5 ∨ n = 6 ∨ n = 7 ∨ n = 8 ∨ n = 9 := by omega
  rcases this with rfl | rfl | rfl | rfl | rfl | rfl | rfl | rfl | rfl <;> decide +kernel
def Cl.rp : Cl → List Nat
  | .shown l n => 40 :: 39 :: 115 :: 104 :: 111 :: 119 :: 110 :: 39 :: 44 :: 32 :: 39 :: (TL.tl l ++ (39 :: 44 :: 32 :: (48 + n.toNat) :: [41]))
  | .armed w => 40 :: 39 :: 97 :: 114 :: 109 :: 101 :: 100 :: 39 :: 44 :: 32 :: 39 :: (TL.tl w ++ [39, 41])
  | .waits n => 40 :: 39 :: 119 :: 97 :: 105 :: 116 :: 115 :: 39 :: 44 :: 32 :: (48 + n.toNat) :: [41]
  | .foc => [40, 39, 102, 111, 99, 117, 115, 101, 100, 39, 44, 41]
  | .neg a => 40 :: 39 :: 110 :: 111 :: 116 :: 39 :: 44 :: 32 :: (a.rp ++ [41])
  | .both a b => 40 :: 39 :: 98 :: 111 :: 116 :: 104 :: 39 :: 44 :: 32 :: (a.rp ++ (44 :: 32 :: (b.rp ++ [41])))
  | .eith a b => 40 :: 39 :: 101 :: 105 :: 116 :: 104 :: 101 :: 114 :: 39 :: 44 :: 32 :: (a.rp ++ (44 :: 32 :: (b.rp ++ [41])))
  | .odd _ => []
theorem plain_low {s : Str} (h : low s) : s.cps.toList.all plc = true := by
  rw [List.all_eq_true]
  intro c hc
  have := h c hc
  simp only [plc, Bool.or_eq_true, Bool.and_eq_true, decide_eq_true_eq, beq_iff_eq]
  omega
theorem lit_repr (s : Str) (l : List Nat) (h : s.cps.toList.all plc = true) (e : TL.tl s = l) : TL.tl (PyData.str s).shown = 39 :: (l ++ [39]) := by
  rw [PyData.shown_str, tl_repr h, e]
theorem tl_shown : ∀ c : Cl, c.good → TL.tl c.d.toP.shown = c.rp
  | .shown l n, ⟨h, h1, h2⟩ => by
    show TL.tl (PyData.tuple [.str "shown", .str l, .int n]).shown = _
    simp only [PyData.shown, PyData.shownAll]
    rw [tl_tuple]
    simp only [List.map]
    rw [tl_repr h.pl, tl_repr (s := "shown") (by decide +kernel), tl_dig h1 h2, show TL.tl ("shown" : Str) = [115, 104, 111, 119, 110] by decide +kernel]
    simp [tt, TL.joinL, Cl.rp]
  | .armed w, h => by
    show TL.tl (PyData.tuple [.str "armed", .str w]).shown = _
    simp only [PyData.shown, PyData.shownAll]
    rw [tl_tuple]
    simp only [List.map]
    rw [tl_repr (plain_low (wd.lw h)), tl_repr (s := "armed") (by decide +kernel), show TL.tl ("armed" : Str) = [97, 114, 109, 101, 100] by decide +kernel]
    simp [tt, TL.joinL, Cl.rp]
  | .waits n, ⟨h1, h2⟩ => by
    show TL.tl (PyData.tuple [.str "waits", .int n]).shown = _
    simp only [PyData.shown, PyData.shownAll]
    rw [tl_tuple]
    simp only [List.map]
    rw [tl_dig h1 (by omega), tl_repr (s := "waits") (by decide +kernel), show TL.tl ("waits" : Str) = [119, 97, 105, 116, 115] by decide +kernel]
    simp [tt, TL.joinL, Cl.rp]
  | .foc, _ => by
    show TL.tl (PyData.tuple [.str "focused"]).shown = _
    simp only [PyData.shown, PyData.shownAll]
    rw [tl_tuple]
    simp only [List.map]
    rw [tl_repr (s := "focused") (by decide +kernel), show TL.tl ("focused" : Str) = [102, 111, 99, 117, 115, 101, 100] by decide +kernel]
    simp [tt, TL.joinL, Cl.rp]
  | .neg a, h => by
    show TL.tl (PyData.tuple [.str "not", a.d.toP]).shown = _
    simp only [PyData.shown, PyData.shownAll]
    rw [tl_tuple]
    simp only [List.map]
    rw [tl_shown a h, tl_repr (s := "not") (by decide +kernel), show TL.tl ("not" : Str) = [110, 111, 116] by decide +kernel]
    simp [tt, TL.joinL, Cl.rp]
  | .both a b, h => by
    show TL.tl (PyData.tuple [.str "both", a.d.toP, b.d.toP]).shown = _
    simp only [PyData.shown, PyData.shownAll]
    rw [tl_tuple]
    simp only [List.map]
    rw [tl_shown a h.1, tl_shown b h.2, tl_repr (s := "both") (by decide +kernel), show TL.tl ("both" : Str) = [98, 111, 116, 104] by decide +kernel]
    simp [tt, TL.joinL, Cl.rp]
  | .eith a b, h => by
    show TL.tl (PyData.tuple [.str "either", a.d.toP, b.d.toP]).shown = _
    simp only [PyData.shown, PyData.shownAll]
    rw [tl_tuple]
    simp only [List.map]
    rw [tl_shown a h.1, tl_shown b h.2, tl_repr (s := "either") (by decide +kernel), show TL.tl ("either" : Str) = [101, 105, 116, 104, 101, 114] by decide +kernel]
    simp [tt, TL.joinL, Cl.rp]
  | .odd _, h => h.elim
theorem splitq : ∀ {x y u v : List Nat}, 39 ∉ x → 39 ∉ y → x ++ 39 :: u = y ++ 39 :: v → x = y ∧ u = v
  | [], [], u, v, _, _, h => ⟨rfl, (List.cons.inj h).2⟩
  | [], c :: y, u, v, _, hy, h => (hy (by rw [(List.cons.inj h).1]; exact List.mem_cons_self ..)).elim
  | c :: x, [], u, v, hx, _, h => (hx (by rw [← (List.cons.inj h).1]; exact List.mem_cons_self ..)).elim
  | c :: x, d :: y, u, v, hx, hy, h => by
    obtain ⟨h1, h2⟩ := List.cons.inj h
    obtain ⟨a, b⟩ := splitq (x := x) (y := y) (fun z => hx (List.mem_cons_of_mem _ z)) (fun z => hy (List.mem_cons_of_mem _ z)) h2
    exact ⟨by rw [h1, a], b⟩
def Cl.code : Cl → Nat
  | .shown _ _ => 115
  | .armed _ => 97
  | .waits _ => 119
  | .foc => 102
  | .neg _ => 110
  | .both _ _ => 98
  | .eith _ _ => 101
  | .odd _ => 0
theorem third {c : Cl} (h : c.good) (s : List Nat) : (c.rp ++ s)[2]? = some c.code := by
  cases c <;> first | rfl | exact h.elim
theorem rp_inj : ∀ a b : Cl, a.good → b.good → ∀ s t, a.rp ++ s = b.rp ++ t → a = b ∧ s = t := by
  intro a
  induction a with
  | shown l n =>
    intro b ha hb s t h
    have hc := third ha s
    rw [h, third hb t] at hc
    cases b <;> first | (simp [Cl.code] at hc; done) | skip
    rename_i l' n'
    simp only [Cl.rp, List.cons_append, List.cons.injEq, true_and, List.append_assoc] at h
    obtain ⟨h1, h2⟩ := splitq (no39 ha.1.pl) (no39 hb.1.pl) h
    simp only [List.cons.injEq, List.nil_append, true_and] at h2
    obtain ⟨h3, h4⟩ := h2
    have g1 := ha.2
    have g2 := hb.2
    have : n = n' := by omega
    rw [TL.ext_tl h1, this]
    exact ⟨rfl, h4⟩
  | armed w =>
    intro b ha hb s t h
    have hc := third ha s
    rw [h, third hb t] at hc
    cases b <;> first | (simp [Cl.code] at hc; done) | skip
    rename_i w'
    simp only [Cl.rp, List.cons_append, List.cons.injEq, true_and, List.append_assoc] at h
    obtain ⟨h1, h2⟩ := splitq (no39 (plain_low (wd.lw ha))) (no39 (plain_low (wd.lw hb))) h
    simp only [List.cons.injEq, List.nil_append, true_and] at h2
    rw [TL.ext_tl h1]
    exact ⟨rfl, h2⟩
  | waits n =>
    intro b ha hb s t h
    have hc := third ha s
    rw [h, third hb t] at hc
    cases b <;> first | (simp [Cl.code] at hc; done) | skip
    rename_i n'
    simp only [Cl.rp, List.cons_append, List.cons.injEq, true_and, List.nil_append] at h
    obtain ⟨h3, h4⟩ := h
    have g1 := ha.1
    have g2 := hb.1
    have : n = n' := by omega
    rw [this]
    exact ⟨rfl, h4⟩
  | foc =>
    intro b ha hb s t h
    have hc := third ha s
    rw [h, third hb t] at hc
    cases b <;> first | (simp [Cl.code] at hc; done) | skip
    simp only [Cl.rp, List.cons_append, List.cons.injEq, true_and, List.nil_append] at h
    exact ⟨rfl, h⟩
  | neg a ih =>
    intro b ha hb s t h
    have hc := third ha s
    rw [h, third hb t] at hc
    cases b <;> first | (simp [Cl.code] at hc; done) | skip
    rename_i a'
    simp only [Cl.rp, List.cons_append, List.cons.injEq, true_and, List.append_assoc] at h
    obtain ⟨h1, h2⟩ := ih a' ha hb _ _ h
    simp only [List.cons.injEq, List.nil_append, true_and] at h2
    rw [h1]
    exact ⟨rfl, h2⟩
  | both a b iha ihb =>
    intro c ha hb s t h
    have hc := third ha s
    rw [h, third hb t] at hc
    cases c <;> first | (simp [Cl.code] at hc; done) | skip
    rename_i a' b'
    simp only [Cl.rp, List.cons_append, List.cons.injEq, true_and, List.append_assoc] at h
    obtain ⟨h1, h2⟩ := iha a' ha.1 hb.1 _ _ h
    simp only [List.cons.injEq, true_and] at h2
    obtain ⟨h3, h4⟩ := ihb b' ha.2 hb.2 _ _ h2
    simp only [List.cons.injEq, List.nil_append, true_and] at h4
    rw [h1, h3]
    exact ⟨rfl, h4⟩
  | eith a b iha ihb =>
    intro c ha hb s t h
    have hc := third ha s
    rw [h, third hb t] at hc
    cases c <;> first | (simp [Cl.code] at hc; done) | skip
    rename_i a' b'
    simp only [Cl.rp, List.cons_append, List.cons.injEq, true_and, List.append_assoc] at h
    obtain ⟨h1, h2⟩ := iha a' ha.1 hb.1 _ _ h
    simp only [List.cons.injEq, true_and] at h2
    obtain ⟨h3, h4⟩ := ihb b' ha.2 hb.2 _ _ h2
    simp only [List.cons.injEq, List.nil_append, true_and] at h4
    rw [h1, h3]
    exact ⟨rfl, h4⟩
  | odd d => intro _ ha; exact ha.elim
theorem shown_inj {a b : Cl} (ha : a.good) (hb : b.good) (h : a.d.toP.shown = b.d.toP.shown) : a = b := by
  have := congrArg TL.tl h
  rw [tl_shown a ha, tl_shown b hb] at this
  exact (rp_inj a b ha hb [] [] (by rw [List.append_nil, List.append_nil]; exact this)).1
theorem eqv_refl : ∀ {c : Cl}, c.good → D.eqv c.d c.d = true
  | .shown l n, _ => by simp [Cl.d, D.eqv, D.eqvs]
  | .armed w, _ => by simp [Cl.d, D.eqv, D.eqvs]
  | .waits n, _ => by simp [Cl.d, D.eqv, D.eqvs]
  | .foc, _ => by simp [Cl.d, D.eqv, D.eqvs]
  | .neg a, h => by simp [Cl.d, D.eqv, D.eqvs, eqv_refl (c := a) h]
  | .both a b, h => by simp [Cl.d, D.eqv, D.eqvs, eqv_refl (c := a) h.1, eqv_refl (c := b) h.2]
  | .eith a b, h => by simp [Cl.d, D.eqv, D.eqvs, eqv_refl (c := a) h.1, eqv_refl (c := b) h.2]
  | .odd _, h => h.elim
theorem eqv_cons {x y : D} {xs ys : List D} (h : D.eqv (.tup (x :: xs)) (.tup (y :: ys)) = true) : D.eqv x y = true ∧ D.eqvs xs ys = true := Bool.and_eq_true_iff.mp h
theorem eqvs_cons {x y : D} {xs ys : List D} (h : D.eqvs (x :: xs) (y :: ys) = true) : D.eqv x y = true ∧ D.eqvs xs ys = true := Bool.and_eq_true_iff.mp h
theorem eqv_str {x y : Str} (h : D.eqv (.str x) (.str y) = true) : x = y := by
  have h : (x == y) = true := h
  exact beq_iff_eq.mp h
theorem eqv_int {x y : Int} (h : D.eqv (.int x) (.int y) = true) : x = y := by
  have h : (x == y) = true := h
  exact beq_iff_eq.mp h
theorem eqv_inj : ∀ a b : Cl, a.good → b.good → D.eqv a.d b.d = true → a = b := by
  intro a
  induction a with
  | odd d => intro _ ha; exact ha.elim
  | shown l n =>
    intro b ha hb h
    cases b <;> first | exact hb.elim | skip
    all_goals obtain ⟨h1, h2⟩ := eqv_cons h
    all_goals first | exact absurd h1 (by decide) | skip
    obtain ⟨h3, h4⟩ := eqvs_cons h2
    obtain ⟨h5, h6⟩ := eqvs_cons h4
    rw [eqv_str h3, eqv_int h5]
  | armed w =>
    intro b ha hb h
    cases b <;> first | exact hb.elim | skip
    all_goals obtain ⟨h1, h2⟩ := eqv_cons h
    all_goals first | exact absurd h1 (by decide) | skip
    obtain ⟨h3, h4⟩ := eqvs_cons h2
    rw [eqv_str h3]
  | waits n =>
    intro b ha hb h
    cases b <;> first | exact hb.elim | skip
    all_goals obtain ⟨h1, h2⟩ := eqv_cons h
    all_goals first | exact absurd h1 (by decide) | skip
    obtain ⟨h3, h4⟩ := eqvs_cons h2
    rw [eqv_int h3]
  | foc =>
    intro b ha hb h
    cases b <;> first | exact hb.elim | skip
    all_goals obtain ⟨h1, h2⟩ := eqv_cons h
    all_goals first | exact absurd h1 (by decide) | skip
    rfl
  | neg a ih =>
    intro b ha hb h
    cases b <;> first | exact hb.elim | skip
    all_goals obtain ⟨h1, h2⟩ := eqv_cons h
    all_goals first | exact absurd h1 (by decide) | skip
    obtain ⟨h3, h4⟩ := eqvs_cons h2
    rename_i a'
    rw [ih a' ha hb h3]
  | both a b iha ihb =>
    intro c ha hb h
    cases c <;> first | exact hb.elim | skip
    all_goals obtain ⟨h1, h2⟩ := eqv_cons h
    all_goals first | exact absurd h1 (by decide) | skip
    obtain ⟨h3, h4⟩ := eqvs_cons h2
    obtain ⟨h5, h6⟩ := eqvs_cons h4
    rw [iha _ ha.1 hb.1 h3, ihb _ ha.2 hb.2 h5]
  | eith a b iha ihb =>
    intro c ha hb h
    cases c <;> first | exact hb.elim | skip
    all_goals obtain ⟨h1, h2⟩ := eqv_cons h
    all_goals first | exact absurd h1 (by decide) | skip
    obtain ⟨h3, h4⟩ := eqvs_cons h2
    obtain ⟨h5, h6⟩ := eqvs_cons h4
    rw [iha _ ha.1 hb.1 h3, ihb _ ha.2 hb.2 h5]
theorem same_eqv {a b : Cl} (ha : a.good) (hb : b.good) : decide (a.d.toP.shown = b.d.toP.shown) = D.eqv a.d b.d := by
  cases e : D.eqv a.d b.d with
  | true =>
    have := eqv_inj a b ha hb e
    subst this
    exact decide_eq_true rfl
  | false =>
    refine decide_eq_false fun h => ?_
    have := shown_inj ha hb h
    subst this
    rw [eqv_refl ha] at e
    cases e
theorem tup_good : ∀ {c : Cl}, c.good → ∃ xs, c.d = .tup xs
  | .shown _ _, _ => ⟨_, rfl⟩
  | .armed _, _ => ⟨_, rfl⟩
  | .waits _, _ => ⟨_, rfl⟩
  | .foc, _ => ⟨_, rfl⟩
  | .neg _, _ => ⟨_, rfl⟩
  | .both _ _, _ => ⟨_, rfl⟩
  | .eith _ _, _ => ⟨_, rfl⟩
  | .odd _, h => h.elim
end K00
end L3

set_option Elab.async false
set_option linter.all false
set_option maxRecDepth 100000
set_option autoImplicit false
set_option maxHeartbeats 0
namespace L3
namespace K00
open PySem PySem.Spec L2
open PyProof.Rows (b2i)
/-! ### the law -/
theorem tl_mul2 {w : Str} (h : 1 ≤ w.length) : TL.tl (Txt.mul w 2) = TL.tl w ++ TL.tl w := by
  unfold Txt.mul
  rw [if_neg (by decide), if_neg (by
    rw [Bool.or_eq_true, beq_iff_eq, beq_iff_eq]
    omega)]
  show (List.foldl (· ++ ·) #[] (List.replicate 2 w.cps)).toList = _
  simp [List.replicate]
theorem lb_low {s : Str} (h1 : 1 ≤ s.length) (h2 : s.length ≤ 20) (h : low s) : lb s := ⟨h1, h2, plain_low h⟩
theorem lb_but {w : Str} (h : wd w) : lb (("button " : Str) ++ w) := by
  have e : ("button " : Str).length = 7 := by decide
  have l1 := h.l1
  have l2 := h.l2
  refine ⟨by rw [len_app, e]; omega, by rw [len_app, e]; omega, ?_⟩
  rw [show (("button " : Str) ++ w).cps.toList = ("button " : Str).cps.toList ++ w.cps.toList from TL.tl_append _ _, List.all_append, plain_low h.lw]
  decide +kernel
theorem lb_dash {w : Str} (h : wd w) : lb (Txt.mul w 2 ++ ("-" : Str)) ∧ (Txt.mul w 2).length ≤ 16 := by
  have e : ("-" : Str).length = 1 := by decide
  have l1 := h.l1
  have l2 := h.l2
  have lm : (Txt.mul w 2).length = w.length + w.length := by rw [TL.len_tl, tl_mul2 l1, List.length_append, ← TL.len_tl]
  refine ⟨⟨by rw [len_app, e]; omega, by rw [len_app, e]; omega, ?_⟩, by omega⟩
  rw [show (Txt.mul w 2 ++ ("-" : Str)).cps.toList = TL.tl (Txt.mul w 2) ++ ("-" : Str).cps.toList from TL.tl_append _ _, tl_mul2 l1, List.all_append, List.all_append, plain_low h.lw]
  decide +kernel
theorem lb_row : lb "row" := ⟨by decide, by decide, by decide +kernel⟩
theorem lb_t1 : lb "text 1" := ⟨by decide, by decide, by decide +kernel⟩
theorem lb_a20 : lb (Txt.mul "a" 20) := ⟨by decide +kernel, by decide +kernel, by decide +kernel⟩
def bcD (d : D) : D := .tup [.str "BadClaim", d]
theorem bc_odd {d : D} (h : d ∈ odds) : (bcD d).tel = true := by
  have e : odds.all (fun d => (bcD d).tel) = true := by decide +kernel
  rw [List.all_eq_true] at e
  exact e d h
theorem bc_good {c : Cl} (h : c.good) (hd : c.dep ≤ 8) : (bcD c.d).tel = true := by
  obtain ⟨a, b, c1, d⟩ := cl_parts c h
  have p : 2 ^ c.dep ≤ 2 ^ 8 := Nat.pow_le_pow_right (by decide) hd
  have q : (2 : Nat) ^ 8 = 256 := rfl
  have e : (D.str "BadClaim").ok = true := by decide +kernel
  have e' : ("BadClaim" : Str).length = 8 := by decide
  refine tel_iff.mpr ⟨?_, ?_, ?_, ?_⟩
  · show (_ && (c.d.ok && _)) = true
    rw [e, a]; rfl
  · show (true && (c.d.sho && _)) = true
    rw [b]; rfl
  · show D.dep (.tup [.str "BadClaim", c.d]) ≤ 50
    simp only [D.dep, D.deps]; omega
  · show D.wid (.tup [.str "BadClaim", c.d]) ≤ 1000000
    simp only [D.wid, D.wids, e']; omega
theorem res_high {c : Cl} {N : Prop} {X : D → Prop} (hg : c.good) (hd : ¬ c.dep ≤ 5) (h : X c.d) : c.res N X := by
  unfold Cl.res
  rw [(good_fine c hg).2]
  show if c.dep ≤ 5 then N else X c.d
  rw [if_neg hd]; exact h
theorem res_bad {c : Cl} {N : Prop} {X : D → Prop} {d : D} (hb : c.bad = some d) (h : X d) : c.res N X := by
  unfold Cl.res
  rw [hb]; exact h
def sp_law (A : Ad) : S3 := fun ds QR _ => ∃ ns : List Int, ds = [.scr ns] ∧ ns.length ≤ 63 ∧ QR (.bl true) ds
def b_law_l1t2 (A : Ad) : T3S := (sIf (fOr (fNot (fTru (eCall [.shr, .shr, .shr] (sp__law_tells A) (aCons (eVar 8) (aCons (eVar 10) (aCons (eVar 11) aNil)))))) (fOr (fNot (fTru (eCall [.shr, .shr, .shr] (sp__law_tells A) (aCons (eVar 9) (aCons (eVar 10) (aCons (eVar 12) aNil)))))) (fNot (fTru (eCall [.shr, .shr, .shr] (sp__law_tells A) (aCons (eVar 8) (aCons (eVar 10) (aCons (eVar 11) aNil))))))))
 (sRet (eC (.bl false)))
 sNext)
def b_law_l1t1 (A : Ad) : T3S := (sSeq (sAsg (eCall [.shr, .shr] (sp__law_holds A) (aCons (eVar 7) (aCons (eVar 10) aNil))) (gN 12))
 (b_law_l1t2 A))
def b_law_l1 (A : Ad) : T3S := (sSeq (sAsg (eCall [.shr, .shr] (sp__law_holds A) (aCons (eVar 6) (aCons (eVar 10) aNil))) (gN 11))
 (b_law_l1t1 A))
def b_law_c4l2t3 (A : Ad) : T3S := (sIf (fNot (fTru (eCall [.shr, .shr, .shr] (sp__law_tells A) (aCons (eVar 15) (aCons (eVar 10) (aCons (eNot (eVar 11)) aNil))))))
 (sRet (eC (.bl false)))
 sNext)
def b_law_c4l2t2 (A : Ad) : T3S := (sSeq (sIf (fOr (fNot (fTru (eCall [.shr, .shr, .shr] (sp__law_tells A) (aCons (eVar 13) (aCons (eVar 10) (aCons (eAnd (eVar 11) (eVar 12)) aNil)))))) (fNot (fTru (eCall [.shr, .shr, .shr] (sp__law_tells A) (aCons (eVar 14) (aCons (eVar 10) (aCons (eOr (eVar 11) (eVar 12)) aNil)))))))
 (sRet (eC (.bl false)))
 sNext)
 (b_law_c4l2t3 A))
def b_law_c4l2t1 (A : Ad) : T3S := (sSeq (sAsg (eCall [.shr, .shr] (sp__law_holds A) (aCons (eVar 7) (aCons (eVar 10) aNil))) (gN 12))
 (b_law_c4l2t2 A))
def b_law_c4l2 (A : Ad) : T3S := (sSeq (sAsg (eCall [.shr, .shr] (sp__law_holds A) (aCons (eVar 6) (aCons (eVar 10) aNil))) (gN 11))
 (b_law_c4l2t1 A))
def b_law_c4t5 (A : Ad) : T3S := (sIf (fOr (fNot (fTru (eCall [.shr, .shr] (sp__law_same A) (aCons (eProp A.Claim .shr (sp_Claim_parts A) (eVar 15)) (aCons (eTup (aCons (eC (.str "not")) (aCons (eVar 6) aNil))) aNil))))) (fNot (fTru (eCall [.shr, .shr] (sp__law_same A) (aCons (eProp A.Claim .shr (sp_Claim_parts A) (eVar 8)) (aCons (eVar 6) aNil))))))
 (sRet (eC (.bl false)))
 sNext)
def b_law_c4t4 (A : Ad) : T3S := (sSeq (sIf (fOr (fNot (fTru (eCall [.shr, .shr] (sp__law_same A) (aCons (eProp A.Claim .shr (sp_Claim_parts A) (eVar 13)) (aCons (eTup (aCons (eC (.str "both")) (aCons (eVar 6) (aCons (eVar 7) aNil)))) aNil))))) (fNot (fTru (eCall [.shr, .shr] (sp__law_same A) (aCons (eProp A.Claim .shr (sp_Claim_parts A) (eVar 14)) (aCons (eTup (aCons (eC (.str "either")) (aCons (eVar 6) (aCons (eVar 7) aNil)))) aNil))))))
 (sRet (eC (.bl false)))
 sNext)
 (b_law_c4t5 A))
def b_law_c4t3 (A : Ad) : T3S := (sSeq (sFor (iS (eVar 5)) (gN 10)
 (b_law_c4l2 A))
 (b_law_c4t4 A))
def b_law_c4t2 (A : Ad) : T3S := (sSeq (sAsg (eOwnU A.Claim [.shr] (sp_Claim___invert__ A) (eVar 8)) (gN 15))
 (b_law_c4t3 A))
def b_law_c4t1 (A : Ad) : T3S := (sSeq (sAsg (eOp (oOwnB A.Claim [.shr, .shr] (sp_Claim___or__ A)) (eVar 8) (eVar 9)) (gN 14))
 (b_law_c4t2 A))
def b_law_t17 (A : Ad) : T3S := (sRet (eAnd (eCall [.shr, .shr] (sp__law_same A) (aCons (eCall [.shr] (sp__law_refused A) (aCons (eVar 18) aNil)) (aCons (eTup (aCons (eC (.str "BadClaim")) (aCons (eVar 19) aNil))) aNil))) (eOp (oEq false) (eCall [.shr] (sp__law_refused A) (aCons (eVar 7) aNil)) (eTup (aCons (eC (.str "none")) (aCons (eC .non) aNil))))))
def b_law_t16 (A : Ad) : T3S := (sSeq (sAsg (eCall [.par, .shr] (sp__law_spoilt A) (aCons (eVar 1) (aCons (eVar 7) aNil))) (gT 2 (fun xs ρ Q => match xs with | x :: r => (gN 18) x ρ fun ρ1 => (fun xs ρ Q => match xs with | x :: r => (gN 19) x ρ fun ρ1 => (fun xs ρ Q => xs = [] ∧ Q ρ) r ρ1 Q | [] => False) r ρ1 Q | [] => False)))
 (b_law_t17 A))
def b_law_t15 (A : Ad) : T3S := (sSeq (sIf (fOr (fTst (eOp (oEq true) (eCall [.shr] (sp__law_refused A) (aCons (eVar 16) aNil)) (eTup (aCons (eC (.str "none")) (aCons (eC .non) aNil))))) (fNot (fTru (eCall [.shr, .shr] (sp__law_same A) (aCons (eCall [.shr] (sp__law_refused A) (aCons (eVar 17) aNil)) (aCons (eTup (aCons (eC (.str "BadClaim")) (aCons (eVar 17) aNil))) aNil))))))
 (sRet (eC (.bl false)))
 sNext)
 (b_law_t16 A))
def b_law_t14 (A : Ad) : T3S := (sSeq (sAsg (eTup (aCons (eC (.str "not")) (aCons (eVar 16) aNil))) (gN 17))
 (b_law_t15 A))
def b_law_t13 (A : Ad) : T3S := (sSeq (sAsg (eCall [.par, .shr, .shr, .shr] (sp__law_deep A) (aCons (eVar 1) (aCons (eVar 4) (aCons (eVar 3) (aCons (eC (.int 5)) aNil))))) (gN 16))
 (b_law_t14 A))
def b_law_t12 (A : Ad) : T3S := (sSeq (sIf (fTst (eOp oLt (eCall [.shr] (sp__law_levels A) (aCons (eVar 6) aNil)) (eC (.int 5))))
 (sSeq (sAsg (eOp (oOwnB A.Claim [.shr, .shr] (sp_Claim___and__ A)) (eVar 8) (eVar 9)) (gN 13))
 (b_law_c4t1 A))
 sNext)
 (b_law_t13 A))
def b_law_t11 (A : Ad) : T3S := (sSeq (sFor (iS (eVar 5)) (gN 10)
 (b_law_l1 A))
 (b_law_t12 A))
def b_law_t10 (A : Ad) : T3S := (sSeq (sIf (fNot (fTst (eOp (oOwn A.Claim [.shr, .shr] (sp_Claim___eq__ A)) (eVar 8) (eShr (oMake A.Claim [.shr] (sp_Claim___init__ A) (aCons (eVar 6) aNil))))))
 (sRet (eC (.bl false)))
 sNext)
 (b_law_t11 A))
def b_law_t9 (A : Ad) : T3S := (sSeq (sIf (fOr (fNot (fTru (eCall [.shr, .shr] (sp__law_same A) (aCons (eProp A.Claim .shr (sp_Claim_parts A) (eVar 8)) (aCons (eVar 6) aNil))))) (fTst (eOp (oEq true) (eOp (oOwn A.Claim [.shr, .shr] (sp_Claim___eq__ A)) (eVar 8) (eVar 9)) (eCall [.shr, .shr] (sp__law_same A) (aCons (eVar 6) (aCons (eVar 7) aNil))))))
 (sRet (eC (.bl false)))
 sNext)
 (b_law_t10 A))
def b_law_t8 (A : Ad) : T3S := (sSeq (sAsg (eShr (oMake A.Claim [.shr] (sp_Claim___init__ A) (aCons (eVar 7) aNil))) (gN 9))
 (b_law_t9 A))
def b_law_t7 (A : Ad) : T3S := (sSeq (sAsg (eShr (oMake A.Claim [.shr] (sp_Claim___init__ A) (aCons (eVar 6) aNil))) (gN 8))
 (b_law_t8 A))
def b_law_t6 (A : Ad) : T3S := (sSeq (sAsg (eCall [.par, .shr, .shr, .shr] (sp__law_drawn_claim A) (aCons (eVar 1) (aCons (eVar 4) (aCons (eVar 3) (aCons (eC (.int 3)) aNil))))) (gN 7))
 (b_law_t7 A))
def b_law_t5 (A : Ad) : T3S := (sSeq (sAsg (eCall [.par, .shr, .shr, .shr] (sp__law_drawn_claim A) (aCons (eVar 1) (aCons (eVar 4) (aCons (eVar 3) (aCons (eC (.int 5)) aNil))))) (gN 6))
 (b_law_t6 A))
def b_law_t4 (A : Ad) : T3S := (sSeq (sAsg (eShr (oLc (iR1 (aCons (eC (.int 3)) aNil)) (gN 20) fYes (eCall [.par, .shr, .shr] (sp__law_drawn_look A) (aCons (eVar 1) (aCons (eVar 4) (aCons (eSl (eVar 3) pNo (pSo (eC (.int 2)))) aNil)))) [20])) (gN 5))
 (b_law_t5 A))
def b_law_t3 (A : Ad) : T3S := (sSeq (sAsg (eLst (aCons (eC (.str "row")) (aCons (eC (.str "text 1")) (aCons (eOp oAdd (eC (.str "button ")) (eOp oIdx (eVar 3) (eC (.int 0)))) (aCons (eOp oAdd (eOp oMulS (eOp oIdx (eVar 3) (eC (.int 1))) (eC (.int 2))) (eC (.str "-"))) (aCons (eOp oMulS (eC (.str "a")) (eC (.int 20))) aNil)))))) (gN 4))
 (b_law_t4 A))
def b_law_t2 (A : Ad) : T3S := (sSeq (sAsg (eShr (oLc (iR1 (aCons (eC (.int 3)) aNil)) (gN 20) fYes (eCall [.par, .par] (sp__law_new_name A) (aCons (eVar 1) (aCons (eVar 2) aNil))) [20])) (gN 3))
 (b_law_t3 A))
def b_law_t1 (A : Ad) : T3S := (sSeq (sAsgO (oLst aNil) 2)
 (b_law_t2 A))
def b_law (A : Ad) : T3S := (sSeq (sAsgO (oCall [.shr] (sp__law_bag A) (aCons (eVar 0) aNil)) 1)
 (b_law_t1 A))
section
variable (A : Ad) {QR QO : D → List D → Prop} {x : D}
def loE (A : Ad) (x bag used : D) (ws ls : List Str) (looks : List Lk) (p o : Cl) (s10 s11 s12 s13 s14 s15 s16 s17 : Sl) : En :=
  [.shr x, .own bag, .own used, .shr (uD ws), .shr (uD ls), .shr (.lst (looks.map Lk.d)), .shr p.d, .shr o.d, .shr (cO A p), .shr (cO A o), s10, s11, s12, s13, s14, s15, s16, s17, .emp, .emp, .emp]
theorem law_15 {bag used : D} {ws ls : List Str} {looks : List Lk} {p o c : Cl} {s10 s11 s12 s13 s14 s15 : Sl} (hb : isBag bag) (ho : o.good) (do3 : o.dep ≤ 3) (hc : c.good) (dc : c.dep = 5) (h : QR (.bl true) [x]) :
    b_law_t15 A (endE [.shr] [x] QR QO) (loE A x bag used ws ls looks p o s10 s11 s12 s13 s14 s15 (.shr c.d) (.shr (Cl.neg c).d)) := by
  have dn : (Cl.neg c).dep ≤ 8 := by show c.dep + 1 ≤ 8; omega
  have sN : (D.tup [.str "none", .non]).shp = true := by decide +kernel
  refine ⟨rfl, c, rfl, (good_fine c hc).1, by omega, res_good hc (by omega) ⟨sz 2 rfl, sN, sN, rfl, .neg c, rfl, (good_fine (.neg c) hc).1, dn, res_high (c := .neg c) hc (by show ¬ c.dep + 1 ≤ 5; omega) ⟨sz 2 rfl, rfl, bcD (Cl.neg c).d, bcD (Cl.neg c).d, true, rfl, ⟨_, rfl⟩, ⟨_, rfl⟩, bc_good (c := .neg c) hc dn, bc_good (c := .neg c) hc dn, decide_eq_true rfl, ?_⟩⟩⟩
  refine ⟨rfl, bag, o, rfl, hb, ho, by omega, fun c' q bag hf hbd hdp hb => ⟨rfl, rfl, rfl, rfl, ?_⟩⟩
  have ht := bc_odd (bad_tel hf hbd)
  exact ⟨rfl, c', rfl, hf, by omega, res_bad hbd ⟨sz 2 rfl, rfl, bcD q, bcD q, true, rfl, ⟨_, rfl⟩, ⟨_, rfl⟩, ht, ht, decide_eq_true rfl, ⟨rfl, o, rfl, (good_fine o ho).1, by omega, res_good ho (by omega) ⟨sz 2 rfl, sN, sN, h⟩⟩⟩⟩
theorem law_13 {bag used : D} {ws ls : List Str} {looks : List Lk} {p o : Cl} {s10 s11 s12 s13 s14 s15 : Sl} (hb : isBag bag) (hls : lbs ls) (hws : wds ws) (ho : o.good) (do3 : o.dep ≤ 3) (h : QR (.bl true) [x]) :
    b_law_t13 A (endE [.shr] [x] QR QO) (loE A x bag used ws ls looks p o s10 s11 s12 s13 s14 s15 .emp .emp) :=
  ⟨rfl, bag, ls, ws, rfl, hb, hls, hws, fun c bag hc dc hb => ⟨rfl, sz 2 rfl, rfl, law_15 A hb ho do3 hc dc h⟩⟩
theorem law_c4 {bag used : D} {ws ls : List Str} {looks : List Lk} {p o : Cl} {s10 s11 s12 : Sl} {E : E3} (hk : ∀ k ∈ looks, k.ok) (hp : p.good) (dp : p.dep ≤ 4) (ho : o.good) (do3 : o.dep ≤ 3) (h10 : s10.locked = false) (h11 : s11.locked = false) (h12 : s12.locked = false)
    (hE : ∀ s10 s11 s12, E.nx (loE A x bag used ws ls looks p o s10 s11 s12 (.shr (cO A (.both p o))) (.shr (cO A (.eith p o))) (.shr (cO A (.neg p))) .emp .emp)) :
    b_law_c4t3 A E (loE A x bag used ws ls looks p o s10 s11 s12 (.shr (cO A (.both p o))) (.shr (cO A (.eith p o))) (.shr (cO A (.neg p))) .emp .emp) := by
  have db : (Cl.both p o).dep ≤ 5 := by show max p.dep o.dep + 1 ≤ 5; omega
  have de : (Cl.eith p o).dep ≤ 5 := by show max p.dep o.dep + 1 ≤ 5; omega
  have dn : (Cl.neg p).dep ≤ 5 := by show p.dep + 1 ≤ 5; omega
  refine for_inv (fun i ρ => ∃ s10 s11 s12, s10.locked = false ∧ s11.locked = false ∧ s12.locked = false ∧ ρ = loE A x bag used ws ls looks p o s10 s11 s12 (.shr (cO A (.both p o))) (.shr (cO A (.eith p o))) (.shr (cO A (.neg p))) .emp .emp) (looks.map Lk.d) ?_ ?_ ⟨s10, s11, s12, h10, h11, h12, rfl⟩
  · rintro i d ρ N hd ⟨s10, s11, s12, h10, h11, h12, rfl⟩ hN
    rw [List.getElem?_map] at hd
    obtain ⟨k, hk', rfl⟩ := Option.map_eq_some_iff.mp hd
    have hk := hk k (List.mem_of_getElem? hk')
    refine ⟨unF h10, rfl, p, k, rfl, hp, hk, by omega, unF h11, rfl, o, k, rfl, ho, hk, by omega, unF h12, ?_⟩
    have key : ∀ a b : Bool, p.holds k = a → o.holds k = b → b_law_c4l2t2 A { nx := N, rt := E.rt, ro := E.ro, bk := E.nx, ct := N } (loE A x bag used ws ls looks p o (.shr k.d) (.shr (.bl a)) (.shr (.bl b)) (.shr (cO A (.both p o))) (.shr (cO A (.eith p o))) (.shr (cO A (.neg p))) .emp .emp) := by
      intro a b ea eb
      have e1 : (Cl.both p o).holds k = (a && b) := by show (p.holds k && o.holds k) = _; rw [ea, eb]
      have e2 : (Cl.eith p o).holds k = (a || b) := by show (p.holds k || o.holds k) = _; rw [ea, eb]
      have e3 : (Cl.neg p).holds k = !a := by show (!p.holds k) = _; rw [ea]
      have fin := hN (loE A x bag used ws ls looks p o (.shr k.d) (.shr (.bl a)) (.shr (.bl b)) (.shr (cO A (.both p o))) (.shr (cO A (.eith p o))) (.shr (cO A (.neg p))) .emp .emp) ⟨_, _, _, rfl, rfl, rfl, rfl⟩
      cases a <;> cases b <;> exact ⟨rfl, .both p o, k, _, rfl, ⟨hp, ho⟩, by omega, hk, e1, rfl, .eith p o, k, _, rfl, ⟨hp, ho⟩, by omega, hk, e2, rfl, .neg p, k, _, rfl, hp, by omega, hk, e3, fin⟩
    exact key _ _ rfl rfl
  · rintro ρ ⟨s10, s11, s12, h10, h11, h12, rfl⟩
    have tb := cl_tel (c := .both p o) ⟨hp, ho⟩ (by omega)
    have te := cl_tel (c := .eith p o) ⟨hp, ho⟩ (by omega)
    have tn := cl_tel (c := .neg p) hp (by omega)
    have tp := cl_tel hp (by omega)
    exact ⟨trivial, rfl, rfl, .both p o, rfl, ⟨hp, ho⟩, sz 3 rfl, rfl, (Cl.both p o).d, (Cl.both p o).d, true, rfl, ⟨_, rfl⟩, ⟨_, rfl⟩, tb, tb, decide_eq_true rfl, rfl, rfl, .eith p o, rfl, ⟨hp, ho⟩, sz 3 rfl, rfl, (Cl.eith p o).d, (Cl.eith p o).d, true, rfl, ⟨_, rfl⟩, ⟨_, rfl⟩, te, te, decide_eq_true rfl,
      rfl, rfl, .neg p, rfl, hp, sz 2 rfl, rfl, (Cl.neg p).d, (Cl.neg p).d, true, rfl, ⟨_, rfl⟩, ⟨_, rfl⟩, tn, tn, decide_eq_true rfl, rfl, rfl, p, rfl, hp, rfl, p.d, p.d, true, rfl, tup_good hp, tup_good hp, tp, tp, decide_eq_true rfl, hE _ _ _⟩
theorem law_12 {bag used : D} {ws ls : List Str} {looks : List Lk} {p o : Cl} {s10 s11 s12 : Sl} (hb : isBag bag) (hls : lbs ls) (hws : wds ws) (hk : ∀ k ∈ looks, k.ok) (hp : p.good) (dp : p.dep ≤ 5) (ho : o.good) (do3 : o.dep ≤ 3) (h10 : s10.locked = false) (h11 : s11.locked = false) (h12 : s12.locked = false) (h : QR (.bl true) [x]) :
    b_law_t12 A (endE [.shr] [x] QR QO) (loE A x bag used ws ls looks p o s10 s11 s12 .emp .emp .emp .emp .emp) := by
  refine ⟨rfl, p, rfl, hp, by omega, ifs (fun z => ?_) fun z => law_13 A hb hls hws ho do3 h⟩
  have z : (p.dep : Int) < 5 := of_decide_eq_true z
  have dp : p.dep ≤ 4 := by omega
  exact ⟨⟨rfl, rfl⟩, rfl, p, o, rfl, hp, ho, dp, by omega, rfl, ⟨rfl, rfl⟩, rfl, p, o, rfl, hp, ho, dp, by omega, rfl, rfl, rfl, p, rfl, hp, dp, rfl, law_c4 A hk hp dp ho do3 h10 h11 h12 fun _ _ _ => law_13 A hb hls hws ho do3 h⟩
theorem law_11 {bag used : D} {ws ls : List Str} {looks : List Lk} {p o : Cl} (hb : isBag bag) (hls : lbs ls) (hws : wds ws) (hk : ∀ k ∈ looks, k.ok) (hp : p.good) (dp : p.dep ≤ 5) (ho : o.good) (do3 : o.dep ≤ 3) (h : QR (.bl true) [x]) :
    b_law_t11 A (endE [.shr] [x] QR QO) (loE A x bag used ws ls looks p o .emp .emp .emp .emp .emp .emp .emp .emp) := by
  refine for_inv (fun i ρ => ∃ s10 s11 s12, s10.locked = false ∧ s11.locked = false ∧ s12.locked = false ∧ ρ = loE A x bag used ws ls looks p o s10 s11 s12 .emp .emp .emp .emp .emp) (looks.map Lk.d) ?_ ?_ ⟨.emp, .emp, .emp, rfl, rfl, rfl, rfl⟩
  · rintro i d ρ N hd ⟨s10, s11, s12, h10, h11, h12, rfl⟩ hN
    rw [List.getElem?_map] at hd
    obtain ⟨k, hk', rfl⟩ := Option.map_eq_some_iff.mp hd
    have hk := hk k (List.mem_of_getElem? hk')
    exact ⟨unF h10, rfl, p, k, rfl, hp, hk, by omega, unF h11, rfl, o, k, rfl, ho, hk, by omega, unF h12, rfl, p, k, _, rfl, hp, by omega, hk, rfl, rfl, o, k, _, rfl, ho, by omega, hk, rfl, rfl, p, k, _, rfl, hp, by omega, hk, rfl, hN _ ⟨.shr k.d, .shr (.bl (p.holds k)), .shr (.bl (o.holds k)), rfl, rfl, rfl, rfl⟩⟩
  · rintro ρ ⟨s10, s11, s12, h10, h11, h12, rfl⟩
    exact ⟨trivial, law_12 A hb hls hws hk hp dp ho do3 h10 h11 h12 h⟩
theorem law_7 {bag used : D} {ws ls : List Str} {looks : List Lk} {p o : Cl} (hb : isBag bag) (hls : lbs ls) (hws : wds ws) (hk : ∀ k ∈ looks, k.ok) (hp : p.good) (dp : p.dep ≤ 5) (ho : o.good) (do3 : o.dep ≤ 3) (h : QR (.bl true) [x]) :
    b_law_t7 A (endE [.shr] [x] QR QO) [.shr x, .own bag, .own used, .shr (uD ws), .shr (uD ls), .shr (.lst (looks.map Lk.d)), .shr p.d, .shr o.d, .emp, .emp, .emp, .emp, .emp, .emp, .emp, .emp, .emp, .emp, .emp, .emp, .emp] := by
  have tp := cl_tel hp (by omega)
  have to := cl_tel ho (by omega)
  refine ⟨rfl, p, rfl, (good_fine p hp).1, by omega, res_good hp dp ⟨rfl, rfl, rfl, o, rfl, (good_fine o ho).1, by omega, res_good ho (by omega) ⟨rfl, rfl, ?_⟩⟩⟩
  show b_law_t9 A (endE [.shr] [x] QR QO) (loE A x bag used ws ls looks p o .emp .emp .emp .emp .emp .emp .emp .emp)
  refine ⟨rfl, rfl, p, rfl, hp, rfl, p.d, p.d, true, rfl, tup_good hp, tup_good hp, tp, tp, decide_eq_true rfl, ?_⟩
  have key : ∀ r : Bool, D.eqv p.d o.d = r → True := fun _ _ => trivial
  have t10 : b_law_t10 A (endE [.shr] [x] QR QO) (loE A x bag used ws ls looks p o .emp .emp .emp .emp .emp .emp .emp .emp) :=
    ⟨rfl, p, rfl, (good_fine p hp).1, by omega, res_good hp dp ⟨rfl, ⟨rfl, rfl⟩, rfl, p, p, true, rfl, hp, hp, by omega, by omega, eqv_refl hp, law_11 A hb hls hws hk hp dp ho do3 h⟩⟩
  cases e : D.eqv p.d o.d with
  | true => exact ⟨⟨rfl, rfl⟩, rfl, p, o, true, rfl, hp, ho, by omega, by omega, e, rfl, p.d, o.d, true, rfl, tup_good hp, tup_good ho, tp, to, (same_eqv hp ho).trans e, rfl, rfl, t10⟩
  | false => exact ⟨⟨rfl, rfl⟩, rfl, p, o, false, rfl, hp, ho, by omega, by omega, e, rfl, p.d, o.d, false, rfl, tup_good hp, tup_good ho, tp, to, (same_eqv hp ho).trans e, rfl, rfl, t10⟩
end
theorem law_4 (A : Ad) {QR QO : D → List D → Prop} {x bag used : D} {w0 w1 w2 : Str} {L : List Str} (hb : isBag bag) (hls : lbs L) (hws : wds [w0, w1, w2]) (hws2 : wds [w0, w1]) (h : QR (.bl true) [x]) :
    b_law_t4 A (endE [.shr] [x] QR QO) [.shr x, .own bag, .own used, .shr (uD [w0, w1, w2]), .shr (uD L), .emp, .emp, .emp, .emp, .emp, .emp, .emp, .emp, .emp, .emp, .emp, .emp, .emp, .emp, .emp, .emp] := by
  refine ⟨⟨by decide, by decide⟩, ?_⟩
  refine lc_inv (fun i acc ρ => ∃ (bag : D) (ks : List Lk), isBag bag ∧ acc = ks.map Lk.d ∧ ks.length = i ∧ (∀ k ∈ ks, k.ok) ∧ ρ = [.shr x, .own bag, .own used, .shr (uD [w0, w1, w2]), .shr (uD L), .emp, .emp, .emp, .emp, .emp, .emp, .emp, .emp, .emp, .emp, .emp, .emp, .emp, .emp, .emp, .emp]) _ ?_ ?_ ⟨bag, [], hb, rfl, rfl, fun w h => by simp at h, rfl⟩
  · rintro i d acc ρ N hd ⟨bag, ks, hb, rfl, hi, hk, rfl⟩ hN
    obtain ⟨hr, rfl⟩ := rngD_get hd
    have hr : i < 3 := hr
    refine ⟨rfl, rfl, rfl, bag, L, [w0, w1], rfl, hb, hls, hws2, fun k bag' hok hb' => ?_⟩
    refine ⟨by rw [List.length_map, hi, sizeLine_eq]; omega, hN _ _ ⟨bag', ks ++ [k], hb', by simp, by simp [hi], fun y hy => ?_, rfl⟩⟩
    rcases List.mem_append.mp hy with z | z
    · exact hk y z
    · have : y = k := by simpa using z
      subst this; exact hok
  · rintro acc ρ ⟨bag, ks, hb, rfl, hi, hk, rfl⟩
    refine ⟨trivial, rfl, ?_⟩
    show b_law_t5 A (endE [.shr] [x] QR QO) [.shr x, .own bag, .own used, .shr (uD [w0, w1, w2]), .shr (uD L), .shr (.lst (ks.map Lk.d)), .emp, .emp, .emp, .emp, .emp, .emp, .emp, .emp, .emp, .emp, .emp, .emp, .emp, .emp, .emp]
    refine ⟨rfl, bag, L, [w0, w1, w2], 5, rfl, hb, hls, hws, ⟨by decide, by decide⟩, fun p bag hp dp hb => ⟨rfl, ?_⟩⟩
    show b_law_t6 A (endE [.shr] [x] QR QO) [.shr x, .own bag, .own used, .shr (uD [w0, w1, w2]), .shr (uD L), .shr (.lst (ks.map Lk.d)), .shr p.d, .emp, .emp, .emp, .emp, .emp, .emp, .emp, .emp, .emp, .emp, .emp, .emp, .emp, .emp]
    exact ⟨rfl, bag, L, [w0, w1, w2], 3, rfl, hb, hls, hws, ⟨by decide, by decide⟩, fun o bag ho do3 hb => ⟨rfl, law_7 A hb hls hws hk hp dp ho do3 h⟩⟩
theorem t_law (A : Ad) : ∀ ds QR QO, sp_law A ds QR QO → ds.length = 1 → b_law A (endE [.shr] ds QR QO) (startE 20 [.shr] ds) := by
  rintro ds QR QO ⟨ns, rfl, hl, h⟩ _
  refine ⟨rfl, ns, rfl, hl, fun bag hb => ⟨rfl, sz 0 rfl, rfl, ⟨by decide, by decide⟩, ?_⟩⟩
  refine lc_inv (fun i acc ρ => ∃ (bag : D) (ws : List Str), isBag bag ∧ acc = ws.map D.str ∧ ws.length = i ∧ (∀ w ∈ ws, wd w) ∧ ρ = [.shr (.scr ns), .own bag, .own (uD ws), .emp, .emp, .emp, .emp, .emp, .emp, .emp, .emp, .emp, .emp, .emp, .emp, .emp, .emp, .emp, .emp, .emp, .emp]) _ ?_ ?_ ⟨bag, [], hb, rfl, rfl, fun w h => by simp at h, rfl⟩
  · rintro i d acc ρ N hd ⟨bag, ws, hb, rfl, hi, hw, rfl⟩ hN
    obtain ⟨hr, rfl⟩ := rngD_get hd
    have hr : i < 3 := hr
    refine ⟨rfl, rfl, rfl, bag, ws, rfl, hb, by omega, hw, fun w bag' hwd hb' => ?_⟩
    refine ⟨by rw [List.length_map, hi, sizeLine_eq]; omega, hN _ _ ⟨bag', ws ++ [w], hb', by simp, by simp [hi], fun y hy => ?_, rfl⟩⟩
    rcases List.mem_append.mp hy with z | z
    · exact hw y z
    · have : y = w := by simpa using z
      subst this; exact hwd
  · rintro acc ρ ⟨bag, ws, hb, rfl, hi, hw, rfl⟩
    have hi : ws.length = 3 := hi
    obtain ⟨w0, w1, w2, rfl⟩ : ∃ a b c, ws = [a, b, c] := by
      match ws, hi with
      | [a, b, c], _ => exact ⟨a, b, c, rfl⟩
    have g0 := hw w0 (by simp)
    have g1 := hw w1 (by simp)
    have g2 := hw w2 (by simp)
    have hws : wds [w0, w1, w2] := ⟨⟨by simp, by simp⟩, hw⟩
    have hws2 : wds [w0, w1] := ⟨⟨by simp, by simp⟩, fun w h => by
      simp only [List.mem_cons, List.not_mem_nil, or_false] at h
      rcases h with rfl | rfl
      · exact g0
      · exact g1⟩
    have hls : lbs ["row", "text 1", ("button " : Str) ++ w0, Txt.mul w1 2 ++ ("-" : Str), Txt.mul "a" 20] := ⟨⟨by simp, by simp⟩, fun s h => by
      simp only [List.mem_cons, List.not_mem_nil, or_false] at h
      rcases h with rfl | rfl | rfl | rfl | rfl
      · exact lb_row
      · exact lb_t1
      · exact lb_but g0
      · exact (lb_dash g1).1
      · exact lb_a20⟩
    have b0 := g0.l2
    have b1 := (lb_dash g1).2
    have m1 : MulOk w1 2 := mulOk (x := w1) (n := 2) (by decide) (by have := g1.l2; omega)
    have m2 : MulOk "a" 20 := mulOk (x := "a") (n := 20) (by decide) (by decide)
    refine ⟨trivial, rfl, ?_⟩
    show b_law_t3 A (endE [.shr] [.scr ns] QR QO) [.shr (.scr ns), .own bag, .own (uD [w0, w1, w2]), .shr (uD [w0, w1, w2]), .emp, .emp, .emp, .emp, .emp, .emp, .emp, .emp, .emp, .emp, .emp, .emp, .emp, .emp, .emp, .emp, .emp]
    have c1 : ("button " : Str).length + w0.length ≤ sizeLine := by
      have e : ("button " : Str).length = 7 := by decide
      rw [e, sizeLine_eq]; omega
    have c2 : (Txt.mul w1 2).length + ("-" : Str).length ≤ sizeLine := by
      have e : ("-" : Str).length = 1 := by decide
      rw [e, sizeLine_eq]; omega
    exact ⟨c1, m1, c2, m2, sz 5 rfl, rfl, law_4 A hb hls hws hws2 h⟩
end K00
end L3

set_option Elab.async false
set_option linter.all false
set_option maxRecDepth 100000
set_option maxHeartbeats 0
namespace L3
namespace K00
open PySem PySem.Spec L2
open PyProof.Rows (b2i envOfC)
def top (i : Nat) : Stmt := PySem.Challenge.pw_pagesheld_k00_claims_read_and_held.main.body.getD i (.Pass ⟨0, 0, 0, 0⟩)
section
variable {P : Program} {w : World} {K : PySem.W.Frag} {mg : Str → Option Value} {base : Heap} {f : Addr} {A : Ad}
abbrev s_is_name : Stmt := top 6
abbrev N_is_name : List Str := ["thing", "sign"]
theorem sc_is_name : FnScope N_is_name ["thing"] (defScope s_is_name) := ⟨rfl, rfl, rfl, by decide +kernel, rfl, by decide +kernel, by decide +kernel⟩
theorem w_is_name (m_len : mg "len" = none) (m_str : mg "str" = none) (m_isinstance : mg "isinstance" = none) (g_LETTERS : ∃ u, mg "LETTERS" = some u ∧ RelV (.str "abcdefghijklmnopqrstuvwxyz") u) (m_all : mg "all" = none) : QB K (CxR 0 P w K mg base N_is_name "is_name" (defScope s_is_name) f) (defBody s_is_name) (b_is_name A) :=
  have hR : ∀ i, Room 0 (CxR 0 P w K mg base N_is_name "is_name" (defScope s_is_name) f i).A := fun i => i.2
  (bc (sif (QW.t (wor (tNot' (ttru (qisi (fun _ => m_isinstance) (qac (qv 0) (qac (qty (T := "str") (fun _ => m_str)) qan))))) (wor (t2 cLt (qlen (fun _ => m_len) (qac (qv 0) qan)) qint) (wo1 (t2 cGt (qlen (fun _ => m_len) (qac (qv 0) qan)) qint)))))
 (b1 (sret qbl))
 bn)
 (b1 (sret (qall (fun _ => rfl) (fun _ => m_all) (qac (QO.sh (olc [("sign", 1)] (istr (qv 0)) (gn 1 (hnd := fun _ => sc_is_name.nd)) tsn (q2 cInT (qv 1) (qglob (fun _ => g_LETTERS) (fun _ _ => rp_str))) (fun _ => blkOk_by (own := [("sign", 1)]) (N := N_is_name) (sc := defScope s_is_name) (by decide +kernel)) (hnd := fun _ => sc_is_name.nd))) qan)))))
abbrev s_is_number : Stmt := top 7
abbrev N_is_number : List Str := ["thing", "low", "high"]
theorem sc_is_number : FnScope N_is_number ["thing", "low", "high"] (defScope s_is_number) := ⟨rfl, rfl, rfl, by decide +kernel, rfl, by decide +kernel, by decide +kernel⟩
theorem w_is_number (m_bool : mg "bool" = none) (m_isinstance : mg "isinstance" = none) (m_int : mg "int" = none) : QB K (CxR 0 P w K mg base N_is_number "is_number" (defScope s_is_number) f) (defBody s_is_number) (b_is_number A) :=
  have hR : ∀ i, Room 0 (CxR 0 P w K mg base N_is_number "is_number" (defScope s_is_number) f i).A := fun i => i.2
  (b1 (sret (qAnd (qisi (fun _ => m_isinstance) (qac (qv 0) (qac (qty (T := "int") (fun _ => m_int)) qan))) (qAnd (qNot (qisi (fun _ => m_isinstance) (qac (qv 0) (qac (qty (T := "bool") (fun _ => m_bool)) qan)))) (q1b (q3c cLe cLe (qv 1) (qv 0) (qv 2)))))))
abbrev s_is_claim_part : Stmt := top 13
abbrev N_is_claim_part : List Str := ["part"]
theorem sc_is_claim_part : FnScope N_is_claim_part ["part"] (defScope s_is_claim_part) := ⟨rfl, rfl, rfl, by decide +kernel, rfl, by decide +kernel, by decide +kernel⟩
theorem w_is_claim_part (m_len : mg "len" = none) (m_tuple : mg "tuple" = none) (m_isinstance : mg "isinstance" = none) (g_ITEMS : ∃ u, mg "ITEMS" = some u ∧ RelV (.ref A.ITEMS) u) (kd_ITEMS : KD3 K w A.ITEMS tbl_ITEMS) (ka_ITEMS : KA3 K A.ITEMS abs_ITEMS) (m_str : mg "str" = none) (g_MOST_LABEL : ∃ u, mg "MOST_LABEL" = some u ∧ RelV (.int 20) u) (d_is_number : C3 P w K mg base 1 "is_number" [.shr, .shr, .shr] (sp_is_number A)) (d_is_name : C3 P w K mg base 1 "is_name" [.shr] (sp_is_name A)) : QB K (CxR 1 P w K mg base N_is_claim_part "is_claim_part" (defScope s_is_claim_part) f) (defBody s_is_claim_part) (b_is_claim_part A) :=
  have hR : ∀ i, Room 1 (CxR 1 P w K mg base N_is_claim_part "is_claim_part" (defScope s_is_claim_part) f i).A := fun i => i.2
  (bc (sif (QW.t (wor (tNot' (ttru (qisi (fun _ => m_isinstance) (qac (qv 0) (qac (qty (T := "tuple") (fun _ => m_tuple)) qan))))) (wo1 (t2 (cEq hR) (qlen (fun _ => m_len) (qac (qv 0) qan)) qint))))
 (b1 (sret qbl))
 bn)
 (bc (sif (QW.t (wor (tNot' (ttru (qisi (fun _ => m_isinstance) (qac (qix (qv 0) qint) (qac (qty (T := "str") (fun _ => m_str)) qan))))) (wor (t2 (cKNotInA (fun _ => kd_ITEMS) (fun _ => ka_ITEMS)) (qix (qv 0) qint) (qglob (fun _ => g_ITEMS) rp_cls)) (wo1 (t2 (cNe hR) (qlen (fun _ => m_len) (qac (qv 0) qan)) (qkget (fun _ => kd_ITEMS) (qglob (fun _ => g_ITEMS) rp_cls) (qix (qv 0) qint)))))))
 (b1 (sret qbl))
 bn)
 (bc (sif (t2 (cEq hR) (qix (qv 0) qint) qstr)
 (bc (sif (QW.t (wor (tNot' (ttru (qisi (fun _ => m_isinstance) (qac (qix (qv 0) qint) (qac (qty (T := "str") (fun _ => m_str)) qan))))) (wo1 (tNot' (t3c cLe cLe qint (qlen (fun _ => m_len) (qac (qix (qv 0) qint) qan)) (qglob (fun _ => g_MOST_LABEL) (fun _ _ => rp_int)))))))
 (b1 (sret qbl))
 bn)
 (b1 (sret (qcall (fun _ => d_is_number) hR (by decide) (qac (qix (qv 0) qint) (qac qint (qac qint qan)))))))
 bn)
 (bc (sif (t2 (cEq hR) (qix (qv 0) qint) qstr)
 (b1 (sret (qcall (fun _ => d_is_name) hR (by decide) (qac (qix (qv 0) qint) qan))))
 bn)
 (bc (sif (t2 (cEq hR) (qix (qv 0) qint) qstr)
 (b1 (sret (qcall (fun _ => d_is_number) hR (by decide) (qac (qix (qv 0) qint) (qac qint (qac qint qan))))))
 bn)
 (b1 (sret qbl)))))))
abbrev s_check_claim : Stmt := top 14
abbrev N_check_claim : List Str := ["parts", "waiting", "deepest", "part", "level", "at"]
theorem sc_check_claim : FnScope N_check_claim ["parts"] (defScope s_check_claim) := ⟨rfl, rfl, rfl, by decide +kernel, rfl, by decide +kernel, by decide +kernel⟩
theorem w_check_claim (d_is_claim_part : C3 P w K mg base 2 "is_claim_part" [.shr] (sp_is_claim_part A)) (xc_BadClaim : Xc3 P w K mg base 1 "BadClaim" A.BadClaim (fl1 "part" false)) (g_JOINERS : (∃ u, mg "JOINERS" = some u ∧ RelV (.ref A.JOINERS) u) ∧ KT K A.JOINERS ((["not", "both", "either"] : List Str).map V.str)) (m_len : mg "len" = none) (m_range : mg "range" = none) (g_MOST_LEVELS : ∃ u, mg "MOST_LEVELS" = some u ∧ RelV (.int 5) u) : QBX K (CxRX 2 P w K mg base N_check_claim "check_claim" (defScope s_check_claim) f) (defBody s_check_claim) (b_check_claim A) :=
  have hR : ∀ i, Room 2 (CxRX 2 P w K mg base N_check_claim "check_claim" (defScope s_check_claim) f i).A := fun i => i.2
  (xc (xs (ssetO 1 (olst (qac (qtup (qac (qv 0) (qac qint qan))) qan)) (hnd := fun _ => sc_check_claim.nd)))
 (xc (xs (sset 2 qint (hnd := fun _ => sc_check_claim.nd)))
 (xc (xwhile (ttru (qv 1)) (xc (xs (sasg (qbm0 PySem.F.plainAttrs_list PySem.F.slot_list_pop PySem.F.type_list_pop (fun _ => mt_pop) simPop (qv 1)) (gtup (gsc (gn 3 (hnd := fun _ => sc_check_claim.nd)) (gsc (gn 4 (hnd := fun _ => sc_check_claim.nd)) gsn)))))
 (xc (xif (tNot' (ttru (qcall (fun _ => d_is_claim_part) hR (by decide) (qac (qv 3) qan))))
 (x1 (xraise (fun _ => xc_BadClaim) hR (by decide) (qac (qv 3) qan)))
 xn)
 (xc (xs (sif (t2 cGt (qv 4) (qv 2))
 (b1 (sset 2 (qv 4) (hnd := fun _ => sc_check_claim.nd)))
 bn))
 (x1 (xs (sif (t2 (cIn hR) (qix (qv 3) qint) (qkts (fun _ => g_JOINERS.1) g_JOINERS.2))
 (b1 (sfor (irng3 (fun _ => m_range) (qac (qsub (qlen (fun _ => m_len) (qac (qv 3) qan)) qint) (qac qint (qac (qneg qint) qan)))) (gn 5 (hnd := fun _ => sc_check_claim.nd))
 (b1 (sexpr (qbm PySem.F.plainAttrs_list PySem.F.slot_list_append PySem.F.type_list_append (fun _ => mt_append) simAppend (qv 1) (qac (qtup (qac (qix (qv 3) (qv 5)) (qac (qadd (qv 4) qint) qan))) qan)))) (hp := passRX)))
 bn)))))) passRX)
 (x1 (xif (t2 cGt (qv 2) (qglob (fun _ => g_MOST_LEVELS) (fun _ _ => rp_int)))
 (x1 (xraise (fun _ => xc_BadClaim) hR (by decide) (qac (qv 0) qan)))
 xn)))))
abbrev s_labels_in : Stmt := top 15
abbrev N_labels_in : List Str := ["shown", "out", "part"]
theorem sc_labels_in : FnScope N_labels_in ["shown"] (defScope s_labels_in) := ⟨rfl, rfl, rfl, by decide +kernel, rfl, by decide +kernel, by decide +kernel⟩
theorem w_labels_in {lv : Nat} {sm : S3} (me : C3 P w K mg base lv "labels_in" [.shr] sm) : QB K (CxR lv P w K mg base N_labels_in "labels_in" (defScope s_labels_in) f) (defBody s_labels_in) (b_labels_in A sm) :=
  have hR : ∀ i, Room lv (CxR lv P w K mg base N_labels_in "labels_in" (defScope s_labels_in) f i).A := fun i => i.2
  (bc (ssetO 1 (olst (qac (qix (qv 0) qint) qan)) (hnd := fun _ => sc_labels_in.nd))
 (bc (sfor (iseq (qix (qv 0) qint)) (gn 2 (hnd := fun _ => sc_labels_in.nd))
 (b1 (sexpr (qbm PySem.F.plainAttrs_list PySem.F.slot_list_extend PySem.F.type_list_extend (fun _ => mt_extend) simExtend (qv 1) (qac (qcall (fun _ => me) hR (Nat.le_refl _) (qac (qv 2) qan)) qan)))))
 (b1 (sfrz 1 (sret (qv 1))))))
abbrev s_holds_of : Stmt := top 16
abbrev N_holds_of : List Str := ["parts", "look", "word", "first", "row"]
theorem sc_holds_of : FnScope N_holds_of ["parts", "look"] (defScope s_holds_of) := ⟨rfl, rfl, rfl, by decide +kernel, rfl, by decide +kernel, by decide +kernel⟩
theorem w_holds_of {lv : Nat} {sm : S3} (d_labels_in : C3 P w K mg base 5 "labels_in" [.shr] (sp_labels_in A)) (m_len : mg "len" = none) (me : C3 P w K mg base lv "holds_of" [.shr, .shr] sm) (hlv : 5 ≤ lv) : QB K (CxR lv P w K mg base N_holds_of "holds_of" (defScope s_holds_of) f) (defBody s_holds_of) (b_holds_of A sm) :=
  have hR : ∀ i, Room lv (CxR lv P w K mg base N_holds_of "holds_of" (defScope s_holds_of) f i).A := fun i => i.2
  (bc (sset 2 (qix (qv 0) qint) (hnd := fun _ => sc_holds_of.nd))
 (bc (sif (t2 (cEq hR) (qv 2) qstr)
 (b1 (sret (q2 cGe (qbm PySem.F.plainAttrs_list PySem.F.slot_list_count PySem.F.type_list_count (fun _ => mt_countS) simCountS (qcall (fun _ => d_labels_in) hR (Nat.le_trans (by decide) hlv) (qac (qix (qv 1) qint) qan)) (qac (qix (qv 0) qint) qan)) (qix (qv 0) qint))))
 bn)
 (bc (sif (t2 (cEq hR) (qv 2) qstr)
 (b1 (sret (q2 (cIn hR) (qix (qv 0) qint) (QO.sh (olc [("row", 4)] (iseq (qix (qv 1) qint)) (gn 4 (hnd := fun _ => sc_holds_of.nd)) tsn (qix (qv 4) qint) (fun _ => blkOk_by (own := [("row", 4)]) (N := N_holds_of) (sc := defScope s_holds_of) (by decide +kernel)) (hnd := fun _ => sc_holds_of.nd))))))
 bn)
 (bc (sif (t2 (cEq hR) (qv 2) qstr)
 (b1 (sret (q2 cGe (qlen (fun _ => m_len) (qac (qix (qv 1) qint) qan)) (qix (qv 0) qint))))
 bn)
 (bc (sif (t2 (cEq hR) (qv 2) qstr)
 (b1 (sret (q2 cNotN (qix (qv 1) qint) qnon)))
 bn)
 (bc (sset 3 (qcall (fun _ => me) hR (Nat.le_refl _) (qac (qix (qv 0) qint) (qac (qv 1) qan))) (hnd := fun _ => sc_holds_of.nd))
 (bc (sif (t2 (cEq hR) (qv 2) qstr)
 (b1 (sret (qNot (qv 3))))
 bn)
 (bc (sif (t2 (cEq hR) (qv 2) qstr)
 (b1 (sret (qAnd (qv 3) (q1b (qcall (fun _ => me) hR (Nat.le_refl _) (qac (qix (qv 0) qint) (qac (qv 1) qan)))))))
 bn)
 (b1 (sret (qOr (qv 3) (q1b (qcall (fun _ => me) hR (Nat.le_refl _) (qac (qix (qv 0) qint) (qac (qv 1) qan)))))))))))))))
abbrev s_Claim___init__ : Stmt := inClass (top 17) 0
abbrev N_Claim___init__ : List Str := ["self", "parts"]
theorem sc_Claim___init__ : FnScope N_Claim___init__ ["self", "parts"] (defScope s_Claim___init__) := ⟨rfl, rfl, rfl, by decide +kernel, rfl, by decide +kernel, by decide +kernel⟩
theorem w_Claim___init__ (dx_check_claim : C3X P w K mg base 3 "check_claim" [.shr] (sx_check_claim A)) (c_Claim : Cls K A.Claim) (n_Claim__parts : NoAttr K A.Claim "_parts") : QBX K (CxRX 3 P w K mg base N_Claim___init__ "Claim.__init__" (defScope s_Claim___init__) f) (defBody s_Claim___init__) (b_Claim___init__ A) :=
  have hR : ∀ i, Room 3 (CxRX 3 P w K mg base N_Claim___init__ "Claim.__init__" (defScope s_Claim___init__) f i).A := fun i => i.2
  (xc (xexpr (xcall (fun _ => dx_check_claim) hR (by decide) (qac (qv 1) qan)))
 (x1 (xs (sfld c_Claim n_Claim__parts (qv 0) (qv 1)))))
abbrev s_Claim_parts : Stmt := inClass (top 17) 1
abbrev N_Claim_parts : List Str := ["self"]
theorem sc_Claim_parts : FnScope N_Claim_parts ["self"] (defScope s_Claim_parts) := ⟨rfl, rfl, rfl, by decide +kernel, rfl, by decide +kernel, by decide +kernel⟩
theorem w_Claim_parts (c_Claim : Cls K A.Claim) (n_Claim__parts : NoAttr K A.Claim "_parts") : QB K (CxR 0 P w K mg base N_Claim_parts "Claim.parts" (defScope s_Claim_parts) f) (defBody s_Claim_parts) (b_Claim_parts A) :=
  have hR : ∀ i, Room 0 (CxR 0 P w K mg base N_Claim_parts "Claim.parts" (defScope s_Claim_parts) f i).A := fun i => i.2
  (b1 (sret (qfld c_Claim n_Claim__parts (qv 0))))
abbrev s_Claim___call__ : Stmt := inClass (top 17) 2
abbrev N_Claim___call__ : List Str := ["self", "look"]
theorem sc_Claim___call__ : FnScope N_Claim___call__ ["self", "look"] (defScope s_Claim___call__) := ⟨rfl, rfl, rfl, by decide +kernel, rfl, by decide +kernel, by decide +kernel⟩
theorem w_Claim___call__ (c_Claim : Cls K A.Claim) (n_Claim__parts : NoAttr K A.Claim "_parts") (d_holds_of : C3 P w K mg base 13 "holds_of" [.shr, .shr] (sp_holds_of A)) : QB K (CxR 13 P w K mg base N_Claim___call__ "Claim.__call__" (defScope s_Claim___call__) f) (defBody s_Claim___call__) (b_Claim___call__ A) :=
  have hR : ∀ i, Room 13 (CxR 13 P w K mg base N_Claim___call__ "Claim.__call__" (defScope s_Claim___call__) f i).A := fun i => i.2
  (b1 (sret (qcall (fun _ => d_holds_of) hR (by decide) (qac (qfld c_Claim n_Claim__parts (qv 0)) (qac (qv 1) qan)))))
abbrev s_Claim___and__ : Stmt := inClass (top 17) 3
abbrev N_Claim___and__ : List Str := ["self", "other"]
theorem sc_Claim___and__ : FnScope N_Claim___and__ ["self", "other"] (defScope s_Claim___and__) := ⟨rfl, rfl, rfl, by decide +kernel, rfl, by decide +kernel, by decide +kernel⟩
theorem w_Claim___and__ (p_Claim_parts : Pr3 P w K mg base 1 A.Claim "parts" .shr (sp_Claim_parts A)) (c_Claim : Cls K A.Claim) (n_Claim__parts : NoAttr K A.Claim "_parts") (k_Claim : Mk3 P w K mg base 4 "Claim" A.Claim [.shr] (sp_Claim___init__ A)) : QB K (CxR 5 P w K mg base N_Claim___and__ "Claim.__and__" (defScope s_Claim___and__) f) (defBody s_Claim___and__) (b_Claim___and__ A) :=
  have hR : ∀ i, Room 5 (CxR 5 P w K mg base N_Claim___and__ "Claim.__and__" (defScope s_Claim___and__) f i).A := fun i => i.2
  (b1 (sret (QO.sh (omake (fun _ => k_Claim) hR (by decide) (qac (qtup (qac qstr (qac (qfld c_Claim n_Claim__parts (qv 0)) (qac (qprop (fun _ => p_Claim_parts) hR (by decide) (qv 1)) qan)))) qan)))))
abbrev s_Claim___or__ : Stmt := inClass (top 17) 4
abbrev N_Claim___or__ : List Str := ["self", "other"]
theorem sc_Claim___or__ : FnScope N_Claim___or__ ["self", "other"] (defScope s_Claim___or__) := ⟨rfl, rfl, rfl, by decide +kernel, rfl, by decide +kernel, by decide +kernel⟩
theorem w_Claim___or__ (p_Claim_parts : Pr3 P w K mg base 1 A.Claim "parts" .shr (sp_Claim_parts A)) (c_Claim : Cls K A.Claim) (n_Claim__parts : NoAttr K A.Claim "_parts") (k_Claim : Mk3 P w K mg base 4 "Claim" A.Claim [.shr] (sp_Claim___init__ A)) : QB K (CxR 5 P w K mg base N_Claim___or__ "Claim.__or__" (defScope s_Claim___or__) f) (defBody s_Claim___or__) (b_Claim___or__ A) :=
  have hR : ∀ i, Room 5 (CxR 5 P w K mg base N_Claim___or__ "Claim.__or__" (defScope s_Claim___or__) f i).A := fun i => i.2
  (b1 (sret (QO.sh (omake (fun _ => k_Claim) hR (by decide) (qac (qtup (qac qstr (qac (qfld c_Claim n_Claim__parts (qv 0)) (qac (qprop (fun _ => p_Claim_parts) hR (by decide) (qv 1)) qan)))) qan)))))
abbrev s_Claim___invert__ : Stmt := inClass (top 17) 5
abbrev N_Claim___invert__ : List Str := ["self"]
theorem sc_Claim___invert__ : FnScope N_Claim___invert__ ["self"] (defScope s_Claim___invert__) := ⟨rfl, rfl, rfl, by decide +kernel, rfl, by decide +kernel, by decide +kernel⟩
theorem w_Claim___invert__ (c_Claim : Cls K A.Claim) (n_Claim__parts : NoAttr K A.Claim "_parts") (k_Claim : Mk3 P w K mg base 4 "Claim" A.Claim [.shr] (sp_Claim___init__ A)) : QB K (CxR 5 P w K mg base N_Claim___invert__ "Claim.__invert__" (defScope s_Claim___invert__) f) (defBody s_Claim___invert__) (b_Claim___invert__ A) :=
  have hR : ∀ i, Room 5 (CxR 5 P w K mg base N_Claim___invert__ "Claim.__invert__" (defScope s_Claim___invert__) f i).A := fun i => i.2
  (b1 (sret (QO.sh (omake (fun _ => k_Claim) hR (by decide) (qac (qtup (qac qstr (qac (qfld c_Claim n_Claim__parts (qv 0)) qan))) qan)))))
abbrev s_Claim___eq__ : Stmt := inClass (top 17) 6
abbrev N_Claim___eq__ : List Str := ["self", "other"]
theorem sc_Claim___eq__ : FnScope N_Claim___eq__ ["self", "other"] (defScope s_Claim___eq__) := ⟨rfl, rfl, rfl, by decide +kernel, rfl, by decide +kernel, by decide +kernel⟩
theorem w_Claim___eq__ (p_Claim_parts : Pr3 P w K mg base 1 A.Claim "parts" .shr (sp_Claim_parts A)) (gc_Claim : mg "Claim" = some (.ref A.Claim)) (i_Claim : C8.InsC K A.Claim) (m_isinstance : mg "isinstance" = none) : QB K (CxR 2 P w K mg base N_Claim___eq__ "Claim.__eq__" (defScope s_Claim___eq__) f) (defBody s_Claim___eq__) (b_Claim___eq__ A) :=
  have hR : ∀ i, Room 2 (CxR 2 P w K mg base N_Claim___eq__ "Claim.__eq__" (defScope s_Claim___eq__) f i).A := fun i => i.2
  (b1 (sret (qAnd (qisC i_Claim (fun _ => m_isinstance) (qac (qv 1) (qac (qglob (v := .ref A.Claim) (d := .cls A.Claim) (fun _ => ⟨_, gc_Claim, rfl⟩) rp_cls) qan))) (q1b (q2 (cEq hR) (qprop (fun _ => p_Claim_parts) hR (by decide) (qv 0)) (qprop (fun _ => p_Claim_parts) hR (by decide) (qv 1)))))))
abbrev s__law_mixed : Stmt := top 19
abbrev N__law_mixed : List Str := ["number", "turn", "first", "second"]
theorem sc__law_mixed : FnScope N__law_mixed ["number", "turn"] (defScope s__law_mixed) := ⟨rfl, rfl, rfl, by decide +kernel, rfl, by decide +kernel, by decide +kernel⟩
theorem w__law_mixed (m_int : mg "int" = none) : QB K (CxR 0 P w K mg base N__law_mixed "_law_mixed" (defScope s__law_mixed) f) (defBody s__law_mixed) (b__law_mixed A) :=
  have hR : ∀ i, Room 0 (CxR 0 P w K mg base N__law_mixed "_law_mixed" (defScope s__law_mixed) f i).A := fun i => i.2
  (bc (sset 2 (qmod (qint1 (fun _ => m_int) (qac (qadd (qmul (qadd (qv 0) qint) qint) (qmul (qadd (qv 1) qint) qint)) qan)) qint) (hnd := fun _ => sc__law_mixed.nd))
 (bc (sset 3 (qmod (qint1 (fun _ => m_int) (qac (qadd (qadd (qmul (qv 2) (qv 2)) (qmul (qv 2) qint)) (qmul (qadd (qv 1) qint) qint)) qan)) qint) (hnd := fun _ => sc__law_mixed.nd))
 (b1 (sret (qmod (qint1 (fun _ => m_int) (qac (qadd (qadd (qfdiv (qv 3) qint) (qmul (qv 3) qint)) (qv 1)) qan)) qint)))))
abbrev s__law_bag : Stmt := top 20
abbrev N__law_bag : List Str := ["script", "numbers", "seed", "at", "cell"]
theorem sc__law_bag : FnScope N__law_bag ["script"] (defScope s__law_bag) := ⟨rfl, rfl, rfl, by decide +kernel, rfl, by decide +kernel, by decide +kernel⟩
theorem w__law_bag (m_int : mg "int" = none) (m_len : mg "len" = none) (m_enumerate : mg "enumerate" = none) (m_abs : mg "abs" = none) : QB K (CxR 0 P w K mg base N__law_bag "_law_bag" (defScope s__law_bag) f) (defBody s__law_bag) (b__law_bag A) :=
  have hR : ∀ i, Room 0 (CxR 0 P w K mg base N__law_bag "_law_bag" (defScope s__law_bag) f i).A := fun i => i.2
  (bc (slc 1 [("cell", 4)] (iseq (qv 0)) (gn 4 (hnd := fun _ => sc__law_bag.nd)) tsn (qint1 (fun _ => m_int) (qac (qv 4) qan)) (fun _ => blkOk_by (own := [("cell", 4)]) (N := N__law_bag) (sc := defScope s__law_bag) (by decide +kernel)) (fun _ => sw_true rfl rfl rfl (by decide +kernel)) (hnd := fun _ => sc__law_bag.nd))
 (bc (sset 2 (qlen (fun _ => m_len) (qac (qv 1) qan)) (hnd := fun _ => sc__law_bag.nd))
 (bc (sfor (ienum (fun _ => m_enumerate) (qac (qsl (qv 1) qno (qpart qint)) qan)) (gtup (gsc (gn 3 (hnd := fun _ => sc__law_bag.nd)) (gsc (gn 4 (hnd := fun _ => sc__law_bag.nd)) gsn)))
 (b1 (sset 2 (qmod (qint1 (fun _ => m_int) (qac (qadd (qadd (qmul (qv 2) qint) (qmod (qint1 (fun _ => m_int) (qac (qabs (fun _ => m_abs) (qac (qv 4) qan)) qan)) qint)) (qmul (qadd (qv 3) qint) (q2 cLt (qv 4) qint))) qan)) qint) (hnd := fun _ => sc__law_bag.nd))))
 (b1 (sretO (olst (qac (qv 1) (qac qint (qac qint (qac qint (qac (qv 2) qan)))))))))))
abbrev s__law_pick : Stmt := top 21
abbrev N__law_pick : List Str := ["bag", "many", "turn", "cell", "worth"]
theorem sc__law_pick : FnScope N__law_pick ["bag", "many"] (defScope s__law_pick) := ⟨rfl, rfl, rfl, by decide +kernel, rfl, by decide +kernel, by decide +kernel⟩
theorem w__law_pick (m_len : mg "len" = none) (m_abs : mg "abs" = none) (d__law_mixed : C3 P w K mg base 1 "_law_mixed" [.shr, .shr] (sp__law_mixed A)) (m_int : mg "int" = none) : QB K (CxR 1 P w K mg base N__law_pick "_law_pick" (defScope s__law_pick) f) (defBody s__law_pick) (b__law_pick A) :=
  have hR : ∀ i, Room 1 (CxR 1 P w K mg base N__law_pick "_law_pick" (defScope s__law_pick) f i).A := fun i => i.2
  (bc (sset 2 (qix (qv 0) qint) (hnd := fun _ => sc__law_pick.nd))
 (bc (sput (qadd (qv 2) qint) (qv 0) qint)
 (bc (sif (QW.t (wa (t2 (cEq hR) (qix (qv 0) qint) qint) (wa1 (t2 cLt (qix (qv 0) qint) (qlen (fun _ => m_len) (qac (qix (qv 0) qint) qan))))))
 (bc (sset 3 (qix (qix (qv 0) qint) (qix (qv 0) qint)) (hnd := fun _ => sc__law_pick.nd))
 (bc (sput (qadd (qix (qv 0) qint) qint) (qv 0) qint)
 (bc (sif (t2 cLt (qabs (fun _ => m_abs) (qac (qv 3) qan)) (qpow qint qint))
 (b1 (sret (qmod (qint1 (fun _ => m_int) (qac (qcall (fun _ => d__law_mixed) hR (by decide) (qac (qadd (qmul qint (qabs (fun _ => m_abs) (qac (qv 3) qan))) (q2 cLt (qv 3) qint)) (qac (qv 2) qan))) qan)) (qv 1))))
 bn)
 (b1 (sput (qabs (fun _ => m_abs) (qac (qv 3) qan)) (qv 0) qint)))))
 bn)
 (bc (sif (t2 (cEq hR) (qix (qv 0) qint) qint)
 (b1 (sret (qmod (qint1 (fun _ => m_int) (qac (qcall (fun _ => d__law_mixed) hR (by decide) (qac (qix (qv 0) qint) (qac (qv 2) qan))) qan)) (qv 1))))
 bn)
 (bc (sset 4 (qmod (qint1 (fun _ => m_int) (qac (qix (qv 0) qint) qan)) (qv 1)) (hnd := fun _ => sc__law_pick.nd))
 (bc (sput (qfdiv (qix (qv 0) qint) (qv 1)) (qv 0) qint)
 (b1 (sret (qv 4)))))))))
abbrev s__law_choice : Stmt := top 22
abbrev N__law_choice : List Str := ["bag", "things"]
theorem sc__law_choice : FnScope N__law_choice ["bag", "things"] (defScope s__law_choice) := ⟨rfl, rfl, rfl, by decide +kernel, rfl, by decide +kernel, by decide +kernel⟩
theorem w__law_choice (m_len : mg "len" = none) (d__law_pick : C3 P w K mg base 2 "_law_pick" [.par, .shr] (sp__law_pick A)) : QB K (CxR 2 P w K mg base N__law_choice "_law_choice" (defScope s__law_choice) f) (defBody s__law_choice) (b__law_choice A) :=
  have hR : ∀ i, Room 2 (CxR 2 P w K mg base N__law_choice "_law_choice" (defScope s__law_choice) f i).A := fun i => i.2
  (b1 (sret (qix (qv 1) (qcall (fun _ => d__law_pick) hR (by decide) (qac (qv 0) (qac (qlen (fun _ => m_len) (qac (qv 1) qan)) qan))))))
abbrev s__law_new_name : Stmt := top 23
abbrev N__law_new_name : List Str := ["bag", "used", "letters", "told", "near", "at", "tails", "step", "k", "tail"]
theorem sc__law_new_name : FnScope N__law_new_name ["bag", "used"] (defScope s__law_new_name) := ⟨rfl, rfl, rfl, by decide +kernel, rfl, by decide +kernel, by decide +kernel⟩
theorem w__law_new_name (d__law_pick : C3 P w K mg base 2 "_law_pick" [.par, .shr] (sp__law_pick A)) (m_range : mg "range" = none) (m_len : mg "len" = none) (m_int : mg "int" = none) : QB K (CxR 2 P w K mg base N__law_new_name "_law_new_name" (defScope s__law_new_name) f) (defBody s__law_new_name) (b__law_new_name A) :=
  have hR : ∀ i, Room 2 (CxR 2 P w K mg base N__law_new_name "_law_new_name" (defScope s__law_new_name) f i).A := fun i => i.2
  (bc (sset 2 qstr (hnd := fun _ => sc__law_new_name.nd))
 (bc (sset 3 (qbm PySem.F.plainAttrs_str PySem.F.slot_str_join PySem.F.type_str_join (fun _ => mt_join) simJoin qstr (qac (QO.sh (olc [("step", 7)] (irng1 (fun _ => m_range) (qac (qadd qint (qcall (fun _ => d__law_pick) hR (by decide) (qac (qv 0) (qac qint qan)))) qan)) (gn 7 (hnd := fun _ => sc__law_new_name.nd)) tsn (qix (qv 2) (qcall (fun _ => d__law_pick) (fun i => hR i.1) (by decide) (qac (qv 0) (qac qint qan)))) (fun _ => blkOk_by (own := [("step", 7)]) (N := N__law_new_name) (sc := defScope s__law_new_name) (by decide +kernel)) (hnd := fun _ => sc__law_new_name.nd))) qan)) (hnd := fun _ => sc__law_new_name.nd))
 (bc (sif (QW.t (wa (ttru (qv 1)) (wa1 (t2 (cEq hR) (qcall (fun _ => d__law_pick) hR (by decide) (qac (qv 0) (qac qint qan))) qint))))
 (bc (sset 4 (qsl (qix (qv 1) (qcall (fun _ => d__law_pick) hR (by decide) (qac (qv 0) (qac (qlen (fun _ => m_len) (qac (qv 1) qan)) qan)))) qno (qpart qint)) (hnd := fun _ => sc__law_new_name.nd))
 (bc (sset 5 (qcall (fun _ => d__law_pick) hR (by decide) (qac (qv 0) (qac (qlen (fun _ => m_len) (qac (qv 4) qan)) qan))) (hnd := fun _ => sc__law_new_name.nd))
 (b1 (sset 3 (qadd (qadd (qsl (qv 4) qno (qpart (qv 5))) (qix (qv 2) (qcall (fun _ => d__law_pick) hR (by decide) (qac (qv 0) (qac qint qan))))) (qsl (qv 4) (qpart (qadd (qv 5) qint)) qno)) (hnd := fun _ => sc__law_new_name.nd)))))
 bn)
 (bc (sif (t2 (cIn hR) (qv 3) (qadd (qv 1) (qlst (qac qstr (qac qstr qan)))))
 (bc (slc 6 [("k", 8)] (irng1 (fun _ => m_range) (qac qint qan)) (gn 8 (hnd := fun _ => sc__law_new_name.nd)) tsn (qadd (qix (qv 2) (qfdiv (qv 8) qint)) (qix (qv 2) (qmod (qint1 (fun _ => m_int) (qac (qv 8) qan)) qint))) (fun _ => blkOk_by (own := [("k", 8)]) (N := N__law_new_name) (sc := defScope s__law_new_name) (by decide +kernel)) (fun _ => sw_true rfl rfl rfl (by decide +kernel)) (hnd := fun _ => sc__law_new_name.nd))
 (b1 (sset 3 (qix (QO.sh (olc [("tail", 9)] (iseq (qv 6)) (gn 9 (hnd := fun _ => sc__law_new_name.nd)) (ts1 (t2 (cNotIn (fun i => hR i.1)) (qadd (qsl (qv 3) qno (qpart qint)) (qv 9)) (qadd (qv 1) (qlst (qac qstr qan))))) (qadd (qsl (qv 3) qno (qpart qint)) (qv 9)) (fun _ => blkOk_by (own := [("tail", 9)]) (N := N__law_new_name) (sc := defScope s__law_new_name) (by decide +kernel)) (hnd := fun _ => sc__law_new_name.nd))) qint) (hnd := fun _ => sc__law_new_name.nd))))
 bn)
 (bc (sexpr (qbm PySem.F.plainAttrs_list PySem.F.slot_list_append PySem.F.type_list_append (fun _ => mt_append) simAppend (qv 1) (qac (qv 3) qan)))
 (b1 (sret (qv 3))))))))
abbrev s__law_drawn_node : Stmt := top 25
abbrev N__law_drawn_node : List Str := ["bag", "labels", "levels", "many", "step"]
theorem sc__law_drawn_node : FnScope N__law_drawn_node ["bag", "labels", "levels"] (defScope s__law_drawn_node) := ⟨rfl, rfl, rfl, by decide +kernel, rfl, by decide +kernel, by decide +kernel⟩
theorem w__law_drawn_node {lv : Nat} {sm : S3} (d__law_pick : C3 P w K mg base 2 "_law_pick" [.par, .shr] (sp__law_pick A)) (m_range : mg "range" = none) (me : C3 P w K mg base lv "_law_drawn_node" [.par, .shr, .shr] sm) (m_tuple : mg "tuple" = none) (d__law_choice : C3 P w K mg base 3 "_law_choice" [.par, .shr] (sp__law_choice A)) (hlv : 3 ≤ lv) : QB K (CxR lv P w K mg base N__law_drawn_node "_law_drawn_node" (defScope s__law_drawn_node) f) (defBody s__law_drawn_node) (b__law_drawn_node A sm) :=
  have hR : ∀ i, Room lv (CxR lv P w K mg base N__law_drawn_node "_law_drawn_node" (defScope s__law_drawn_node) f i).A := fun i => i.2
  (bc (sset 3 (qif (t2 cGt (qv 2) qint) (qcall (fun _ => d__law_pick) hR (Nat.le_trans (by decide) hlv) (qac (qv 0) (qac qint qan))) qint) (hnd := fun _ => sc__law_drawn_node.nd))
 (b1 (sret (qtup (qac (qcall (fun _ => d__law_choice) hR (Nat.le_trans (by decide) hlv) (qac (qv 0) (qac (qv 1) qan))) (qac (qtupC (fun _ => m_tuple) (qac (QO.sh (olc [("step", 4)] (irng1 (fun _ => m_range) (qac (qv 3) qan)) (gn 4 (hnd := fun _ => sc__law_drawn_node.nd)) tsn (qcall (fun _ => me) (fun i => hR i.1) (Nat.le_refl _) (qac (qv 0) (qac (qv 1) (qac (qsub (qv 2) qint) qan)))) (fun _ => blkOk_by (own := [("step", 4)]) (N := N__law_drawn_node) (sc := defScope s__law_drawn_node) (by decide +kernel)) (hnd := fun _ => sc__law_drawn_node.nd))) qan)) qan))))))
abbrev s__law_drawn_look : Stmt := top 24
abbrev N__law_drawn_look : List Str := ["bag", "labels", "words", "rows", "waiting", "top", "step"]
theorem sc__law_drawn_look : FnScope N__law_drawn_look ["bag", "labels", "words"] (defScope s__law_drawn_look) := ⟨rfl, rfl, rfl, by decide +kernel, rfl, by decide +kernel, by decide +kernel⟩
theorem w__law_drawn_look (d__law_pick : C3 P w K mg base 2 "_law_pick" [.par, .shr] (sp__law_pick A)) (m_range : mg "range" = none) (d__law_choice : C3 P w K mg base 3 "_law_choice" [.par, .shr] (sp__law_choice A)) (d__law_drawn_node : C3 P w K mg base 8 "_law_drawn_node" [.par, .shr, .shr] (sp__law_drawn_node A)) (m_tuple : mg "tuple" = none) : QB K (CxR 8 P w K mg base N__law_drawn_look "_law_drawn_look" (defScope s__law_drawn_look) f) (defBody s__law_drawn_look) (b__law_drawn_look A) :=
  have hR : ∀ i, Room 8 (CxR 8 P w K mg base N__law_drawn_look "_law_drawn_look" (defScope s__law_drawn_look) f i).A := fun i => i.2
  (bc (slc 3 [("step", 6)] (irng1 (fun _ => m_range) (qac (qcall (fun _ => d__law_pick) hR (by decide) (qac (qv 0) (qac qint qan))) qan)) (gn 6 (hnd := fun _ => sc__law_drawn_look.nd)) tsn (qtup (qac (qtup qan) (qac (qcall (fun _ => d__law_choice) (fun i => hR i.1) (by decide) (qac (qv 0) (qac (qv 2) qan))) (qac (qcall (fun _ => d__law_pick) (fun i => hR i.1) (by decide) (qac (qv 0) (qac qint qan))) qan)))) (fun _ => blkOk_by (own := [("step", 6)]) (N := N__law_drawn_look) (sc := defScope s__law_drawn_look) (by decide +kernel)) (fun _ => sw_true rfl rfl rfl (by decide +kernel)) (hnd := fun _ => sc__law_drawn_look.nd))
 (bc (slc 4 [("step", 6)] (irng1 (fun _ => m_range) (qac (qcall (fun _ => d__law_pick) hR (by decide) (qac (qv 0) (qac qint qan))) qan)) (gn 6 (hnd := fun _ => sc__law_drawn_look.nd)) tsn (qtup (qac (qtup qan) (qac (qcall (fun _ => d__law_choice) (fun i => hR i.1) (by decide) (qac (qv 0) (qac (qv 2) qan))) (qac (qcall (fun _ => d__law_pick) (fun i => hR i.1) (by decide) (qac (qv 0) (qac qint qan))) qan)))) (fun _ => blkOk_by (own := [("step", 6)]) (N := N__law_drawn_look) (sc := defScope s__law_drawn_look) (by decide +kernel)) (fun _ => sw_true rfl rfl rfl (by decide +kernel)) (hnd := fun _ => sc__law_drawn_look.nd))
 (bc (sset 5 (qtup (qac (qcall (fun _ => d__law_choice) hR (by decide) (qac (qv 0) (qac (qv 1) qan))) (qac (qtupC (fun _ => m_tuple) (qac (QO.sh (olc [("step", 6)] (irng1 (fun _ => m_range) (qac (qcall (fun _ => d__law_pick) hR (by decide) (qac (qv 0) (qac qint qan))) qan)) (gn 6 (hnd := fun _ => sc__law_drawn_look.nd)) tsn (qcall (fun _ => d__law_drawn_node) (fun i => hR i.1) (by decide) (qac (qv 0) (qac (qv 1) (qac qint qan)))) (fun _ => blkOk_by (own := [("step", 6)]) (N := N__law_drawn_look) (sc := defScope s__law_drawn_look) (by decide +kernel)) (hnd := fun _ => sc__law_drawn_look.nd))) qan)) qan))) (hnd := fun _ => sc__law_drawn_look.nd))
 (b1 (sret (qtup (qac (qv 5) (qac (qif (t2 (cEq hR) (qcall (fun _ => d__law_pick) hR (by decide) (qac (qv 0) (qac qint qan))) qint) qnon (qcall (fun _ => d__law_pick) hR (by decide) (qac (qv 0) (qac qint qan)))) (qac (qtupC (fun _ => m_tuple) (qac (qv 3) qan)) (qac (qtupC (fun _ => m_tuple) (qac (qv 4) qan)) qan))))))))))
abbrev s__law_drawn_claim : Stmt := top 26
abbrev N__law_drawn_claim : List Str := ["bag", "labels", "words", "levels", "way", "ways", "first"]
theorem sc__law_drawn_claim : FnScope N__law_drawn_claim ["bag", "labels", "words", "levels"] (defScope s__law_drawn_claim) := ⟨rfl, rfl, rfl, by decide +kernel, rfl, by decide +kernel, by decide +kernel⟩
theorem w__law_drawn_claim {lv : Nat} {sm : S3} (d__law_pick : C3 P w K mg base 2 "_law_pick" [.par, .shr] (sp__law_pick A)) (d__law_choice : C3 P w K mg base 3 "_law_choice" [.par, .shr] (sp__law_choice A)) (me : C3 P w K mg base lv "_law_drawn_claim" [.par, .shr, .shr, .shr] sm) (hlv : 3 ≤ lv) : QB K (CxR lv P w K mg base N__law_drawn_claim "_law_drawn_claim" (defScope s__law_drawn_claim) f) (defBody s__law_drawn_claim) (b__law_drawn_claim A sm) :=
  have hR : ∀ i, Room lv (CxR lv P w K mg base N__law_drawn_claim "_law_drawn_claim" (defScope s__law_drawn_claim) f i).A := fun i => i.2
  (bc (sset 4 (qcall (fun _ => d__law_pick) hR (Nat.le_trans (by decide) hlv) (qac (qv 0) (qac qint qan))) (hnd := fun _ => sc__law_drawn_claim.nd))
 (bc (sif (QW.t (wor (t2 cLe (qv 3) qint) (wo1 (t2 cLt (qv 4) qint))))
 (bc (sset 5 (qlst (qac (qtup (qac qstr (qac (qcall (fun _ => d__law_choice) hR (Nat.le_trans (by decide) hlv) (qac (qv 0) (qac (qv 1) qan))) (qac (qadd qint (qcall (fun _ => d__law_pick) hR (Nat.le_trans (by decide) hlv) (qac (qv 0) (qac qint qan)))) qan)))) (qac (qtup (qac qstr (qac (qcall (fun _ => d__law_choice) hR (Nat.le_trans (by decide) hlv) (qac (qv 0) (qac (qv 2) qan))) qan))) (qac (qtup (qac qstr (qac (qadd qint (qcall (fun _ => d__law_pick) hR (Nat.le_trans (by decide) hlv) (qac (qv 0) (qac qint qan)))) qan))) (qac (qtup (qac qstr qan)) (qac (qtup (qac qstr (qac (qcall (fun _ => d__law_choice) hR (Nat.le_trans (by decide) hlv) (qac (qv 0) (qac (qv 1) qan))) (qac qint qan)))) qan)))))) (hnd := fun _ => sc__law_drawn_claim.nd))
 (b1 (sret (qix (qv 5) (qcall (fun _ => d__law_pick) hR (Nat.le_trans (by decide) hlv) (qac (qv 0) (qac qint qan)))))))
 bn)
 (bc (sset 6 (qcall (fun _ => me) hR (Nat.le_refl _) (qac (qv 0) (qac (qv 1) (qac (qv 2) (qac (qsub (qv 3) qint) qan))))) (hnd := fun _ => sc__law_drawn_claim.nd))
 (bc (sif (t2 (cEq hR) (qv 4) qint)
 (b1 (sret (qtup (qac qstr (qac (qv 6) qan)))))
 bn)
 (b1 (sret (qtup (qac (qix (qlst (qac qstr (qac qstr qan))) (qsub (qfdiv (qv 4) qint) qint)) (qac (qv 6) (qac (qcall (fun _ => me) hR (Nat.le_refl _) (qac (qv 0) (qac (qv 1) (qac (qv 2) (qac (qsub (qv 3) qint) qan))))) qan))))))))))
abbrev s__law_labels : Stmt := top 27
abbrev N__law_labels : List Str := ["shown", "out", "part"]
theorem sc__law_labels : FnScope N__law_labels ["shown"] (defScope s__law_labels) := ⟨rfl, rfl, rfl, by decide +kernel, rfl, by decide +kernel, by decide +kernel⟩
theorem w__law_labels {lv : Nat} {sm : S3} (me : C3 P w K mg base lv "_law_labels" [.shr] sm) : QB K (CxR lv P w K mg base N__law_labels "_law_labels" (defScope s__law_labels) f) (defBody s__law_labels) (b__law_labels A sm) :=
  have hR : ∀ i, Room lv (CxR lv P w K mg base N__law_labels "_law_labels" (defScope s__law_labels) f i).A := fun i => i.2
  (bc (ssetO 1 (olst (qac (qix (qv 0) qint) qan)) (hnd := fun _ => sc__law_labels.nd))
 (bc (sfor (iseq (qix (qv 0) qint)) (gn 2 (hnd := fun _ => sc__law_labels.nd))
 (b1 (sexpr (qbm PySem.F.plainAttrs_list PySem.F.slot_list_extend PySem.F.type_list_extend (fun _ => mt_extend) simExtend (qv 1) (qac (qcall (fun _ => me) hR (Nat.le_refl _) (qac (qv 2) qan)) qan)))))
 (b1 (sfrz 1 (sret (qv 1))))))
abbrev s__law_holds : Stmt := top 28
abbrev N__law_holds : List Str := ["parts", "look", "told", "one", "row", "part"]
theorem sc__law_holds : FnScope N__law_holds ["parts", "look"] (defScope s__law_holds) := ⟨rfl, rfl, rfl, by decide +kernel, rfl, by decide +kernel, by decide +kernel⟩
theorem w__law_holds {lv : Nat} {sm : S3} (d__law_labels : C3 P w K mg base 5 "_law_labels" [.shr] (sp__law_labels A)) (m_len : mg "len" = none) (me : C3 P w K mg base lv "_law_holds" [.shr, .shr] sm) (hlv : 5 ≤ lv) : QB K (CxR lv P w K mg base N__law_holds "_law_holds" (defScope s__law_holds) f) (defBody s__law_holds) (b__law_holds A sm) :=
  have hR : ∀ i, Room lv (CxR lv P w K mg base N__law_holds "_law_holds" (defScope s__law_holds) f i).A := fun i => i.2
  (bc (sif (t2 (cEq hR) (qix (qv 0) qint) qstr)
 (b1 (sret (q2 cGe (qlen (fun _ => m_len) (qac (QO.sh (olc [("one", 3)] (iseq (qcall (fun _ => d__law_labels) hR (Nat.le_trans (by decide) hlv) (qac (qix (qv 1) qint) qan))) (gn 3 (hnd := fun _ => sc__law_holds.nd)) (ts1 (t2 (cEq (fun i => hR i.1)) (qv 3) (qix (qv 0) qint))) (qv 3) (fun _ => blkOk_by (own := [("one", 3)]) (N := N__law_holds) (sc := defScope s__law_holds) (by decide +kernel)) (hnd := fun _ => sc__law_holds.nd))) qan)) (qix (qv 0) qint))))
 bn)
 (bc (sif (t2 (cEq hR) (qix (qv 0) qint) qstr)
 (b1 (sret (q2 (cNe hR) (QO.sh (olc [("row", 4)] (iseq (qix (qv 1) qint)) (gn 4 (hnd := fun _ => sc__law_holds.nd)) (ts1 (t2 (cEq (fun i => hR i.1)) (qix (qv 4) qint) (qix (qv 0) qint))) (qv 4) (fun _ => blkOk_by (own := [("row", 4)]) (N := N__law_holds) (sc := defScope s__law_holds) (by decide +kernel)) (hnd := fun _ => sc__law_holds.nd))) (qlst qan))))
 bn)
 (bc (sif (t2 (cEq hR) (qix (qv 0) qint) qstr)
 (b1 (sret (q2 cGe (qlen (fun _ => m_len) (qac (qix (qv 1) qint) qan)) (qix (qv 0) qint))))
 bn)
 (bc (sif (t2 (cEq hR) (qix (qv 0) qint) qstr)
 (b1 (sret (q2 cNotN (qix (qv 1) qint) qnon)))
 bn)
 (bc (slc 2 [("part", 5)] (iseq (qsl (qv 0) (qpart qint) qno)) (gn 5 (hnd := fun _ => sc__law_holds.nd)) tsn (qcall (fun _ => me) (fun i => hR i.1) (Nat.le_refl _) (qac (qv 5) (qac (qv 1) qan))) (fun _ => blkOk_by (own := [("part", 5)]) (N := N__law_holds) (sc := defScope s__law_holds) (by decide +kernel)) (fun _ => sw_true rfl rfl rfl (by decide +kernel)) (hnd := fun _ => sc__law_holds.nd))
 (bc (sif (t2 (cEq hR) (qix (qv 0) qint) qstr)
 (b1 (sret (qNot (qix (qv 2) qint))))
 bn)
 (b1 (sret (qif (t2 (cEq hR) (qix (qv 0) qint) qstr) (qAnd (qix (qv 2) qint) (q1b (qix (qv 2) qint))) (qOr (qix (qv 2) qint) (q1b (qix (qv 2) qint))))))))))))
abbrev s__law_levels : Stmt := top 29
abbrev N__law_levels : List Str := ["parts", "deepest", "part", "beneath"]
theorem sc__law_levels : FnScope N__law_levels ["parts"] (defScope s__law_levels) := ⟨rfl, rfl, rfl, by decide +kernel, rfl, by decide +kernel, by decide +kernel⟩
theorem w__law_levels {lv : Nat} {sm : S3} (me : C3 P w K mg base lv "_law_levels" [.shr] sm) : QB K (CxR lv P w K mg base N__law_levels "_law_levels" (defScope s__law_levels) f) (defBody s__law_levels) (b__law_levels A sm) :=
  have hR : ∀ i, Room lv (CxR lv P w K mg base N__law_levels "_law_levels" (defScope s__law_levels) f i).A := fun i => i.2
  (bc (sset 1 qint (hnd := fun _ => sc__law_levels.nd))
 (bc (sfor (iseq (qif (t2 (cIn hR) (qix (qv 0) qint) (qlst (qac qstr (qac qstr (qac qstr qan))))) (qsl (qv 0) (qpart qint) qno) (qtup qan))) (gn 2 (hnd := fun _ => sc__law_levels.nd))
 (bc (sset 3 (qcall (fun _ => me) hR (Nat.le_refl _) (qac (qv 2) qan)) (hnd := fun _ => sc__law_levels.nd))
 (b1 (sset 1 (qif (t2 cGt (qv 3) (qv 1)) (qv 3) (qv 1)) (hnd := fun _ => sc__law_levels.nd)))))
 (b1 (sret (qadd (qv 1) qint)))))
abbrev s__law_spoilt : Stmt := top 30
abbrev N__law_spoilt : List Str := ["bag", "parts", "at", "inner", "part", "odd"]
theorem sc__law_spoilt : FnScope N__law_spoilt ["bag", "parts"] (defScope s__law_spoilt) := ⟨rfl, rfl, rfl, by decide +kernel, rfl, by decide +kernel, by decide +kernel⟩
theorem w__law_spoilt {lv : Nat} {sm : S3} (d__law_pick : C3 P w K mg base 2 "_law_pick" [.par, .shr] (sp__law_pick A)) (m_len : mg "len" = none) (me : C3 P w K mg base lv "_law_spoilt" [.par, .shr] sm) (hlv : 2 ≤ lv) : QB K (CxR lv P w K mg base N__law_spoilt "_law_spoilt" (defScope s__law_spoilt) f) (defBody s__law_spoilt) (b__law_spoilt A sm) :=
  have hR : ∀ i, Room lv (CxR lv P w K mg base N__law_spoilt "_law_spoilt" (defScope s__law_spoilt) f i).A := fun i => i.2
  (bc (sif (QW.t (wa (t2 (cIn hR) (qix (qv 1) qint) (qlst (qac qstr (qac qstr (qac qstr qan))))) (wa1 (t2 cGt (qcall (fun _ => d__law_pick) hR (Nat.le_trans (by decide) hlv) (qac (qv 0) (qac qint qan))) qint))))
 (bc (sset 2 (qadd qint (qcall (fun _ => d__law_pick) hR (Nat.le_trans (by decide) hlv) (qac (qv 0) (qac (qsub (qlen (fun _ => m_len) (qac (qv 1) qan)) qint) qan)))) (hnd := fun _ => sc__law_spoilt.nd))
 (bc (sasg (qcall (fun _ => me) hR (Nat.le_refl _) (qac (qv 0) (qac (qix (qv 1) (qv 2)) qan))) (gtup (gsc (gn 3 (hnd := fun _ => sc__law_spoilt.nd)) (gsc (gn 4 (hnd := fun _ => sc__law_spoilt.nd)) gsn))))
 (b1 (sret (qtup (qac (qadd (qadd (qsl (qv 1) qno (qpart (qv 2))) (qtup (qac (qv 3) qan))) (qsl (qv 1) (qpart (qadd (qv 2) qint)) qno)) (qac (qv 4) qan)))))))
 bn)
 (bc (sset 5 (qix (qlst (qac qnon (qac (qtup qan) (qac (qtup (qac qstr qan)) (qac (qtup (qac qstr (qac qstr (qac qint qan)))) (qac (qtup (qac qstr (qac (qmulS qstr qint) (qac qint qan)))) (qac (qtup (qac qstr (qac qstr (qac qint qan)))) (qac (qtup (qac qstr (qac qstr (qac qint qan)))) (qac (qtup (qac qstr (qac qstr (qac qbl qan)))) (qac (qtup (qac qstr (qac qstr qan))) (qac (qtup (qac qstr (qac qstr qan))) (qac (qtup (qac qstr qan)) (qac (qtup (qac qstr (qac qint qan))) (qac (qtup (qac qstr (qac qint qan))) (qac (qtup (qac qstr (qac qstr qan))) (qac (qtup (qac qstr (qac qint qan))) (qac (qtup (qac qstr qan)) (qac (qtup (qac qstr (qac (qtup (qac qstr qan)) qan))) (qac (qtup (qac qstr (qac (qtup (qac qstr qan)) (qac (qtup (qac qstr qan)) qan)))) (qac (qlst (qac qstr qan)) (qac (qtup (qac qstr (qac (qtup (qac qstr qan)) (qac (qtup (qac qstr qan)) (qac (qtup (qac qstr qan)) qan))))) (qac (qtup (qac qint (qac (qtup (qac qstr qan)) qan))) (qac qstr (qac (qtup (qac qstr (qac qint (qac qint qan)))) (qac (qtup (qac qstr (qac qbl qan))) qan))))))))))))))))))))))))) (qcall (fun _ => d__law_pick) hR (Nat.le_trans (by decide) hlv) (qac (qv 0) (qac qint qan)))) (hnd := fun _ => sc__law_spoilt.nd))
 (b1 (sret (qtup (qac (qv 5) (qac (qv 5) qan)))))))
abbrev s__law_refused : Stmt := top 31
abbrev N__law_refused : List Str := ["parts", "error"]
theorem sc__law_refused : FnScope N__law_refused ["parts"] (defScope s__law_refused) := ⟨rfl, rfl, rfl, by decide +kernel, rfl, by decide +kernel, by decide +kernel⟩
theorem w__law_refused (kx_Claim : Mk3X P w K mg base 4 "Claim" A.Claim [.shr] (sx_Claim___init__ A)) (em_BadClaim_BadClaim : PySem.W.exmOne K (.ref A.BadClaim) (.ref A.BadClaim) = some true) (gc_BadClaim : mg "BadClaim" = some (.ref A.BadClaim)) (gc_BadForm : mg "BadForm" = some (.ref A.BadForm)) (ki_BadClaim_BadForm : PySem.W.kitOne K (.ref A.BadClaim) (.ref A.BadForm) = some false) (ex_BadClaim : ExcC K A.BadClaim) (m_isinstance : mg "isinstance" = none) (gc_ScreenError : mg "ScreenError" = some (.ref A.ScreenError)) (ki_BadClaim_ScreenError : PySem.W.kitOne K (.ref A.BadClaim) (.ref A.ScreenError) = some true) (m_ValueError : mg "ValueError" = none) (ki_BadClaim_ValueError : PySem.W.kitOne K (.ref A.BadClaim) (.type "ValueError") = some true) (xf_BadClaim : XfC K A.BadClaim) (n_BadClaim_part : NoAttr K A.BadClaim "part") : QBX K (CxRX 5 P w K mg base N__law_refused "_law_refused" (defScope s__law_refused) f) (defBody s__law_refused) (b__law_refused A) :=
  have hR : ∀ i, Room 5 (CxRX 5 P w K mg base N__law_refused "_law_refused" (defScope s__law_refused) f i).A := fun i => i.2
  (xc (xtry (x1 (xexpr (xmake (fun _ => kx_Claim) (fun i => hR i.1.1) (by decide) (qac (qv 0) qan))))
 (hc 1 (fun _ => gc_BadClaim) (xh_ok (Q := fun C b => PySem.W.exmOne K (.ref C) (.ref A.BadClaim) = some b) (xh_c (Q := fun C b => PySem.W.exmOne K (.ref C) (.ref A.BadClaim) = some b) em_BadClaim_BadClaim (xh_n (Q := fun C b => PySem.W.exmOne K (.ref C) (.ref A.BadClaim) = some b)))) (fun a dd C => (bc (sif (QW.t (wor (tNot' (ttru (qisX (kiT_ok (xh_c (Q := fun C b => ExcC K C ∧ PySem.W.kitOne K (.ref C) (.type "ValueError") = some b) ⟨ex_BadClaim, ki_BadClaim_ValueError⟩ (xh_n (Q := fun C b => ExcC K C ∧ PySem.W.kitOne K (.ref C) (.type "ValueError") = some b)))) (fun _ => m_isinstance) (qac (qv 1) (qac (qty (T := "ValueError") (fun _ => m_ValueError)) qan))))) (wor (tNot' (ttru (qisX (kiC_ok (xh_c (Q := fun C b => ExcC K C ∧ PySem.W.kitOne K (.ref C) (.ref A.ScreenError) = some b) ⟨ex_BadClaim, ki_BadClaim_ScreenError⟩ (xh_n (Q := fun C b => ExcC K C ∧ PySem.W.kitOne K (.ref C) (.ref A.ScreenError) = some b)))) (fun _ => m_isinstance) (qac (qv 1) (qac (qglob (v := .ref A.ScreenError) (d := .cls A.ScreenError) (fun _ => ⟨_, gc_ScreenError, rfl⟩) rp_cls) qan))))) (wo1 (ttru (qisX (kiC_ok (xh_c (Q := fun C b => ExcC K C ∧ PySem.W.kitOne K (.ref C) (.ref A.BadForm) = some b) ⟨ex_BadClaim, ki_BadClaim_BadForm⟩ (xh_n (Q := fun C b => ExcC K C ∧ PySem.W.kitOne K (.ref C) (.ref A.BadForm) = some b)))) (fun _ => m_isinstance) (qac (qv 1) (qac (qglob (v := .ref A.BadForm) (d := .cls A.BadForm) (fun _ => ⟨_, gc_BadForm, rfl⟩) rp_cls) qan))))))))
 (b1 (sret (qtup (qac qstr (qac qnon qan)))))
 bn)
 (b1 (sret (qtup (qac qstr (qac (qxf 1 xf_BadClaim n_BadClaim_part) qan)))))))
 (hc 1 (fun _ => gc_ScreenError) (xh_ok (Q := fun C b => PySem.W.exmOne K (.ref C) (.ref A.ScreenError) = some b) (xh_n (Q := fun C b => PySem.W.exmOne K (.ref C) (.ref A.ScreenError) = some b))) (fun a dd C => (b1 (sret (qtup (qac qstr (qac qnon qan))))))
 hn)) (fun _ => sc__law_refused.nd))
 (x1 (xs (sret (qtup (qac qstr (qac qnon qan)))))))
abbrev s__law_tells : Stmt := top 32
abbrev N__law_tells : List Str := ["claim", "look", "due", "told"]
theorem sc__law_tells : FnScope N__law_tells ["claim", "look", "due"] (defScope s__law_tells) := ⟨rfl, rfl, rfl, by decide +kernel, rfl, by decide +kernel, by decide +kernel⟩
theorem w__law_tells (s_Claim___call__ : So3 P w K mg base 14 A.Claim "__call__" [.shr, .shr] (sp_Claim___call__ A)) (m_bool : mg "bool" = none) (m_isinstance : mg "isinstance" = none) : QB K (CxR 14 P w K mg base N__law_tells "_law_tells" (defScope s__law_tells) f) (defBody s__law_tells) (b__law_tells A) :=
  have hR : ∀ i, Room 14 (CxR 14 P w K mg base N__law_tells "_law_tells" (defScope s__law_tells) f i).A := fun i => i.2
  (bc (sset 3 (qcallI (fun _ => s_Claim___call__) hR (by decide) (qv 0) (qac (qv 1) qan)) (hnd := fun _ => sc__law_tells.nd))
 (b1 (sret (qAnd (qisi (fun _ => m_isinstance) (qac (qv 3) (qac (qty (T := "bool") (fun _ => m_bool)) qan))) (q1b (q2 (cEq hR) (qv 3) (qv 2)))))))
abbrev s__law_same : Stmt := top 33
abbrev N__law_same : List Str := ["first", "second"]
theorem sc__law_same : FnScope N__law_same ["first", "second"] (defScope s__law_same) := ⟨rfl, rfl, rfl, by decide +kernel, rfl, by decide +kernel, by decide +kernel⟩
theorem w__law_same (m_repr : mg "repr" = none) : QB K (CxR 0 P w K mg base N__law_same "_law_same" (defScope s__law_same) f) (defBody s__law_same) (b__law_same A) :=
  have hR : ∀ i, Room 0 (CxR 0 P w K mg base N__law_same "_law_same" (defScope s__law_same) f i).A := fun i => i.2
  (b1 (sret (q2 cEqT (qrepr hR (fun _ => m_repr) (qac (qv 0) qan)) (qrepr hR (fun _ => m_repr) (qac (qv 1) qan)))))
abbrev s__law_deep : Stmt := top 34
abbrev N__law_deep : List Str := ["bag", "labels", "words", "levels", "out", "step", "word", "other"]
theorem sc__law_deep : FnScope N__law_deep ["bag", "labels", "words", "levels"] (defScope s__law_deep) := ⟨rfl, rfl, rfl, by decide +kernel, rfl, by decide +kernel, by decide +kernel⟩
theorem w__law_deep (d__law_drawn_claim : C3 P w K mg base 10 "_law_drawn_claim" [.par, .shr, .shr, .shr] (sp__law_drawn_claim A)) (m_range : mg "range" = none) (d__law_pick : C3 P w K mg base 2 "_law_pick" [.par, .shr] (sp__law_pick A)) : QB K (CxR 10 P w K mg base N__law_deep "_law_deep" (defScope s__law_deep) f) (defBody s__law_deep) (b__law_deep A) :=
  have hR : ∀ i, Room 10 (CxR 10 P w K mg base N__law_deep "_law_deep" (defScope s__law_deep) f i).A := fun i => i.2
  (bc (sset 4 (qcall (fun _ => d__law_drawn_claim) hR (by decide) (qac (qv 0) (qac (qv 1) (qac (qv 2) (qac qint qan))))) (hnd := fun _ => sc__law_deep.nd))
 (bc (sfor (irng1 (fun _ => m_range) (qac (qsub (qv 3) qint) qan)) (gn 5 (hnd := fun _ => sc__law_deep.nd))
 (bc (sset 6 (qix (qlst (qac qstr (qac qstr (qac qstr qan)))) (qcall (fun _ => d__law_pick) hR (by decide) (qac (qv 0) (qac qint qan)))) (hnd := fun _ => sc__law_deep.nd))
 (bc (sset 7 (qcall (fun _ => d__law_drawn_claim) hR (by decide) (qac (qv 0) (qac (qv 1) (qac (qv 2) (qac qint qan))))) (hnd := fun _ => sc__law_deep.nd))
 (b1 (sif (t2 (cEq hR) (qv 6) qstr)
 (b1 (sset 4 (qtup (qac qstr (qac (qv 4) qan))) (hnd := fun _ => sc__law_deep.nd)))
 (b1 (sset 4 (qif (t2 (cEq hR) (qcall (fun _ => d__law_pick) hR (by decide) (qac (qv 0) (qac qint qan))) qint) (qtup (qac (qv 6) (qac (qv 4) (qac (qv 7) qan)))) (qtup (qac (qv 6) (qac (qv 7) (qac (qv 4) qan))))) (hnd := fun _ => sc__law_deep.nd))))))))
 (b1 (sret (qv 4)))))
abbrev s_law : Stmt := top 35
abbrev N_law : List Str := ["script", "bag", "used", "words", "labels", "looks", "parts", "other", "claim", "second", "look", "due", "told", "both", "either", "inverse", "deep", "high", "spoilt", "part", "step"]
theorem sc_law : FnScope N_law ["script"] (defScope s_law) := ⟨rfl, rfl, rfl, by decide +kernel, rfl, by decide +kernel, by decide +kernel⟩
theorem w_law (d__law_bag : C3 P w K mg base 1 "_law_bag" [.shr] (sp__law_bag A)) (m_range : mg "range" = none) (d__law_new_name : C3 P w K mg base 3 "_law_new_name" [.par, .par] (sp__law_new_name A)) (d__law_drawn_look : C3 P w K mg base 9 "_law_drawn_look" [.par, .shr, .shr] (sp__law_drawn_look A)) (d__law_drawn_claim : C3 P w K mg base 10 "_law_drawn_claim" [.par, .shr, .shr, .shr] (sp__law_drawn_claim A)) (k_Claim : Mk3 P w K mg base 4 "Claim" A.Claim [.shr] (sp_Claim___init__ A)) (o_Claim_eq : Op3 P w K mg base 3 A.Claim .Eq [.shr, .shr] (sp_Claim___eq__ A)) (d__law_same : C3 P w K mg base 1 "_law_same" [.shr, .shr] (sp__law_same A)) (p_Claim_parts : Pr3 P w K mg base 1 A.Claim "parts" .shr (sp_Claim_parts A)) (d__law_holds : C3 P w K mg base 13 "_law_holds" [.shr, .shr] (sp__law_holds A)) (d__law_tells : C3 P w K mg base 15 "_law_tells" [.shr, .shr, .shr] (sp__law_tells A)) (d__law_levels : C3 P w K mg base 8 "_law_levels" [.shr] (sp__law_levels A)) (s_Claim___and__ : So3 P w K mg base 6 A.Claim "__and__" [.shr, .shr] (sp_Claim___and__ A)) (s_Claim___or__ : So3 P w K mg base 6 A.Claim "__or__" [.shr, .shr] (sp_Claim___or__ A)) (s_Claim___invert__ : So3 P w K mg base 6 A.Claim "__invert__" [.shr] (sp_Claim___invert__ A)) (d__law_deep : C3 P w K mg base 11 "_law_deep" [.par, .shr, .shr, .shr] (sp__law_deep A)) (d__law_refused : C3 P w K mg base 6 "_law_refused" [.shr] (sp__law_refused A)) (d__law_spoilt : C3 P w K mg base 9 "_law_spoilt" [.par, .shr] (sp__law_spoilt A)) : QB K (CxR 15 P w K mg base N_law "law" (defScope s_law) f) (defBody s_law) (b_law A) :=
  have hR : ∀ i, Room 15 (CxR 15 P w K mg base N_law "law" (defScope s_law) f i).A := fun i => i.2
  (bc (ssetO 1 (ocall (fun _ => d__law_bag) hR (by decide) (qac (qv 0) qan)) (hnd := fun _ => sc_law.nd))
 (bc (ssetO 2 (olst qan) (hnd := fun _ => sc_law.nd))
 (bc (sset 3 (QO.sh (olc [("step", 20)] (irng1 (fun _ => m_range) (qac qint qan)) (gn 20 (hnd := fun _ => sc_law.nd)) tsn (qcall (fun _ => d__law_new_name) (fun i => hR i.1) (by decide) (qac (qv 1) (qac (qv 2) qan))) (fun _ => blkOk_by (own := [("step", 20)]) (N := N_law) (sc := defScope s_law) (by decide +kernel)) (hnd := fun _ => sc_law.nd))) (hnd := fun _ => sc_law.nd))
 (bc (sset 4 (qlst (qac qstr (qac qstr (qac (qadd qstr (qix (qv 3) qint)) (qac (qadd (qmulS (qix (qv 3) qint) qint) qstr) (qac (qmulS qstr qint) qan)))))) (hnd := fun _ => sc_law.nd))
 (bc (slc 5 [("step", 20)] (irng1 (fun _ => m_range) (qac qint qan)) (gn 20 (hnd := fun _ => sc_law.nd)) tsn (qcall (fun _ => d__law_drawn_look) (fun i => hR i.1) (by decide) (qac (qv 1) (qac (qv 4) (qac (qsl (qv 3) qno (qpart qint)) qan)))) (fun _ => blkOk_by (own := [("step", 20)]) (N := N_law) (sc := defScope s_law) (by decide +kernel)) (fun _ => sw_true rfl rfl rfl (by decide +kernel)) (hnd := fun _ => sc_law.nd))
 (bc (sset 6 (qcall (fun _ => d__law_drawn_claim) hR (by decide) (qac (qv 1) (qac (qv 4) (qac (qv 3) (qac qint qan))))) (hnd := fun _ => sc_law.nd))
 (bc (sset 7 (qcall (fun _ => d__law_drawn_claim) hR (by decide) (qac (qv 1) (qac (qv 4) (qac (qv 3) (qac qint qan))))) (hnd := fun _ => sc_law.nd))
 (bc (sset 8 (QO.sh (omake (fun _ => k_Claim) hR (by decide) (qac (qv 6) qan))) (hnd := fun _ => sc_law.nd))
 (bc (sset 9 (QO.sh (omake (fun _ => k_Claim) hR (by decide) (qac (qv 7) qan))) (hnd := fun _ => sc_law.nd))
 (bc (sif (QW.t (wor (tNot' (ttru (qcall (fun _ => d__law_same) hR (by decide) (qac (qprop (fun _ => p_Claim_parts) hR (by decide) (qv 8)) (qac (qv 6) qan))))) (wo1 (t2 (cNe hR) (q2 (cOwn (fun _ => o_Claim_eq) hR (by decide)) (qv 8) (qv 9)) (qcall (fun _ => d__law_same) hR (by decide) (qac (qv 6) (qac (qv 7) qan)))))))
 (b1 (sret qbl))
 bn)
 (bc (sif (tNot' (t2 (cOwn (fun _ => o_Claim_eq) hR (by decide)) (qv 8) (QO.sh (omake (fun _ => k_Claim) hR (by decide) (qac (qv 6) qan)))))
 (b1 (sret qbl))
 bn)
 (bc (sfor (iseq (qv 5)) (gn 10 (hnd := fun _ => sc_law.nd))
 (bc (sset 11 (qcall (fun _ => d__law_holds) hR (by decide) (qac (qv 6) (qac (qv 10) qan))) (hnd := fun _ => sc_law.nd))
 (bc (sset 12 (qcall (fun _ => d__law_holds) hR (by decide) (qac (qv 7) (qac (qv 10) qan))) (hnd := fun _ => sc_law.nd))
 (b1 (sif (QW.t (wor (tNot' (ttru (qcall (fun _ => d__law_tells) hR (by decide) (qac (qv 8) (qac (qv 10) (qac (qv 11) qan)))))) (wor (tNot' (ttru (qcall (fun _ => d__law_tells) hR (by decide) (qac (qv 9) (qac (qv 10) (qac (qv 12) qan)))))) (wo1 (tNot' (ttru (qcall (fun _ => d__law_tells) hR (by decide) (qac (qv 8) (qac (qv 10) (qac (qv 11) qan))))))))))
 (b1 (sret qbl))
 bn)))))
 (bc (sif (t2 cLt (qcall (fun _ => d__law_levels) hR (by decide) (qac (qv 6) qan)) qint)
 (bc (sset 13 (qownB (fun _ => s_Claim___and__) hR (by decide) rfl (qv 8) (qv 9)) (hnd := fun _ => sc_law.nd))
 (bc (sset 14 (qownB (fun _ => s_Claim___or__) hR (by decide) rfl (qv 8) (qv 9)) (hnd := fun _ => sc_law.nd))
 (bc (sset 15 (qownU (fun _ => s_Claim___invert__) hR (by decide) (qv 8)) (hnd := fun _ => sc_law.nd))
 (bc (sfor (iseq (qv 5)) (gn 10 (hnd := fun _ => sc_law.nd))
 (bc (sset 11 (qcall (fun _ => d__law_holds) hR (by decide) (qac (qv 6) (qac (qv 10) qan))) (hnd := fun _ => sc_law.nd))
 (bc (sset 12 (qcall (fun _ => d__law_holds) hR (by decide) (qac (qv 7) (qac (qv 10) qan))) (hnd := fun _ => sc_law.nd))
 (bc (sif (QW.t (wor (tNot' (ttru (qcall (fun _ => d__law_tells) hR (by decide) (qac (qv 13) (qac (qv 10) (qac (qAnd (qv 11) (q1b (qv 12))) qan)))))) (wo1 (tNot' (ttru (qcall (fun _ => d__law_tells) hR (by decide) (qac (qv 14) (qac (qv 10) (qac (qOr (qv 11) (q1b (qv 12))) qan)))))))))
 (b1 (sret qbl))
 bn)
 (b1 (sif (tNot' (ttru (qcall (fun _ => d__law_tells) hR (by decide) (qac (qv 15) (qac (qv 10) (qac (qNot (qv 11)) qan))))))
 (b1 (sret qbl))
 bn))))))
 (bc (sif (QW.t (wor (tNot' (ttru (qcall (fun _ => d__law_same) hR (by decide) (qac (qprop (fun _ => p_Claim_parts) hR (by decide) (qv 13)) (qac (qtup (qac qstr (qac (qv 6) (qac (qv 7) qan)))) qan))))) (wo1 (tNot' (ttru (qcall (fun _ => d__law_same) hR (by decide) (qac (qprop (fun _ => p_Claim_parts) hR (by decide) (qv 14)) (qac (qtup (qac qstr (qac (qv 6) (qac (qv 7) qan)))) qan))))))))
 (b1 (sret qbl))
 bn)
 (b1 (sif (QW.t (wor (tNot' (ttru (qcall (fun _ => d__law_same) hR (by decide) (qac (qprop (fun _ => p_Claim_parts) hR (by decide) (qv 15)) (qac (qtup (qac qstr (qac (qv 6) qan))) qan))))) (wo1 (tNot' (ttru (qcall (fun _ => d__law_same) hR (by decide) (qac (qprop (fun _ => p_Claim_parts) hR (by decide) (qv 8)) (qac (qv 6) qan))))))))
 (b1 (sret qbl))
 bn)))))))
 bn)
 (bc (sset 16 (qcall (fun _ => d__law_deep) hR (by decide) (qac (qv 1) (qac (qv 4) (qac (qv 3) (qac qint qan))))) (hnd := fun _ => sc_law.nd))
 (bc (sset 17 (qtup (qac qstr (qac (qv 16) qan))) (hnd := fun _ => sc_law.nd))
 (bc (sif (QW.t (wor (t2 (cNe hR) (qcall (fun _ => d__law_refused) hR (by decide) (qac (qv 16) qan)) (qtup (qac qstr (qac qnon qan)))) (wo1 (tNot' (ttru (qcall (fun _ => d__law_same) hR (by decide) (qac (qcall (fun _ => d__law_refused) hR (by decide) (qac (qv 17) qan)) (qac (qtup (qac qstr (qac (qv 17) qan))) qan))))))))
 (b1 (sret qbl))
 bn)
 (bc (sasg (qcall (fun _ => d__law_spoilt) hR (by decide) (qac (qv 1) (qac (qv 7) qan))) (gtup (gsc (gn 18 (hnd := fun _ => sc_law.nd)) (gsc (gn 19 (hnd := fun _ => sc_law.nd)) gsn))))
 (b1 (sret (qAnd (qcall (fun _ => d__law_same) hR (by decide) (qac (qcall (fun _ => d__law_refused) hR (by decide) (qac (qv 18) qan)) (qac (qtup (qac qstr (qac (qv 19) qan))) qan))) (q1b (q2 (cEq hR) (qcall (fun _ => d__law_refused) hR (by decide) (qac (qv 7) qan)) (qtup (qac qstr (qac qnon qan)))))))))))))))))))))))))

end
end K00
end L3

set_option Elab.async false
set_option linter.all false
set_option maxRecDepth 100000
set_option maxHeartbeats 0
namespace L3
namespace K00
open PySem PySem.Spec L2
-- the zero cases stand in the data-level texts
abbrev s_BadClaim___init__ : Stmt := inClass (top 3) 0
/-- what the top has made -/
structure Fa (K : PySem.W.Frag) (w : World) (mg : Str → Option Value) (A : Ad) : Prop where
  m_len : mg "len" = none
  m_str : mg "str" = none
  m_isinstance : mg "isinstance" = none
  g_LETTERS : ∃ u, mg "LETTERS" = some u ∧ RelV (.str "abcdefghijklmnopqrstuvwxyz") u
  m_all : mg "all" = none
  m_bool : mg "bool" = none
  m_int : mg "int" = none
  m_tuple : mg "tuple" = none
  g_ITEMS : ∃ u, mg "ITEMS" = some u ∧ RelV (.ref A.ITEMS) u
  kd_ITEMS : KD3 K w A.ITEMS tbl_ITEMS
  ka_ITEMS : KA3 K A.ITEMS abs_ITEMS
  g_MOST_LABEL : ∃ u, mg "MOST_LABEL" = some u ∧ RelV (.int 20) u
  g_JOINERS : (∃ u, mg "JOINERS" = some u ∧ RelV (.ref A.JOINERS) u) ∧ KT K A.JOINERS ((["not", "both", "either"] : List Str).map V.str)
  m_range : mg "range" = none
  g_MOST_LEVELS : ∃ u, mg "MOST_LEVELS" = some u ∧ RelV (.int 5) u
  c_Claim : Cls K A.Claim
  n_Claim__parts : NoAttr K A.Claim "_parts"
  gc_Claim : mg "Claim" = some (.ref A.Claim)
  i_Claim : C8.InsC K A.Claim
  m_enumerate : mg "enumerate" = none
  m_abs : mg "abs" = none
  em_BadClaim_BadClaim : PySem.W.exmOne K (.ref A.BadClaim) (.ref A.BadClaim) = some true
  gc_BadClaim : mg "BadClaim" = some (.ref A.BadClaim)
  gc_BadForm : mg "BadForm" = some (.ref A.BadForm)
  ki_BadClaim_BadForm : PySem.W.kitOne K (.ref A.BadClaim) (.ref A.BadForm) = some false
  ex_BadClaim : ExcC K A.BadClaim
  gc_ScreenError : mg "ScreenError" = some (.ref A.ScreenError)
  ki_BadClaim_ScreenError : PySem.W.kitOne K (.ref A.BadClaim) (.ref A.ScreenError) = some true
  m_ValueError : mg "ValueError" = none
  ki_BadClaim_ValueError : PySem.W.kitOne K (.ref A.BadClaim) (.type "ValueError") = some true
  xf_BadClaim : XfC K A.BadClaim
  n_BadClaim_part : NoAttr K A.BadClaim "part"
  m_repr : mg "repr" = none
  xk_BadClaim : ExC K mg A.BadClaim
  f_is_name : ∃ f, Df K "is_name" "is_name" s_is_name f ∧ mg "is_name" = some (.ref f)
  f_is_number : ∃ f, Df K "is_number" "is_number" s_is_number f ∧ mg "is_number" = some (.ref f)
  f_is_claim_part : ∃ f, Df K "is_claim_part" "is_claim_part" s_is_claim_part f ∧ mg "is_claim_part" = some (.ref f)
  f_check_claim : ∃ f, Df K "check_claim" "check_claim" s_check_claim f ∧ mg "check_claim" = some (.ref f)
  f_labels_in : ∃ f, Df K "labels_in" "labels_in" s_labels_in f ∧ mg "labels_in" = some (.ref f)
  f_holds_of : ∃ f, Df K "holds_of" "holds_of" s_holds_of f ∧ mg "holds_of" = some (.ref f)
  f_Claim___init__ : ∃ f, Df K "__init__" "Claim.__init__" s_Claim___init__ f ∧ Mk K A.Claim f ∧ mg "Claim" = some (.ref A.Claim)
  f_Claim_parts : ∃ p f, Df K "parts" "Claim.parts" s_Claim_parts f ∧ PropOf K A.Claim "parts" p f
  f_Claim___call__ : ∃ f, Df K "__call__" "Claim.__call__" s_Claim___call__ f ∧ PySem.W.findIn K (.ref A.Claim) "__call__" = some (some (.ref f)) ∧ PySem.W.isFn K (.ref f) = true ∧ PySem.W.fnIn K f = true ∧ PySem.W.selfFirst K A.Claim = true
  f_Claim___and__ : ∃ f, Df K "__and__" "Claim.__and__" s_Claim___and__ f ∧ PySem.W.findIn K (.ref A.Claim) "__and__" = some (some (.ref f)) ∧ PySem.W.isFn K (.ref f) = true ∧ PySem.W.fnIn K f = true ∧ PySem.W.selfFirst K A.Claim = true
  f_Claim___or__ : ∃ f, Df K "__or__" "Claim.__or__" s_Claim___or__ f ∧ PySem.W.findIn K (.ref A.Claim) "__or__" = some (some (.ref f)) ∧ PySem.W.isFn K (.ref f) = true ∧ PySem.W.fnIn K f = true ∧ PySem.W.selfFirst K A.Claim = true
  f_Claim___invert__ : ∃ f, Df K "__invert__" "Claim.__invert__" s_Claim___invert__ f ∧ PySem.W.findIn K (.ref A.Claim) "__invert__" = some (some (.ref f)) ∧ PySem.W.isFn K (.ref f) = true ∧ PySem.W.fnIn K f = true ∧ PySem.W.selfFirst K A.Claim = true
  f_Claim___eq__ : ∃ f, Df K "__eq__" "Claim.__eq__" s_Claim___eq__ f ∧ PySem.W.findIn K (.ref A.Claim) (cmpInfo .Eq).2.1 = some (some (.ref f)) ∧ PySem.W.isFn K (.ref f) = true
  f__law_mixed : ∃ f, Df K "_law_mixed" "_law_mixed" s__law_mixed f ∧ mg "_law_mixed" = some (.ref f)
  f__law_bag : ∃ f, Df K "_law_bag" "_law_bag" s__law_bag f ∧ mg "_law_bag" = some (.ref f)
  f__law_pick : ∃ f, Df K "_law_pick" "_law_pick" s__law_pick f ∧ mg "_law_pick" = some (.ref f)
  f__law_choice : ∃ f, Df K "_law_choice" "_law_choice" s__law_choice f ∧ mg "_law_choice" = some (.ref f)
  f__law_new_name : ∃ f, Df K "_law_new_name" "_law_new_name" s__law_new_name f ∧ mg "_law_new_name" = some (.ref f)
  f__law_drawn_node : ∃ f, Df K "_law_drawn_node" "_law_drawn_node" s__law_drawn_node f ∧ mg "_law_drawn_node" = some (.ref f)
  f__law_drawn_look : ∃ f, Df K "_law_drawn_look" "_law_drawn_look" s__law_drawn_look f ∧ mg "_law_drawn_look" = some (.ref f)
  f__law_drawn_claim : ∃ f, Df K "_law_drawn_claim" "_law_drawn_claim" s__law_drawn_claim f ∧ mg "_law_drawn_claim" = some (.ref f)
  f__law_labels : ∃ f, Df K "_law_labels" "_law_labels" s__law_labels f ∧ mg "_law_labels" = some (.ref f)
  f__law_holds : ∃ f, Df K "_law_holds" "_law_holds" s__law_holds f ∧ mg "_law_holds" = some (.ref f)
  f__law_levels : ∃ f, Df K "_law_levels" "_law_levels" s__law_levels f ∧ mg "_law_levels" = some (.ref f)
  f__law_spoilt : ∃ f, Df K "_law_spoilt" "_law_spoilt" s__law_spoilt f ∧ mg "_law_spoilt" = some (.ref f)
  f__law_refused : ∃ f, Df K "_law_refused" "_law_refused" s__law_refused f ∧ mg "_law_refused" = some (.ref f)
  f__law_tells : ∃ f, Df K "_law_tells" "_law_tells" s__law_tells f ∧ mg "_law_tells" = some (.ref f)
  f__law_same : ∃ f, Df K "_law_same" "_law_same" s__law_same f ∧ mg "_law_same" = some (.ref f)
  f__law_deep : ∃ f, Df K "_law_deep" "_law_deep" s__law_deep f ∧ mg "_law_deep" = some (.ref f)
  f_law : ∃ f, Df K "law" "law" s_law f ∧ mg "law" = some (.ref f)
  f_BadClaim___init__ : ∃ f, DfX K "__init__" "BadClaim.__init__" s_BadClaim___init__ A.BadClaim f ∧ PySem.W.findIn K (.ref A.BadClaim) "__init__" = some (some (.ref f)) ∧ PySem.W.typeIn K (.ref f) = some (.type "function")
theorem bd_is_name : BindN "is_name" "is_name" s_is_name ["thing"] := fun _ _ _ _ _ _ us hl => match us, hl with | [_], _ => rfl
theorem bd_is_number : BindN "is_number" "is_number" s_is_number ["thing", "low", "high"] := fun _ _ _ _ _ _ us hl => match us, hl with | [_, _, _], _ => rfl
theorem bd_is_claim_part : BindN "is_claim_part" "is_claim_part" s_is_claim_part ["part"] := fun _ _ _ _ _ _ us hl => match us, hl with | [_], _ => rfl
theorem bd_check_claim : BindN "check_claim" "check_claim" s_check_claim ["parts"] := fun _ _ _ _ _ _ us hl => match us, hl with | [_], _ => rfl
theorem bd_labels_in : BindN "labels_in" "labels_in" s_labels_in ["shown"] := fun _ _ _ _ _ _ us hl => match us, hl with | [_], _ => rfl
theorem bd_holds_of : BindN "holds_of" "holds_of" s_holds_of ["parts", "look"] := fun _ _ _ _ _ _ us hl => match us, hl with | [_, _], _ => rfl
theorem bd_Claim___init__ : BindN "__init__" "Claim.__init__" s_Claim___init__ ["self", "parts"] := fun _ _ _ _ _ _ us hl => match us, hl with | [_, _], _ => rfl
theorem bd_Claim_parts : BindN "parts" "Claim.parts" s_Claim_parts ["self"] := fun _ _ _ _ _ _ us hl => match us, hl with | [_], _ => rfl
theorem bd_Claim___call__ : BindN "__call__" "Claim.__call__" s_Claim___call__ ["self", "look"] := fun _ _ _ _ _ _ us hl => match us, hl with | [_, _], _ => rfl
theorem bd_Claim___and__ : BindN "__and__" "Claim.__and__" s_Claim___and__ ["self", "other"] := fun _ _ _ _ _ _ us hl => match us, hl with | [_, _], _ => rfl
theorem bd_Claim___or__ : BindN "__or__" "Claim.__or__" s_Claim___or__ ["self", "other"] := fun _ _ _ _ _ _ us hl => match us, hl with | [_, _], _ => rfl
theorem bd_Claim___invert__ : BindN "__invert__" "Claim.__invert__" s_Claim___invert__ ["self"] := fun _ _ _ _ _ _ us hl => match us, hl with | [_], _ => rfl
theorem bd_Claim___eq__ : BindN "__eq__" "Claim.__eq__" s_Claim___eq__ ["self", "other"] := fun _ _ _ _ _ _ us hl => match us, hl with | [_, _], _ => rfl
theorem bd__law_mixed : BindN "_law_mixed" "_law_mixed" s__law_mixed ["number", "turn"] := fun _ _ _ _ _ _ us hl => match us, hl with | [_, _], _ => rfl
theorem bd__law_bag : BindN "_law_bag" "_law_bag" s__law_bag ["script"] := fun _ _ _ _ _ _ us hl => match us, hl with | [_], _ => rfl
theorem bd__law_pick : BindN "_law_pick" "_law_pick" s__law_pick ["bag", "many"] := fun _ _ _ _ _ _ us hl => match us, hl with | [_, _], _ => rfl
theorem bd__law_choice : BindN "_law_choice" "_law_choice" s__law_choice ["bag", "things"] := fun _ _ _ _ _ _ us hl => match us, hl with | [_, _], _ => rfl
theorem bd__law_new_name : BindN "_law_new_name" "_law_new_name" s__law_new_name ["bag", "used"] := fun _ _ _ _ _ _ us hl => match us, hl with | [_, _], _ => rfl
theorem bd__law_drawn_node : BindN "_law_drawn_node" "_law_drawn_node" s__law_drawn_node ["bag", "labels", "levels"] := fun _ _ _ _ _ _ us hl => match us, hl with | [_, _, _], _ => rfl
theorem bd__law_drawn_look : BindN "_law_drawn_look" "_law_drawn_look" s__law_drawn_look ["bag", "labels", "words"] := fun _ _ _ _ _ _ us hl => match us, hl with | [_, _, _], _ => rfl
theorem bd__law_drawn_claim : BindN "_law_drawn_claim" "_law_drawn_claim" s__law_drawn_claim ["bag", "labels", "words", "levels"] := fun _ _ _ _ _ _ us hl => match us, hl with | [_, _, _, _], _ => rfl
theorem bd__law_labels : BindN "_law_labels" "_law_labels" s__law_labels ["shown"] := fun _ _ _ _ _ _ us hl => match us, hl with | [_], _ => rfl
theorem bd__law_holds : BindN "_law_holds" "_law_holds" s__law_holds ["parts", "look"] := fun _ _ _ _ _ _ us hl => match us, hl with | [_, _], _ => rfl
theorem bd__law_levels : BindN "_law_levels" "_law_levels" s__law_levels ["parts"] := fun _ _ _ _ _ _ us hl => match us, hl with | [_], _ => rfl
theorem bd__law_spoilt : BindN "_law_spoilt" "_law_spoilt" s__law_spoilt ["bag", "parts"] := fun _ _ _ _ _ _ us hl => match us, hl with | [_, _], _ => rfl
theorem bd__law_refused : BindN "_law_refused" "_law_refused" s__law_refused ["parts"] := fun _ _ _ _ _ _ us hl => match us, hl with | [_], _ => rfl
theorem bd__law_tells : BindN "_law_tells" "_law_tells" s__law_tells ["claim", "look", "due"] := fun _ _ _ _ _ _ us hl => match us, hl with | [_, _, _], _ => rfl
theorem bd__law_same : BindN "_law_same" "_law_same" s__law_same ["first", "second"] := fun _ _ _ _ _ _ us hl => match us, hl with | [_, _], _ => rfl
theorem bd__law_deep : BindN "_law_deep" "_law_deep" s__law_deep ["bag", "labels", "words", "levels"] := fun _ _ _ _ _ _ us hl => match us, hl with | [_, _, _, _], _ => rfl
theorem bd_law : BindN "law" "law" s_law ["script"] := fun _ _ _ _ _ _ us hl => match us, hl with | [_], _ => rfl
section
variable {P : Program} {w : World} {K : PySem.W.Frag} {mg : Str → Option Value} {base : Heap} {A : Ad}
theorem scx_BadClaim : FnScopeX ["self", "part"] ["self", "part"] (defScope s_BadClaim___init__) := ⟨rfl, rfl, rfl, by decide, rfl, by decide +kernel, by decide +kernel, by decide +kernel, rfl, rfl⟩
theorem ok_xc_BadClaim (T : Fa K w mg A) (hP : PrO P) : Xc3 P w K mg base 1 "BadClaim" A.BadClaim (fl1 "part" false) :=
  xc1 T.f_BadClaim___init__ T.xk_BadClaim (fun _ _ _ _ _ _ _ us hl => match us, hl with | [_, _], _ => rfl) scx_BadClaim hP rfl ⟨fun _ => rfl, fun _ => rfl, fun _ => rfl⟩ rfl rfl T.n_BadClaim_part T.gc_BadClaim (fun _ => rfl) (by decide) (by decide) (.lit (by decide) (.rep (j := 0) rfl .nil)) (Nat.le_of_ble_eq_true rfl) (fun X hK hN hs hr => (.cons pe_str (.cons (hK ▸ pe_fmtD hr (pe_var (by rw [hN]; rfl) (by rw [hs]; exact .inl rfl))) .nil)))
theorem ok_is_name (T : Fa K w mg A) (hP : PrO P) : C3 P w K mg base 1 "is_name" [.shr] (sp_is_name A) := ck T.f_is_name bd_is_name sc_is_name rfl rfl (fun f => w_is_name T.m_len T.m_str T.m_isinstance T.g_LETTERS T.m_all) (t_is_name A)
theorem ok_is_number (T : Fa K w mg A) (hP : PrO P) : C3 P w K mg base 1 "is_number" [.shr, .shr, .shr] (sp_is_number A) := ck T.f_is_number bd_is_number sc_is_number rfl rfl (fun f => w_is_number T.m_bool T.m_isinstance T.m_int) (t_is_number A)
theorem ok_is_claim_part (T : Fa K w mg A) (hP : PrO P) : C3 P w K mg base 2 "is_claim_part" [.shr] (sp_is_claim_part A) := ck T.f_is_claim_part bd_is_claim_part sc_is_claim_part rfl rfl (fun f => w_is_claim_part T.m_len T.m_tuple T.m_isinstance T.g_ITEMS T.kd_ITEMS T.ka_ITEMS T.m_str T.g_MOST_LABEL (ok_is_number T hP) (ok_is_name T hP)) (t_is_claim_part A)
theorem okx_check_claim (T : Fa K w mg A) (hP : PrO P) : C3X P w K mg base 3 "check_claim" [.shr] (sx_check_claim A) := ckX T.f_check_claim bd_check_claim sc_check_claim rfl rfl (fun f => w_check_claim (ok_is_claim_part T hP) (ok_xc_BadClaim T hP) T.g_JOINERS T.m_len T.m_range T.g_MOST_LEVELS) (t_check_claim A)
theorem ok_labels_in_rec (T : Fa K w mg A) (hP : PrO P) : ∀ n, C3 P w K mg base (1 + n) "labels_in" [.shr] (sp_labels_in' n)
  | 0 => ck0 T.f_labels_in bd_labels_in sc_labels_in (z_labels_in)
  | n + 1 => have me := ok_labels_in_rec T hP n
    ck T.f_labels_in bd_labels_in sc_labels_in rfl rfl (fun f => w_labels_in me) (t_labels_in A n)
theorem ok_labels_in (T : Fa K w mg A) (hP : PrO P) : C3 P w K mg base 5 "labels_in" [.shr] (sp_labels_in A) := ok_labels_in_rec T hP 4
theorem ok_holds_of_rec (T : Fa K w mg A) (hP : PrO P) : ∀ n, C3 P w K mg base (6 + n) "holds_of" [.shr, .shr] (sp_holds_of' n)
  | 0 => ck0 T.f_holds_of bd_holds_of sc_holds_of (z_holds_of)
  | n + 1 => have me := ok_holds_of_rec T hP n
    ck T.f_holds_of bd_holds_of sc_holds_of rfl rfl (fun f => w_holds_of (ok_labels_in T hP) T.m_len me (Nat.le_trans (by decide) (Nat.le_add_right 6 n))) (t_holds_of A n)
theorem ok_holds_of (T : Fa K w mg A) (hP : PrO P) : C3 P w K mg base 13 "holds_of" [.shr, .shr] (sp_holds_of A) := ok_holds_of_rec T hP 7
theorem okx_Claim___init__ (T : Fa K w mg A) (hP : PrO P) : Mk3X P w K mg base 4 "Claim" A.Claim [.shr] (sx_Claim___init__ A) := mk3X T.f_Claim___init__ bd_Claim___init__ sc_Claim___init__ rfl rfl (fun f => w_Claim___init__ (okx_check_claim T hP) T.c_Claim T.n_Claim__parts) (t_Claim___init__ A)
theorem ok_Claim___init__ (T : Fa K w mg A) (hP : PrO P) : Mk3 P w K mg base 4 "Claim" A.Claim [.shr] (sp_Claim___init__ A) := (okx_Claim___init__ T hP).down fun _ _ _ h => h
theorem ok_Claim_parts (T : Fa K w mg A) (hP : PrO P) : Pr3 P w K mg base 1 A.Claim "parts" .shr (sp_Claim_parts A) := pr3 T.c_Claim T.f_Claim_parts bd_Claim_parts sc_Claim_parts rfl rfl (fun f => w_Claim_parts T.c_Claim T.n_Claim__parts) (t_Claim_parts A)
theorem ok_Claim___call__ (T : Fa K w mg A) (hP : PrO P) : So3 P w K mg base 14 A.Claim "__call__" [.shr, .shr] (sp_Claim___call__ A) := so3 T.f_Claim___call__ bd_Claim___call__ sc_Claim___call__ rfl rfl (fun f => w_Claim___call__ T.c_Claim T.n_Claim__parts (ok_holds_of T hP)) (t_Claim___call__ A)
theorem ok_Claim___and__ (T : Fa K w mg A) (hP : PrO P) : So3 P w K mg base 6 A.Claim "__and__" [.shr, .shr] (sp_Claim___and__ A) := so3 T.f_Claim___and__ bd_Claim___and__ sc_Claim___and__ rfl rfl (fun f => w_Claim___and__ (ok_Claim_parts T hP) T.c_Claim T.n_Claim__parts (ok_Claim___init__ T hP)) (t_Claim___and__ A)
theorem ok_Claim___or__ (T : Fa K w mg A) (hP : PrO P) : So3 P w K mg base 6 A.Claim "__or__" [.shr, .shr] (sp_Claim___or__ A) := so3 T.f_Claim___or__ bd_Claim___or__ sc_Claim___or__ rfl rfl (fun f => w_Claim___or__ (ok_Claim_parts T hP) T.c_Claim T.n_Claim__parts (ok_Claim___init__ T hP)) (t_Claim___or__ A)
theorem ok_Claim___invert__ (T : Fa K w mg A) (hP : PrO P) : So3 P w K mg base 6 A.Claim "__invert__" [.shr] (sp_Claim___invert__ A) := so3 T.f_Claim___invert__ bd_Claim___invert__ sc_Claim___invert__ rfl rfl (fun f => w_Claim___invert__ T.c_Claim T.n_Claim__parts (ok_Claim___init__ T hP)) (t_Claim___invert__ A)
theorem ok_Claim___eq__ (T : Fa K w mg A) (hP : PrO P) : Op3 P w K mg base 3 A.Claim .Eq [.shr, .shr] (sp_Claim___eq__ A) := op3 T.f_Claim___eq__ bd_Claim___eq__ sc_Claim___eq__ rfl rfl (fun f => w_Claim___eq__ (ok_Claim_parts T hP) T.gc_Claim T.i_Claim T.m_isinstance) (t_Claim___eq__ A)
theorem ok__law_mixed (T : Fa K w mg A) (hP : PrO P) : C3 P w K mg base 1 "_law_mixed" [.shr, .shr] (sp__law_mixed A) := ck T.f__law_mixed bd__law_mixed sc__law_mixed rfl rfl (fun f => w__law_mixed T.m_int) (t__law_mixed A)
theorem ok__law_bag (T : Fa K w mg A) (hP : PrO P) : C3 P w K mg base 1 "_law_bag" [.shr] (sp__law_bag A) := ck T.f__law_bag bd__law_bag sc__law_bag rfl rfl (fun f => w__law_bag T.m_int T.m_len T.m_enumerate T.m_abs) (t__law_bag A)
theorem ok__law_pick (T : Fa K w mg A) (hP : PrO P) : C3 P w K mg base 2 "_law_pick" [.par, .shr] (sp__law_pick A) := ck T.f__law_pick bd__law_pick sc__law_pick rfl rfl (fun f => w__law_pick T.m_len T.m_abs (ok__law_mixed T hP) T.m_int) (t__law_pick A)
theorem ok__law_choice (T : Fa K w mg A) (hP : PrO P) : C3 P w K mg base 3 "_law_choice" [.par, .shr] (sp__law_choice A) := ck T.f__law_choice bd__law_choice sc__law_choice rfl rfl (fun f => w__law_choice T.m_len (ok__law_pick T hP)) (t__law_choice A)
theorem ok__law_new_name (T : Fa K w mg A) (hP : PrO P) : C3 P w K mg base 3 "_law_new_name" [.par, .par] (sp__law_new_name A) := ck T.f__law_new_name bd__law_new_name sc__law_new_name rfl rfl (fun f => w__law_new_name (ok__law_pick T hP) T.m_range T.m_len T.m_int) (t__law_new_name A)
theorem ok__law_drawn_node_rec (T : Fa K w mg A) (hP : PrO P) : ∀ n, C3 P w K mg base (4 + n) "_law_drawn_node" [.par, .shr, .shr] (sp__law_drawn_node' n)
  | 0 => ck0 T.f__law_drawn_node bd__law_drawn_node sc__law_drawn_node (z__law_drawn_node)
  | n + 1 => have me := ok__law_drawn_node_rec T hP n
    ck T.f__law_drawn_node bd__law_drawn_node sc__law_drawn_node rfl rfl (fun f => w__law_drawn_node (ok__law_pick T hP) T.m_range me T.m_tuple (ok__law_choice T hP) (Nat.le_trans (by decide) (Nat.le_add_right 4 n))) (t__law_drawn_node A n)
theorem ok__law_drawn_node (T : Fa K w mg A) (hP : PrO P) : C3 P w K mg base 8 "_law_drawn_node" [.par, .shr, .shr] (sp__law_drawn_node A) := ok__law_drawn_node_rec T hP 4
theorem ok__law_drawn_look (T : Fa K w mg A) (hP : PrO P) : C3 P w K mg base 9 "_law_drawn_look" [.par, .shr, .shr] (sp__law_drawn_look A) := ck T.f__law_drawn_look bd__law_drawn_look sc__law_drawn_look rfl rfl (fun f => w__law_drawn_look (ok__law_pick T hP) T.m_range (ok__law_choice T hP) (ok__law_drawn_node T hP) T.m_tuple) (t__law_drawn_look A)
theorem ok__law_drawn_claim_rec (T : Fa K w mg A) (hP : PrO P) : ∀ n, C3 P w K mg base (4 + n) "_law_drawn_claim" [.par, .shr, .shr, .shr] (sp__law_drawn_claim' n)
  | 0 => ck0 T.f__law_drawn_claim bd__law_drawn_claim sc__law_drawn_claim (z__law_drawn_claim)
  | n + 1 => have me := ok__law_drawn_claim_rec T hP n
    ck T.f__law_drawn_claim bd__law_drawn_claim sc__law_drawn_claim rfl rfl (fun f => w__law_drawn_claim (ok__law_pick T hP) (ok__law_choice T hP) me (Nat.le_trans (by decide) (Nat.le_add_right 4 n))) (t__law_drawn_claim A n)
theorem ok__law_drawn_claim (T : Fa K w mg A) (hP : PrO P) : C3 P w K mg base 10 "_law_drawn_claim" [.par, .shr, .shr, .shr] (sp__law_drawn_claim A) := ok__law_drawn_claim_rec T hP 6
theorem ok__law_labels_rec (T : Fa K w mg A) (hP : PrO P) : ∀ n, C3 P w K mg base (1 + n) "_law_labels" [.shr] (sp__law_labels' n)
  | 0 => ck0 T.f__law_labels bd__law_labels sc__law_labels (z__law_labels)
  | n + 1 => have me := ok__law_labels_rec T hP n
    ck T.f__law_labels bd__law_labels sc__law_labels rfl rfl (fun f => w__law_labels me) (t__law_labels A n)
theorem ok__law_labels (T : Fa K w mg A) (hP : PrO P) : C3 P w K mg base 5 "_law_labels" [.shr] (sp__law_labels A) := ok__law_labels_rec T hP 4
theorem ok__law_holds_rec (T : Fa K w mg A) (hP : PrO P) : ∀ n, C3 P w K mg base (6 + n) "_law_holds" [.shr, .shr] (sp__law_holds' n)
  | 0 => ck0 T.f__law_holds bd__law_holds sc__law_holds (z__law_holds)
  | n + 1 => have me := ok__law_holds_rec T hP n
    ck T.f__law_holds bd__law_holds sc__law_holds rfl rfl (fun f => w__law_holds (ok__law_labels T hP) T.m_len me (Nat.le_trans (by decide) (Nat.le_add_right 6 n))) (t__law_holds A n)
theorem ok__law_holds (T : Fa K w mg A) (hP : PrO P) : C3 P w K mg base 13 "_law_holds" [.shr, .shr] (sp__law_holds A) := ok__law_holds_rec T hP 7
theorem ok__law_levels_rec (T : Fa K w mg A) (hP : PrO P) : ∀ n, C3 P w K mg base (1 + n) "_law_levels" [.shr] (sp__law_levels' n)
  | 0 => ck0 T.f__law_levels bd__law_levels sc__law_levels (z__law_levels)
  | n + 1 => have me := ok__law_levels_rec T hP n
    ck T.f__law_levels bd__law_levels sc__law_levels rfl rfl (fun f => w__law_levels me) (t__law_levels A n)
theorem ok__law_levels (T : Fa K w mg A) (hP : PrO P) : C3 P w K mg base 8 "_law_levels" [.shr] (sp__law_levels A) := ok__law_levels_rec T hP 7
theorem ok__law_spoilt_rec (T : Fa K w mg A) (hP : PrO P) : ∀ n, C3 P w K mg base (3 + n) "_law_spoilt" [.par, .shr] (sp__law_spoilt' n)
  | 0 => ck0 T.f__law_spoilt bd__law_spoilt sc__law_spoilt (z__law_spoilt)
  | n + 1 => have me := ok__law_spoilt_rec T hP n
    ck T.f__law_spoilt bd__law_spoilt sc__law_spoilt rfl rfl (fun f => w__law_spoilt (ok__law_pick T hP) T.m_len me (Nat.le_trans (by decide) (Nat.le_add_right 3 n))) (t__law_spoilt A n)
theorem ok__law_spoilt (T : Fa K w mg A) (hP : PrO P) : C3 P w K mg base 9 "_law_spoilt" [.par, .shr] (sp__law_spoilt A) := ok__law_spoilt_rec T hP 6
theorem okx__law_refused (T : Fa K w mg A) (hP : PrO P) : C3X P w K mg base 6 "_law_refused" [.shr] (sx__law_refused A) := ckX T.f__law_refused bd__law_refused sc__law_refused rfl rfl (fun f => w__law_refused (okx_Claim___init__ T hP) T.em_BadClaim_BadClaim T.gc_BadClaim T.gc_BadForm T.ki_BadClaim_BadForm T.ex_BadClaim T.m_isinstance T.gc_ScreenError T.ki_BadClaim_ScreenError T.m_ValueError T.ki_BadClaim_ValueError T.xf_BadClaim T.n_BadClaim_part) (t__law_refused A)
theorem ok__law_refused (T : Fa K w mg A) (hP : PrO P) : C3 P w K mg base 6 "_law_refused" [.shr] (sp__law_refused A) := (okx__law_refused T hP).down fun _ _ _ h => h
theorem ok__law_tells (T : Fa K w mg A) (hP : PrO P) : C3 P w K mg base 15 "_law_tells" [.shr, .shr, .shr] (sp__law_tells A) := ck T.f__law_tells bd__law_tells sc__law_tells rfl rfl (fun f => w__law_tells (ok_Claim___call__ T hP) T.m_bool T.m_isinstance) (t__law_tells A)
theorem ok__law_same (T : Fa K w mg A) (hP : PrO P) : C3 P w K mg base 1 "_law_same" [.shr, .shr] (sp__law_same A) := ck T.f__law_same bd__law_same sc__law_same rfl rfl (fun f => w__law_same T.m_repr) (t__law_same A)
theorem ok__law_deep (T : Fa K w mg A) (hP : PrO P) : C3 P w K mg base 11 "_law_deep" [.par, .shr, .shr, .shr] (sp__law_deep A) := ck T.f__law_deep bd__law_deep sc__law_deep rfl rfl (fun f => w__law_deep (ok__law_drawn_claim T hP) T.m_range (ok__law_pick T hP)) (t__law_deep A)
theorem law_F (T : Fa K w mg A) (hP : PrO P) {fa : Addr} (h : mg "law" = some (.ref fa)) : ∃ fd : FuncData, (∀ (s : Shared) (u : Value), BindsTo s fd ⟨[u], []⟩ [("script", u)]) ∧ ∀ base : Heap, FnOk P w K mg base CX0 (15 + 1) fa fd ["script"] (Lift K [.shr] (sp_law A)) := by
  obtain ⟨f, F, hm⟩ := T.f_law
  cases hm.symm.trans h
  obtain ⟨fd, F⟩ := F.ex
  exact ⟨fd, fun s u => F.bindsA bd_law s [u] rfl, fun base => fn3 F sc_law rfl rfl (w_law (ok__law_bag T hP) T.m_range (ok__law_new_name T hP) (ok__law_drawn_look T hP) (ok__law_drawn_claim T hP) (ok_Claim___init__ T hP) (ok_Claim___eq__ T hP) (ok__law_same T hP) (ok_Claim_parts T hP) (ok__law_holds T hP) (ok__law_tells T hP) (ok__law_levels T hP) (ok_Claim___and__ T hP) (ok_Claim___or__ T hP) (ok_Claim___invert__ T hP) (ok__law_deep T hP) (ok__law_refused T hP) (ok__law_spoilt T hP)) (t_law A)⟩
end
theorem walk {l : PySem.W.OpenLaw} (hP : PrO l.prog) {q : Program} {loose : List Str} {XP : (Str → Option Value) → Heap → Prop} {YP : World → Heap → Prop} {d : DefRec} {K : Params → PySem.W.Frag} (hn : l.most = some 63) (hdf : d.params.defaults = []) (hd : d.name = "law")
    (hY : ∀ (w : World) (h : Heap), YP w h → (K w.params).In h)
    (F : ∀ (w : World) (mg : Str → Option Value) (h : Heap), (K w.params).In h → h.Ns mainGlobals mg → ∃ A, Fa (K w.params) w mg A) : PySem.W.WalkO q loose XP YP l.row.toRowW d [] (fun f vs => PySem.call f vs) :=
  L3.walk_of (n := 63) (k := 16) (x := "script") (CX := fun _ => CX0) (sp := fun w => Lift (K w.params) [.shr] (sp_law ⟨0, 0, 0, 0, 0, 0, w⟩)) hn (by decide) hdf (L3.room_caller ⟨rfl, by decide, by decide⟩) hY
    (fun w mg fa h X G e => by
      obtain ⟨A, T⟩ := F w mg h X G
      obtain ⟨fd, h1, h2⟩ := law_F T (P := l.prog) hP (hd ▸ e)
      exact ⟨fd, h1, fun base _ _ => h2 base⟩)
    (fun w H a ns hl hO hS => hsp3 (q := 63) (fun ns hl QO _ => ⟨ns, rfl, hl, rfl⟩) H a ns hl hO hS) fun _ _ _ _ _ z => z
structure FaX (K : PySem.W.Frag) (w : World) (mg : Str → Option Value) (ITEMS JOINERS Claim BadClaim ScreenError BadForm : Addr) : Prop where
  m_len : mg "len" = none
  m_str : mg "str" = none
  m_isinstance : mg "isinstance" = none
  g_LETTERS : ∃ u, mg "LETTERS" = some u ∧ RelV (.str "abcdefghijklmnopqrstuvwxyz") u
  m_all : mg "all" = none
  m_bool : mg "bool" = none
  m_int : mg "int" = none
  m_tuple : mg "tuple" = none
  g_ITEMS : ∃ u, mg "ITEMS" = some u ∧ RelV (.ref ITEMS) u
  kd_ITEMS : KD3 K w ITEMS tbl_ITEMS
  ka_ITEMS : KA3 K ITEMS abs_ITEMS
  g_MOST_LABEL : ∃ u, mg "MOST_LABEL" = some u ∧ RelV (.int 20) u
  g_JOINERS : (∃ u, mg "JOINERS" = some u ∧ RelV (.ref JOINERS) u) ∧ KT K JOINERS ((["not", "both", "either"] : List Str).map V.str)
  m_range : mg "range" = none
  g_MOST_LEVELS : ∃ u, mg "MOST_LEVELS" = some u ∧ RelV (.int 5) u
  c_Claim : Cls K Claim
  n_Claim__parts : NoAttr K Claim "_parts"
  gc_Claim : mg "Claim" = some (.ref Claim)
  i_Claim : C8.InsC K Claim
  m_enumerate : mg "enumerate" = none
  m_abs : mg "abs" = none
  em_BadClaim_BadClaim : PySem.W.exmOne K (.ref BadClaim) (.ref BadClaim) = some true
  gc_BadClaim : mg "BadClaim" = some (.ref BadClaim)
  gc_BadForm : mg "BadForm" = some (.ref BadForm)
  ki_BadClaim_BadForm : PySem.W.kitOne K (.ref BadClaim) (.ref BadForm) = some false
  ex_BadClaim : ExcC K BadClaim
  gc_ScreenError : mg "ScreenError" = some (.ref ScreenError)
  ki_BadClaim_ScreenError : PySem.W.kitOne K (.ref BadClaim) (.ref ScreenError) = some true
  m_ValueError : mg "ValueError" = none
  ki_BadClaim_ValueError : PySem.W.kitOne K (.ref BadClaim) (.type "ValueError") = some true
  xf_BadClaim : XfC K BadClaim
  n_BadClaim_part : NoAttr K BadClaim "part"
  m_repr : mg "repr" = none
  xk_BadClaim : ExC K mg BadClaim
  f_is_name : ∃ f, Df K "is_name" "is_name" s_is_name f ∧ mg "is_name" = some (.ref f)
  f_is_number : ∃ f, Df K "is_number" "is_number" s_is_number f ∧ mg "is_number" = some (.ref f)
  f_is_claim_part : ∃ f, Df K "is_claim_part" "is_claim_part" s_is_claim_part f ∧ mg "is_claim_part" = some (.ref f)
  f_check_claim : ∃ f, Df K "check_claim" "check_claim" s_check_claim f ∧ mg "check_claim" = some (.ref f)
  f_labels_in : ∃ f, Df K "labels_in" "labels_in" s_labels_in f ∧ mg "labels_in" = some (.ref f)
  f_holds_of : ∃ f, Df K "holds_of" "holds_of" s_holds_of f ∧ mg "holds_of" = some (.ref f)
  f_Claim___init__ : ∃ f, Df K "__init__" "Claim.__init__" s_Claim___init__ f ∧ Mk K Claim f ∧ mg "Claim" = some (.ref Claim)
  f_Claim_parts : ∃ p f, Df K "parts" "Claim.parts" s_Claim_parts f ∧ PropOf K Claim "parts" p f
  f_Claim___call__ : ∃ f, Df K "__call__" "Claim.__call__" s_Claim___call__ f ∧ PySem.W.findIn K (.ref Claim) "__call__" = some (some (.ref f)) ∧ PySem.W.isFn K (.ref f) = true ∧ PySem.W.fnIn K f = true ∧ PySem.W.selfFirst K Claim = true
  f_Claim___and__ : ∃ f, Df K "__and__" "Claim.__and__" s_Claim___and__ f ∧ PySem.W.findIn K (.ref Claim) "__and__" = some (some (.ref f)) ∧ PySem.W.isFn K (.ref f) = true ∧ PySem.W.fnIn K f = true ∧ PySem.W.selfFirst K Claim = true
  f_Claim___or__ : ∃ f, Df K "__or__" "Claim.__or__" s_Claim___or__ f ∧ PySem.W.findIn K (.ref Claim) "__or__" = some (some (.ref f)) ∧ PySem.W.isFn K (.ref f) = true ∧ PySem.W.fnIn K f = true ∧ PySem.W.selfFirst K Claim = true
  f_Claim___invert__ : ∃ f, Df K "__invert__" "Claim.__invert__" s_Claim___invert__ f ∧ PySem.W.findIn K (.ref Claim) "__invert__" = some (some (.ref f)) ∧ PySem.W.isFn K (.ref f) = true ∧ PySem.W.fnIn K f = true ∧ PySem.W.selfFirst K Claim = true
  f_Claim___eq__ : ∃ f, Df K "__eq__" "Claim.__eq__" s_Claim___eq__ f ∧ PySem.W.findIn K (.ref Claim) (cmpInfo .Eq).2.1 = some (some (.ref f)) ∧ PySem.W.isFn K (.ref f) = true
  f__law_mixed : ∃ f, Df K "_law_mixed" "_law_mixed" s__law_mixed f ∧ mg "_law_mixed" = some (.ref f)
  f__law_bag : ∃ f, Df K "_law_bag" "_law_bag" s__law_bag f ∧ mg "_law_bag" = some (.ref f)
  f__law_pick : ∃ f, Df K "_law_pick" "_law_pick" s__law_pick f ∧ mg "_law_pick" = some (.ref f)
  f__law_choice : ∃ f, Df K "_law_choice" "_law_choice" s__law_choice f ∧ mg "_law_choice" = some (.ref f)
  f__law_new_name : ∃ f, Df K "_law_new_name" "_law_new_name" s__law_new_name f ∧ mg "_law_new_name" = some (.ref f)
  f__law_drawn_node : ∃ f, Df K "_law_drawn_node" "_law_drawn_node" s__law_drawn_node f ∧ mg "_law_drawn_node" = some (.ref f)
  f__law_drawn_look : ∃ f, Df K "_law_drawn_look" "_law_drawn_look" s__law_drawn_look f ∧ mg "_law_drawn_look" = some (.ref f)
  f__law_drawn_claim : ∃ f, Df K "_law_drawn_claim" "_law_drawn_claim" s__law_drawn_claim f ∧ mg "_law_drawn_claim" = some (.ref f)
  f__law_labels : ∃ f, Df K "_law_labels" "_law_labels" s__law_labels f ∧ mg "_law_labels" = some (.ref f)
  f__law_holds : ∃ f, Df K "_law_holds" "_law_holds" s__law_holds f ∧ mg "_law_holds" = some (.ref f)
  f__law_levels : ∃ f, Df K "_law_levels" "_law_levels" s__law_levels f ∧ mg "_law_levels" = some (.ref f)
  f__law_spoilt : ∃ f, Df K "_law_spoilt" "_law_spoilt" s__law_spoilt f ∧ mg "_law_spoilt" = some (.ref f)
  f__law_refused : ∃ f, Df K "_law_refused" "_law_refused" s__law_refused f ∧ mg "_law_refused" = some (.ref f)
  f__law_tells : ∃ f, Df K "_law_tells" "_law_tells" s__law_tells f ∧ mg "_law_tells" = some (.ref f)
  f__law_same : ∃ f, Df K "_law_same" "_law_same" s__law_same f ∧ mg "_law_same" = some (.ref f)
  f__law_deep : ∃ f, Df K "_law_deep" "_law_deep" s__law_deep f ∧ mg "_law_deep" = some (.ref f)
  f_law : ∃ f, Df K "law" "law" s_law f ∧ mg "law" = some (.ref f)
  f_BadClaim___init__ : ∃ f, DfX K "__init__" "BadClaim.__init__" s_BadClaim___init__ BadClaim f ∧ PySem.W.findIn K (.ref BadClaim) "__init__" = some (some (.ref f)) ∧ PySem.W.typeIn K (.ref f) = some (.type "function")
theorem FaX.fa {K : PySem.W.Frag} {w : World} {mg : Str → Option Value} {ITEMS JOINERS Claim BadClaim ScreenError BadForm : Addr} (t : FaX K w mg ITEMS JOINERS Claim BadClaim ScreenError BadForm) : Fa K w mg ⟨ITEMS, JOINERS, Claim, BadClaim, ScreenError, BadForm, w⟩ := ⟨t.m_len, t.m_str, t.m_isinstance, t.g_LETTERS, t.m_all, t.m_bool, t.m_int, t.m_tuple, t.g_ITEMS, t.kd_ITEMS, t.ka_ITEMS, t.g_MOST_LABEL, t.g_JOINERS, t.m_range, t.g_MOST_LEVELS, t.c_Claim, t.n_Claim__parts, t.gc_Claim, t.i_Claim, t.m_enumerate, t.m_abs, t.em_BadClaim_BadClaim, t.gc_BadClaim, t.gc_BadForm, t.ki_BadClaim_BadForm, t.ex_BadClaim, t.gc_ScreenError, t.ki_BadClaim_ScreenError, t.m_ValueError, t.ki_BadClaim_ValueError, t.xf_BadClaim, t.n_BadClaim_part, t.m_repr, t.xk_BadClaim, t.f_is_name, t.f_is_number, t.f_is_claim_part, t.f_check_claim, t.f_labels_in, t.f_holds_of, t.f_Claim___init__, t.f_Claim_parts, t.f_Claim___call__, t.f_Claim___and__, t.f_Claim___or__, t.f_Claim___invert__, t.f_Claim___eq__, t.f__law_mixed, t.f__law_bag, t.f__law_pick, t.f__law_choice, t.f__law_new_name, t.f__law_drawn_node, t.f__law_drawn_look, t.f__law_drawn_claim, t.f__law_labels, t.f__law_holds, t.f__law_levels, t.f__law_spoilt, t.f__law_refused, t.f__law_tells, t.f__law_same, t.f__law_deep, t.f_law, t.f_BadClaim___init__⟩
theorem fa_mk {w : World} {K : PySem.W.Frag} {h : Heap} {mg : Str → Option Value} {ITEMS JOINERS Claim BadClaim ScreenError BadForm : Addr} (X : K.In h) (G : h.Ns mainGlobals mg) (aITEMS : PySem.W.nsIn K mainGlobals "ITEMS" = some (some (.ref ITEMS))) (aJOINERS : PySem.W.nsIn K mainGlobals "JOINERS" = some (some (.ref JOINERS))) (aClaim : PySem.W.nsIn K mainGlobals "Claim" = some (some (.ref Claim))) (aBadClaim : PySem.W.nsIn K mainGlobals "BadClaim" = some (some (.ref BadClaim))) (aScreenError : PySem.W.nsIn K mainGlobals "ScreenError" = some (some (.ref ScreenError))) (aBadForm : PySem.W.nsIn K mainGlobals "BadForm" = some (some (.ref BadForm))) (pgClaim : PySem.W.plainGet K Claim Str.empty = true) (hdClaim : PySem.W.hasDictIn K Claim = true) (poClaim : PySem.W.plainOver K Claim = true) (saClaim : PySem.W.findIn K (.ref Claim) "__setattr__" = some (some (.builtin "object.__setattr__")))
    (T : Cls K Claim → mg "Claim" = some (.ref Claim) → FaX K w mg ITEMS JOINERS Claim BadClaim ScreenError BadForm) : ∃ A, Fa K w mg A := ⟨_, (T ⟨pgClaim, hdClaim, poClaim, saClaim⟩ (PySem.W.mg_of X G aClaim)).fa⟩

end K00
end L3

open PySem PySem.W PyProof.Rows
set_option maxRecDepth 100000 in
set_option maxHeartbeats 0 in
theorem PySem.Challenge.cw_pagesheld_k00_claims_read_and_held_holds : PySem.Challenge.rw_pagesheld_k00_claims_read_and_held.Holds := by
  w_on; o_law; k_head; (case hw => w_witness2)
  k_fill
  refine L3.K00.walk (l := PySem.Challenge.rw_pagesheld_k00_claims_read_and_held) ⟨rfl, rfl⟩ rfl rfl rfl (fun w h Y => PySem.W.kIn_of Y) ?F
  case F =>
    intro w mg h KX G
    refine' L3.K00.fa_mk KX G ?aITEMS ?aJOINERS ?aClaim ?aBadClaim ?aScreenError ?aBadForm ?pgClaim ?hdClaim ?poClaim ?saClaim ?T
    (case aITEMS => k_is); (case aJOINERS => k_is); (case aClaim => k_is); (case aBadClaim => k_is); (case aScreenError => k_is); (case aBadForm => k_is); (case pgClaim => k_is); (case hdClaim => k_is); (case poClaim => k_is); (case saClaim => k_is)
    intro hC_Claim aC_Claim
    refine' L3.K00.FaX.mk ?_ ?_ ?_ ?_ ?_ ?_ ?_ ?_ ?_ ?_ ?_ ?_ ?_ ?_ ?_ ?_ ?_ ?_ ?_ ?_ ?_ ?_ ?_ ?_ ?_ ?_ ?_ ?_ ?_ ?_ ?_ ?_ ?_ ?_ ?_ ?_ ?_ ?_ ?_ ?_ ?_ ?_ ?_ ?_ ?_ ?_ ?_ ?_ ?_ ?_ ?_ ?_ ?_ ?_ ?_ ?_ ?_ ?_ ?_ ?_ ?_ ?_ ?_ ?_ ?_
    · exact PySem.W.mg_none_of KX G (by k_is)
    · exact PySem.W.mg_none_of KX G (by k_is)
    · exact PySem.W.mg_none_of KX G (by k_is)
    · refine' L3.gl_mk KX G ?a ?r; (case a => k_is); (case r => first | exact rfl | exact ⟨_, rfl⟩)
    · exact PySem.W.mg_none_of KX G (by k_is)
    · exact PySem.W.mg_none_of KX G (by k_is)
    · exact PySem.W.mg_none_of KX G (by k_is)
    · exact PySem.W.mg_none_of KX G (by k_is)
    · refine' L3.gl_mk KX G ?a ?r; (case a => k_is); (case r => first | exact rfl | exact ⟨_, rfl⟩)
    · refine' L3.kd_mk ?l ?lit ?low ?h; (case l => k_is); (case lit => exact ⟨⟨_, _, rfl, rfl⟩, ⟨_, _, rfl, rfl⟩, ⟨_, _, rfl, rfl⟩, ⟨_, _, rfl, rfl⟩, ⟨_, _, rfl, rfl⟩, ⟨_, _, rfl, rfl⟩, ⟨_, _, rfl, rfl⟩, trivial⟩); (case low => rfl); (case h => (refine' L3.tb_mk ?a ?r ?n0; (case a => k_is); (case r => first | exact rfl | exact ⟨_, rfl⟩); refine' L3.tb_mk ?a ?r ?n1; (case a => k_is); (case r => first | exact rfl | exact ⟨_, rfl⟩); refine' L3.tb_mk ?a ?r ?n2; (case a => k_is); (case r => first | exact rfl | exact ⟨_, rfl⟩); refine' L3.tb_mk ?a ?r ?n3; (case a => k_is); (case r => first | exact rfl | exact ⟨_, rfl⟩); refine' L3.tb_mk ?a ?r ?n4; (case a => k_is); (case r => first | exact rfl | exact ⟨_, rfl⟩); refine' L3.tb_mk ?a ?r ?n5; (case a => k_is); (case r => first | exact rfl | exact ⟨_, rfl⟩); refine' L3.tb_mk ?a ?r ?n6; (case a => k_is); (case r => first | exact rfl | exact ⟨_, rfl⟩); exact trivial))
    · refine' L3.ka_c ?nnq L3.ka_n; (case nnq => k_is)
    · refine' L3.gl_mk KX G ?a ?r; (case a => k_is); (case r => first | exact rfl | exact ⟨_, rfl⟩)
    · refine' ⟨?gg, L3.kt_mk ?l ?hs ?v⟩; (case gg => (refine' L3.gl_mk KX G ?a ?r; (case a => k_is); (case r => exact rfl))); (case l => k_is); (case hs => decide +kernel); (case v => exact (.cons ⟨_, rfl⟩ (.cons ⟨_, rfl⟩ (.cons ⟨_, rfl⟩ .nil))))
    · exact PySem.W.mg_none_of KX G (by k_is)
    · refine' L3.gl_mk KX G ?a ?r; (case a => k_is); (case r => first | exact rfl | exact ⟨_, rfl⟩)
    · exact hC_Claim
    · show PySem.W.findIn _ _ _ = _; k_is
    · exact aC_Claim
    · exact ⟨hC_Claim, by k_is, by k_is, by k_is, by k_is, L3.kit_self⟩
    · exact PySem.W.mg_none_of KX G (by k_is)
    · exact PySem.W.mg_none_of KX G (by k_is)
    · refine' L3.exm_mk ?aaq ?ccq ?ttq ?ssq; (case aaq => k_is); (case ccq => k_is); (case ttq => k_is); (case ssq => k_is)
    · exact PySem.W.mg_of KX G (by k_is)
    · exact PySem.W.mg_of KX G (by k_is)
    · refine' L3.kitC_mk ?ccq ?ttq ?ssq ?nnq; (case ccq => k_is); (case ttq => k_is); (case ssq => k_is); (case nnq => decide)
    · exact ⟨by k_is, by k_is, by k_is, by k_is, by k_is, by k_is, by k_is, by k_is⟩
    · exact PySem.W.mg_of KX G (by k_is)
    · refine' L3.kitC_mk ?ccq ?ttq ?ssq ?nnq; (case ccq => k_is); (case ttq => k_is); (case ssq => k_is); (case nnq => decide)
    · exact PySem.W.mg_none_of KX G (by k_is)
    · refine' L3.kitT_mk ?mmq ?ssq; (case mmq => decide +kernel); (case ssq => k_is)
    · exact ⟨by k_is, by k_is, by k_is, by k_is⟩
    · show PySem.W.findIn _ _ _ = _; k_is
    · exact PySem.W.mg_none_of KX G (by k_is)
    · refine' L3.exk_mk ?l ?r ?sa ?ec ?tc ?kc ?su ?ve ?me ?opq ?nosq; (case l => k_is); (case r => decide +kernel); (case sa => k_is); (case ec => k_is); (case tc => k_is); (case kc => k_is); (case su => ks_is); (case ve => k_is); (case me => k_is); (case opq => k_is); (case nosq => exact PySem.W.mg_none_of KX G (by k_is))
    · refine' L3.dg_mk KX G ?a ?l ?c ?k; (case a => k_is); (case l => k_is); (case c => k_is); (case k => k_is)
    · refine' L3.dg_mk KX G ?a ?l ?c ?k; (case a => k_is); (case l => k_is); (case c => k_is); (case k => k_is)
    · refine' L3.dg_mk KX G ?a ?l ?c ?k; (case a => k_is); (case l => k_is); (case c => k_is); (case k => k_is)
    · refine' L3.dg_mk KX G ?a ?l ?c ?k; (case a => k_is); (case l => k_is); (case c => k_is); (case k => k_is)
    · refine' L3.dg_mk KX G ?a ?l ?c ?k; (case a => k_is); (case l => k_is); (case c => k_is); (case k => k_is)
    · refine' L3.dg_mk KX G ?a ?l ?c ?k; (case a => k_is); (case l => k_is); (case c => k_is); (case k => k_is)
    · refine' L3.dm_mk ?a ?l ?c ?k ?i ?m ?kp ?g; (case a => k_is); (case l => k_is); (case c => k_is); (case k => k_is); (case i => k_is); (case m => k_is); (case kp => k_is); (case g => exact aC_Claim)
    · refine' L3.dp_mk ?a ?r ?g ?t ?l ?c ?k; (case a => k_is); (case r => k_is); (case g => k_is); (case t => k_is); (case l => k_is); (case c => k_is); (case k => k_is)
    · refine' L3.dso_mk ?a ?l ?c ?k ?i ?fi ?sfq; (case a => k_is); (case l => k_is); (case c => k_is); (case k => k_is); (case i => k_is); (case fi => k_is); (case sfq => k_is)
    · refine' L3.dso_mk ?a ?l ?c ?k ?i ?fi ?sfq; (case a => k_is); (case l => k_is); (case c => k_is); (case k => k_is); (case i => k_is); (case fi => k_is); (case sfq => k_is)
    · refine' L3.dso_mk ?a ?l ?c ?k ?i ?fi ?sfq; (case a => k_is); (case l => k_is); (case c => k_is); (case k => k_is); (case i => k_is); (case fi => k_is); (case sfq => k_is)
    · refine' L3.dso_mk ?a ?l ?c ?k ?i ?fi ?sfq; (case a => k_is); (case l => k_is); (case c => k_is); (case k => k_is); (case i => k_is); (case fi => k_is); (case sfq => k_is)
    · refine' L3.do_mk ?a ?l ?c ?k ?i; (case a => k_is); (case l => k_is); (case c => k_is); (case k => k_is); (case i => k_is)
    · refine' L3.dg_mk KX G ?a ?l ?c ?k; (case a => k_is); (case l => k_is); (case c => k_is); (case k => k_is)
    · refine' L3.dg_mk KX G ?a ?l ?c ?k; (case a => k_is); (case l => k_is); (case c => k_is); (case k => k_is)
    · refine' L3.dg_mk KX G ?a ?l ?c ?k; (case a => k_is); (case l => k_is); (case c => k_is); (case k => k_is)
    · refine' L3.dg_mk KX G ?a ?l ?c ?k; (case a => k_is); (case l => k_is); (case c => k_is); (case k => k_is)
    · refine' L3.dg_mk KX G ?a ?l ?c ?k; (case a => k_is); (case l => k_is); (case c => k_is); (case k => k_is)
    · refine' L3.dg_mk KX G ?a ?l ?c ?k; (case a => k_is); (case l => k_is); (case c => k_is); (case k => k_is)
    · refine' L3.dg_mk KX G ?a ?l ?c ?k; (case a => k_is); (case l => k_is); (case c => k_is); (case k => k_is)
    · refine' L3.dg_mk KX G ?a ?l ?c ?k; (case a => k_is); (case l => k_is); (case c => k_is); (case k => k_is)
    · refine' L3.dg_mk KX G ?a ?l ?c ?k; (case a => k_is); (case l => k_is); (case c => k_is); (case k => k_is)
    · refine' L3.dg_mk KX G ?a ?l ?c ?k; (case a => k_is); (case l => k_is); (case c => k_is); (case k => k_is)
    · refine' L3.dg_mk KX G ?a ?l ?c ?k; (case a => k_is); (case l => k_is); (case c => k_is); (case k => k_is)
    · refine' L3.dg_mk KX G ?a ?l ?c ?k; (case a => k_is); (case l => k_is); (case c => k_is); (case k => k_is)
    · refine' L3.dg_mk KX G ?a ?l ?c ?k; (case a => k_is); (case l => k_is); (case c => k_is); (case k => k_is)
    · refine' L3.dg_mk KX G ?a ?l ?c ?k; (case a => k_is); (case l => k_is); (case c => k_is); (case k => k_is)
    · refine' L3.dg_mk KX G ?a ?l ?c ?k; (case a => k_is); (case l => k_is); (case c => k_is); (case k => k_is)
    · refine' L3.dg_mk KX G ?a ?l ?c ?k; (case a => k_is); (case l => k_is); (case c => k_is); (case k => k_is)
    · refine' L3.dg_mk KX G ?a ?l ?c ?k; (case a => k_is); (case l => k_is); (case c => k_is); (case k => k_is)
    · refine' L3.dx_mk ?a ?l ?c ?lc ?v2 ?fe ?ce ?ty; (case a => k_is); (case l => k_is); (case c => k_is); (case lc => k_is); (case v2 => exact rfl); (case fe => exact rfl); (case ce => k_is); (case ty => k_is)
