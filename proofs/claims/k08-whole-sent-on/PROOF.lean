import PyProof.Rows.All
import Wide.All
import OpenK.AllK
import Wide.FinOn
import HandS.ForMost
import HandS.Walk
import HandS.Defaults
import HandS.Style
import HandS.IsInst
import HandS.More
import KE.DataCmp
import HandS.TupLe
import HandS.Strs
import HandS.Replace
import HandS.Codes
import KE.GoesMore
import KE.GoesEnum
import KE.GoesZip
import HandS.Ends
import PyProof.ReprReads
import PyProof.ReprRoads
import HandS.Iter
import KE.DataMinMax
import KE.DatumOrd
import HandS.WideBits
import HandS.SetFor
import PyProof.ZipIter
import PyProof.ListRange
import HandS.Text
import HandS.Conv
import PyProof.Rows.SortShellAny
import PyProof.CollectStr
import PyProof.Rows.StrJoinStr
import HandS.New
import HandS.New0
import OpenK.KMake
import PyProof.EnumMake
import PyProof.Draws
import PyProof.Rows.EnumRows
import HandS.Dict
import PyProof.StrBlock2
import PySem.Challenge.RW_filedcards_k08_whole_sent_on
set_option Elab.async false
set_option linter.all false
set_option maxRecDepth 100000
set_option maxHeartbeats 2000000
namespace DL
open PySem L2 PySem.Spec PyProof.Rows
/-- room, and no repr is under way -/
structure Room (k : Nat) (A : Around) : Prop where
  r : L2.Room k A
  gd : A.guards = some []
theorem Room.mono {j k : Nat} {A : Around} (h : Room k A) (l : j ≤ k) : Room j A := ⟨h.r.mono l, h.gd⟩
theorem Room.deeper {k : Nat} {A : Around} (h : Room (k + 1) A) (env : PySem.Env) : Room k (A.deeper env) := ⟨h.r.deeper env, h.gd⟩
theorem Room.in1 {k : Nat} {A : Around} (h : Room (k + 1) A) : Room k A.in1 := ⟨h.r.in1, h.gd⟩
theorem make_guards {A : Around} {C : Addr} {us : List Value} {kw : List (Str × Value)} : (A.under (.builtin "type.__call__" ⟨.ref C :: us, kw⟩)).guards = A.guards := by
  have h : (Code.builtin "type.__call__" ⟨.ref C :: us, kw⟩).isGuard = false := rfl
  show pushGuards (Code.builtin "type.__call__" ⟨.ref C :: us, kw⟩).guards A.guards = _
  unfold Code.guards
  rw [h]
  cases A.guards <;> rfl
theorem Room.make {k : Nat} {A : Around} (h : Room (k + 1) A) (C : Addr) (us : List Value) (kw : List (Str × Value)) : Room k (A.under (.builtin "type.__call__" ⟨.ref C :: us, kw⟩)) := ⟨h.r.make C us kw, by rw [make_guards]; exact h.gd⟩
theorem Room.depth {k : Nat} {A : Around} (h : Room k A) : A.depth < recursionLimit := h.r.depth
theorem Room.units {k : Nat} {A : Around} (h : Room k A) : A.units + 64 < cLine := h.r.units
theorem Room.units0 {k : Nat} {A : Around} (h : Room k A) : A.units < cLine := h.r.units0
theorem Room.hd {k : Nat} {A : Around} (h : Room k A) : A.handled = none := h.r.hd
/-- a def keeps its promise, where no repr is under way -/
structure FnOk (P : Program) (w : World) (K : PySem.W.Frag) (mg : Str → Option Value) (base : Heap) (CX : CXT) (k : Nat) (f : Addr) (fd : FuncData) (ps : List Str) (sp : Sp) : Prop where
  len : ∀ vs H Q E, sp vs H Q E → vs.length = ps.length
  run : ∀ (A : Around) (outer : List PySem.Env) (s : Shared) (H : Hp) (args : Args) (us : List Value) (vs : List V) (Q : VK) (E : XK), Room k A → Env0 P w K mg base A outer s H → BindsTo s fd args (ps.zip us) → Vals vs us → sp vs H Q E →
    codeAny (model P w) A (.call (.ref f) args) (CR CX outer P w H s Q E) s
theorem FnOk.mono {P : Program} {w : World} {K : PySem.W.Frag} {mg : Str → Option Value} {base : Heap} {CX : CXT} {j k : Nat} {f : Addr} {fd : FuncData} {ps : List Str} {sp : Sp} (F : FnOk P w K mg base CX j f fd ps sp) (h : j ≤ k) : FnOk P w K mg base CX k f fd ps sp :=
  ⟨F.len, fun A outer s H args us vs Q E hr => F.run A outer s H args us vs Q E (hr.mono h)⟩
theorem FnOk.imp {P : Program} {w : World} {K : PySem.W.Frag} {mg : Str → Option Value} {base : Heap} {CX : CXT} {k : Nat} {f : Addr} {fd : FuncData} {ps : List Str} {sp sp' : Sp} (F : FnOk P w K mg base CX k f fd ps sp) (h : ∀ vs H Q E, sp' vs H Q E → sp vs H Q E) : FnOk P w K mg base CX k f fd ps sp' :=
  ⟨fun vs H Q E q => F.len vs H Q E (h _ _ _ _ q), fun A outer s H args us vs Q E hr he hb hv hs => F.run A outer s H args us vs Q E hr he hb hv (h _ _ _ _ hs)⟩
/-- what is behind a body's end is behind the call -/
theorem ce_of {CX : CXT} {P : Program} {w : World} {K : PySem.W.Frag} {mg : Str → Option Value} {base : Heap} {N : List Str} {q : Str} {sc : Scope} {f : Addr} {cd : Value} {A : Around} {outer : List PySem.Env} {s s' : Shared} {H H' : Hp} {E : XK} {σ : L2.St} {v : V} {u : Value} {Q : VK}
    (J : Inv (cxOf CX P w K mg base N q sc f cd A outer s H E) [] σ H' s') (rv : RelV v u) (h : Q v H') : CE outer P w H s Q u s' := ⟨v, H', J.os, J.bare, J.base, J.hok, rv, h⟩
/-- a def of the text as it stands behind the top, with or without defaults -/
structure Fun (K : PySem.W.Frag) (x q : Str) (st : Stmt) (f : Addr) (fd : FuncData) : Prop where
  ex : ∃ (dV : Value) (oc : Value) (od : Option Addr) (kV doc pm : Value) (an : Option Addr) (cdv ct : Value) (osl : Array (Option Value)),
    fd = PySem.W.fnOf x q (defArgs st) (defBody st) (defScope st) dV kV doc pm an cdv ct ∧ K.lookup f = some ⟨oc, od, .func fd, osl⟩ ∧ PySem.W.codeIn K cdv q = true
  kp : PySem.W.keepIn K (.ref f) = true
theorem Fun.binds {K : PySem.W.Frag} {x q : Str} {st : Stmt} {f : Addr} {fd : FuncData} {ps : List Str} (F : Fun K x q st f fd)
    (h : ∀ (dV kV doc pm : Value) (an : Option Addr) (cdv ct : Value) (us : List Value), us.length = ps.length → bindArgs (PySem.W.fnOf x q (defArgs st) (defBody st) (defScope st) dV kV doc pm an cdv ct) ⟨us, []⟩ = pure (ps.zip us)) : Binds K fd ps [] := by
  obtain ⟨dV, oc, od, kV, doc, pm, an, cdv, ct, osl, rfl, lk, hcd⟩ := F.ex
  exact .all (h dV kV doc pm an cdv ct)
theorem fun_mk {K : PySem.W.Frag} {x q : Str} {st : Stmt} {f : Addr} {oc : Value} {od an : Option Addr} {osl : Array (Option Value)} {dV kV doc pm cdv ct : Value} (l : K.lookup f = some ⟨oc, od, .func (PySem.W.fnOf x q (defArgs st) (defBody st) (defScope st) dV kV doc pm an cdv ct), osl⟩)
    (c : PySem.W.codeIn K cdv q = true) (k : PySem.W.keepIn K (.ref f) = true) : Fun K x q st f (PySem.W.fnOf x q (defArgs st) (defBody st) (defScope st) dV kV doc pm an cdv ct) := ⟨⟨dV, oc, od, kV, doc, pm, an, cdv, ct, osl, rfl, l, c⟩, k⟩
section
variable {P : Program} {w : World} {K : PySem.W.Frag} {mg : Str → Option Value} {base : Heap}
theorem fun_okC {CX : CXT} {x q : Str} {st : Stmt} {f : Addr} {fd : FuncData} {N ps : List Str} {k : Nat} {sp : Sp} (F : Fun K x q st f fd) (S : FnScope N ps (defScope st)) (len : ∀ vs H Q E, sp vs H Q E → vs.length = ps.length)
    (hbody : ∀ (cdv : Value) (A : Around) (outer : List PySem.Env) (s : Shared) (H : Hp) (vs : List V) (Q : VK) (E : XK), Room k (A.deeper (envOfC q (defScope st) s.heap.objs.size f cdv)) → sp vs H Q E →
      ∃ t, PSs (cxOf CX P w K mg base N q (defScope st) f cdv A outer s H E) (defBody st) t ∧ t { nx := fun _ H' => Q .non H', rt := Q } (L2.start N vs) H) : FnOk P w K mg base CX (k + 1) f fd ps sp := by
  obtain ⟨dV, oc, od, kV, doc, pm, an, cdv, ct, osl, rfl, lk, hcd⟩ := F.ex
  refine ⟨len, fun A outer s H args us vs Q E hr e0 hb r hsp => ?_⟩
  have up : ∀ {b : Addr} {o : Obj}, base.get? b = some o → s.heap.get? b = some o := fun e => (e0.bs _ _ e).1
  have KX : K.In s.heap := e0.mod.kin.keeps fun b o e => up e
  have hk : ∀ y ∈ ps.zip us, (defScope st).names.lookup y.1 = some .local ∨ ((defScope st).names.lookup y.1 = some .cell ∧ ((cellsFrom (s.heap.objs.size + 1) (defScope st).names []).lookup y.1).isSome = true) := by
    intro y hy
    cases S.par y.1 (List.of_mem_zip (a := y.1) (b := y.2) hy).1 with
    | inl z => exact .inl z
    | inr z => exact .inr ⟨z, PySem.W.cellsFrom_some _ _ _ (.inl z)⟩
  refine codeAny_call_function hr.depth (KX _ _ lk) rfl S.co S.gen rfl (PySem.W.codeRec_of KX hcd) (hb _ _ _ _ (wpAny_newFunctionEnv_cells S.kind hk fun env he s1 y => ?_))
  subst he
  obtain ⟨t, ht, ht2⟩ := hbody cdv A outer s H vs Q E (hr.deeper _) hsp
  have J0 : Inv (cxOf CX P w K mg base N q (defScope st) f cdv A outer s H E) [] (L2.start N vs) H s1 := inv_start S hr.hd e0 (len _ _ _ _ hsp) r y
  refine ⟨(e0.mod.nolimit.keeps fun b o e => up e).keeps y.toInCall.keep, codeAny_func (wpAny_mono (ht.run [] s1 (L2.start N vs) H _ J0 ht2) (fun fl s' z => ?_) fun e s' z => z)⟩
  cases fl with
  | next => obtain ⟨_, _, J, z⟩ := z; exact ce_of (v := .non) (u := .none) J rfl z
  | ret u => obtain ⟨v, _, _, J, rv, z⟩ := z; exact ce_of J rv z
  | brk => obtain ⟨_, _, _, z⟩ := z; exact z.elim
  | cont => obtain ⟨_, _, _, z⟩ := z; exact z.elim
theorem fun_ok {x q : Str} {st : Stmt} {f : Addr} {fd : FuncData} {N ps : List Str} {k : Nat} {sp : Sp} (F : Fun K x q st f fd) (S : FnScope N ps (defScope st)) (len : ∀ vs H Q E, sp vs H Q E → vs.length = ps.length)
    (hbody : ∀ (cdv : Value) (A : Around) (outer : List PySem.Env) (s : Shared) (H : Hp) (vs : List V) (Q : VK) (E : XK), Room k (A.deeper (envOfC q (defScope st) s.heap.objs.size f cdv)) → sp vs H Q E →
      ∃ t, PSs (cxOf CX0 P w K mg base N q (defScope st) f cdv A outer s H E).nox (defBody st) t ∧ t { nx := fun _ H' => Q .non H', rt := Q } (L2.start N vs) H) : FnOk P w K mg base CX0 (k + 1) f fd ps sp :=
  fun_okC F S len fun cdv A outer s H vs Q E hr hsp => let ⟨t, h, z⟩ := hbody cdv A outer s H vs Q E hr hsp; ⟨t, h.nox, z⟩
end
section
variable {X : Cx} {CX : CXT} {k : Nat} {f C : Addr} {fd : FuncData} {ps : List Str} {sp : Sp} {dvs : List V} {ds : List Value} {E : XK} {x m : Str} {p pos apos : Pos} {e o : Expr} {es : List Expr} {ta : TE} {t : TA}
theorem run_end {pins : List (Addr × Obj)} {σ : L2.St} {H : Hp} {s : Shared} {Q : VK} (I : Inv X pins σ H s) (hx : Passes CX X E) {r : Result} {s' : Shared} (h : CR CX X.stack X.prog X.w H s Q E r s') :
    match r with | .ok (.ret u) => EP X pins σ Q u s' | .ok _ => False | .error e => X.xe e s' := by
  cases r with
  | error e => exact hx pins σ H s e s' I h
  | ok fl => cases fl <;> first | exact I.after h | exact False.elim h
theorem run_fn {pins : List (Addr × Obj)} {σ : L2.St} {H : Hp} {s : Shared} {Q : VK} {us : List Value} {vs : List V} (F : FnOk X.prog X.w X.K X.mg X.base CX k f fd ps sp) (hr : Room k X.A) (hb : Binds X.K fd ps ds) (hd : Vals dvs ds) (hx : Passes CX X E)
    (I : Inv X pins σ H s) (r : Vals vs us) (h : sp (vs ++ dvs) H Q E) : wpAny (model X.prog X.w) X.A (call (.ref f) us) (EP X pins σ Q) X.xe s := by
  have r2 := r.append hd
  refine wpAny_call (codeAny_mono (F.run X.A X.stack s H ⟨us, []⟩ (us ++ ds) (vs ++ dvs) Q E hr I.env0 (hb s us I.kIn (r2.length.symm.trans (F.len _ _ _ _ h))) r2 h) fun r s' q => ?_)
  have z := run_end I hx q
  cases r with
  | error e => exact z
  | ok fl => cases fl <;> first | exact z | exact False.elim z
theorem pe_call (F : FnOk X.prog X.w X.K X.mg X.base CX k f fd ps sp) (hr : Room k X.A) (hg : Gl X x) (hm : X.mg x = some (.ref f)) (hk : PySem.W.keepIn X.K (.ref f) = true) (hb : Binds X.K fd ps ds) (hd : Vals dvs ds) (hx : Passes CX X E)
    (ha : PA X (e :: es) t) (hdb : (x == ("__debug__" : Str)) = false := by decide) (he : starEach (e :: es) X.env = (false, eval e X.env) :: starEach es X.env := by rfl) (hpl : (backTo pos (starEach es X.env)).any (·.1) = false := by rfl) :
    PE X (.Call (.Name x p) (e :: es) [] pos) (tCall sp dvs E t) :=
  ⟨fun pins s σ H Q I h => wpAny_Call_Name_kw (ld_glob I hg hm (PySem.W.callWith_K (h₀ := X.base) I.ok.mod.kin hk (thn (ha.run pos pins s σ H _ I h) fun us s1 ⟨vs, H1, I1, r, q⟩ => ⟨I1.kIn, run_fn F hr hb hd hx I1 r q⟩) he hpl) hdb)⟩
theorem pe_call0 (F : FnOk X.prog X.w X.K X.mg X.base CX k f fd ps sp) (hr : Room k X.A) (hg : Gl X x) (hm : X.mg x = some (.ref f)) (hk : PySem.W.keepIn X.K (.ref f) = true) (hb : Binds X.K fd ps ds) (hd : Vals dvs ds) (hx : Passes CX X E)
    (hdb : (x == ("__debug__" : Str)) = false := by decide) : PE X (.Call (.Name x p) [] [] pos) (tCall sp dvs E tNil) :=
  ⟨fun pins s σ H Q I h => wpAny_Call_Name_kw (ld_glob I hg hm (PySem.W.callWith_K0 I.kIn hk (run_fn (us := []) F hr hb hd hx I .nil h)) hdb)⟩
theorem pe_meth {pl : Sem Bool} (he : PE X o ta) (c : Cls X.K C) (hm : Meth X.K C m f) (F : FnOk X.prog X.w X.K X.mg X.base CX k f fd ps sp) (hr : Room k X.A) (hb : Binds X.K fd ps ds) (hd : Vals dvs ds) (hx : Passes CX X E) (ha : PA X (e :: es) t)
    (hst : starEach (e :: es) X.env = (false, eval e X.env) :: starEach es X.env := by rfl) (hpl : (backTo pos (starEach es X.env)).any (·.1) = false := by rfl)
    (ht : eval (.Call (.Attribute o m apos) (e :: es) [] pos) X.env = (do
      let ov ← eval o X.env
      standAt apos.atName
      let (f, first) ← holding [ov] (getMethod ov m pl)
      callWith pos f first (backTo pos (starEach (e :: es) X.env)) (backToKw pos (keywordEach [] X.env))) := by rfl) :
    PE X (.Call (.Attribute o m apos) (e :: es) [] pos) (tMeth C m sp dvs E ta t) := by
  refine ⟨fun pins s σ H Q I h => PySem.W.methodCall_KW (pl := pl) (thn (he.run pins s σ H _ I h) fun u s1 ⟨x, H1, I1, rx, a, dx, fs, ex, ea, l, q⟩ => ?_) ht⟩
  subst ex
  cases rx
  exact getmeth_ok I1 ea c hm l (PySem.W.callWith_K (first := [.ref a]) (h₀ := X.base) I.ok.mod.kin hm.kp (thn (ha.run pos pins s1 σ H1 _ I1 q) fun us s2 ⟨vs, H2, I2, r, q2⟩ => ⟨I2.kIn, run_fn (us := .ref a :: us) (vs := .ref a :: vs) F hr hb hd hx I2 (.cons rfl r) q2⟩) hst hpl)
theorem pe_meth0 {pl : Sem Bool} (he : PE X o ta) (c : Cls X.K C) (hm : Meth X.K C m f) (F : FnOk X.prog X.w X.K X.mg X.base CX k f fd ps sp) (hr : Room k X.A) (hb : Binds X.K fd ps ds) (hd : Vals dvs ds) (hx : Passes CX X E)
    (ht : eval (.Call (.Attribute o m apos) [] [] pos) X.env = (do
      let ov ← eval o X.env
      standAt apos.atName
      let (f, first) ← holding [ov] (getMethod ov m pl)
      callWith pos f first (backTo pos (starEach [] X.env)) (backToKw pos (keywordEach [] X.env))) := by rfl) :
    PE X (.Call (.Attribute o m apos) [] [] pos) (tMeth C m sp dvs E ta tNil) := by
  refine ⟨fun pins s σ H Q I h => PySem.W.methodCall_KW (pl := pl) (thn (he.run pins s σ H _ I h) fun u s1 ⟨x, H1, I1, rx, a, dx, fs, ex, ea, l, q⟩ => ?_) ht⟩
  subst ex
  cases rx
  exact getmeth_ok I1 ea c hm l (PySem.W.callWith_K0 (first := [.ref a]) I1.kIn hm.kp (run_fn (us := [.ref a]) (vs := [.ref a]) F hr hb hd hx I1 (.cons rfl .nil) q))
theorem run_make {pins : List (Addr × Obj)} {σ : L2.St} {H : Hp} {s : Shared} {Q : VK} {us : List Value} {vs : List V} (M : Mk X.K C f) (F : FnOk X.prog X.w X.K X.mg X.base CX k f fd ps sp) (hr : Room (k + 1) X.A) (hb : Binds X.K fd ps ds) (hd : Vals dvs ds)
    (hx : Passes CX X E) (I : Inv X pins σ H s) (r : Vals vs us)
    (h : ∀ x dx, H x = none → H dx = none → dx ≠ x → sp (.ref x :: (vs ++ dvs)) (upd (upd H dx (.own x)) x (.ins C dx [])) (fun v H2 => v = .non ∧ Q (.ref x) H2) E) :
    wpAny (model X.prog X.w) X.A (call (.ref C) us) (EP X pins σ Q) X.xe s := by
  have q0 := h (s.heap.objs.size + 1) s.heap.objs.size (I.hok.fresh (Nat.le_succ _)) (I.hok.fresh (Nat.le_refl _)) (Nat.ne_of_lt (Nat.lt_succ_self _))
  have I2 := Inv.made (C := C) I
  have r2 : Vals (V.ref (s.heap.objs.size + 1) :: (vs ++ dvs)) (Value.ref (s.heap.objs.size + 1) :: (us ++ ds)) := .cons rfl (r.append hd)
  refine wpAny_call (make_map (f := f) I.kIn M.makes M.init (beq_iff_eq.mp M.fn) (codeAny_mono (F.run _ X.stack _ _ ⟨Value.ref (s.heap.objs.size + 1) :: us, []⟩ (Value.ref (s.heap.objs.size + 1) :: (us ++ ds)) _ _ E (hr.make C us [])
    (I2.env0.make C us []) (hb _ (Value.ref (s.heap.objs.size + 1) :: us) I2.kIn (r2.length.symm.trans (F.len _ _ _ _ q0))) r2 q0) fun r s' q => ?_))
  have z := run_end (CX := CX) (E := E) I2 hx q
  cases r with
  | error e => exact z
  | ok fl =>
    cases fl with
    | ret u =>
      obtain ⟨v, H', I3, rv, ev, q3⟩ := z
      subst ev
      exact ⟨rv, ⟨V.ref (s.heap.objs.size + 1), H', I3, rfl, q3⟩⟩
    | _ => exact False.elim z
theorem pe_make (M : Mk X.K C f) (F : FnOk X.prog X.w X.K X.mg X.base CX k f fd ps sp) (hr : Room (k + 1) X.A) (hg : Gl X x) (hm : X.mg x = some (.ref C)) (hb : Binds X.K fd ps ds) (hd : Vals dvs ds) (hx : Passes CX X E)
    (ha : PA X (e :: es) t) (hdb : (x == ("__debug__" : Str)) = false := by decide) (he : starEach (e :: es) X.env = (false, eval e X.env) :: starEach es X.env := by rfl) (hpl : (backTo pos (starEach es X.env)).any (·.1) = false := by rfl) :
    PE X (.Call (.Name x p) (e :: es) [] pos) (tMake C sp dvs E t) :=
  ⟨fun pins s σ H Q I h => wpAny_Call_Name_kw (ld_glob I hg hm (PySem.W.callWith_K (h₀ := X.base) I.ok.mod.kin M.kp (thn (ha.run pos pins s σ H _ I h) fun us s1 ⟨vs, H1, I1, r, q⟩ => ⟨I1.kIn, run_make M F hr hb hd hx I1 r q⟩) he hpl) hdb)⟩
theorem pe_make0 (M : Mk X.K C f) (F : FnOk X.prog X.w X.K X.mg X.base CX k f fd ps sp) (hr : Room (k + 1) X.A) (hg : Gl X x) (hm : X.mg x = some (.ref C)) (hb : Binds X.K fd ps ds) (hd : Vals dvs ds) (hx : Passes CX X E)
    (hdb : (x == ("__debug__" : Str)) = false := by decide) : PE X (.Call (.Name x p) [] [] pos) (tMake C sp dvs E tNil) :=
  ⟨fun pins s σ H Q I h => wpAny_Call_Name_kw (ld_glob I hg hm (PySem.W.callWith_K0 I.kIn M.kp (run_make (us := []) M F hr hb hd hx I .nil h)) hdb)⟩
end
end DL
namespace DL
open PySem L2

/-! ### representations -/
structure Rp (α : Type) where
  rel : Hp → V → α → Prop
  mono : ∀ {F F' : Hp} {v : V} {a : α}, Same F F' → rel F v a → rel F' v a
def rInt : Rp Int := ⟨fun _ v a => v = .int a, fun _ h => h⟩
def rBool : Rp Bool := ⟨fun _ v a => v = .bl a, fun _ h => h⟩
abbrev Txt := List Nat
def tx (l : Txt) : Str := ⟨l.toArray⟩
def okT (a : Txt) : Bool := a.all fun c => decide (c < 1114112)
def rTxt : Rp Txt := ⟨fun _ v a => v = .str (tx a) ∧ okT a = true, fun _ h => h⟩
def rNon : Rp Unit := ⟨fun _ v _ => v = .non, fun _ h => h⟩
/-- row by row -/
def Rl {α : Type} (R : V → α → Prop) : List V → List α → Prop
  | [], [] => True
  | v :: vs, a :: as => R v a ∧ Rl R vs as
  | _, _ => False
theorem Rl.imp {α : Type} {R S : V → α → Prop} (h : ∀ v a, R v a → S v a) : ∀ {vs : List V} {as : List α}, Rl R vs as → Rl S vs as
  | [], [], _ => trivial
  | v :: vs, a :: as, x => ⟨h _ _ x.1, Rl.imp h x.2⟩
  | [], _ :: _, x => x.elim
  | _ :: _, [], x => x.elim
theorem Rl.length {α : Type} {R : V → α → Prop} : ∀ {vs : List V} {as : List α}, Rl R vs as → vs.length = as.length
  | [], [], _ => rfl
  | v :: vs, a :: as, x => by simp [Rl.length x.2]
  | [], _ :: _, x => x.elim
  | _ :: _, [], x => x.elim
theorem Rl.get {α : Type} {R : V → α → Prop} : ∀ {vs : List V} {as : List α} {i : Nat} {a : α}, Rl R vs as → as[i]? = some a → ∃ v, vs[i]? = some v ∧ R v a
  | [], [], _, _, _, h => by simp at h
  | v :: vs, a :: as, 0, b, x, h => by
    have e : a = b := by simpa using h
    subst e
    exact ⟨v, rfl, x.1⟩
  | v :: vs, a :: as, i + 1, b, x, h => by
    obtain ⟨w, h1, h2⟩ := Rl.get (i := i) (a := b) x.2 (by simpa using h)
    exact ⟨w, by simpa using h1, h2⟩
  | [], _ :: _, _, _, x, _ => x.elim
  | _ :: _, [], _, _, x, _ => x.elim
theorem Rl.getV {α : Type} {R : V → α → Prop} : ∀ {vs : List V} {as : List α} {i : Nat} {v : V}, Rl R vs as → vs[i]? = some v → ∃ a, as[i]? = some a ∧ R v a
  | [], [], _, _, _, h => by simp at h
  | v :: vs, a :: as, 0, b, x, h => by
    have e : v = b := by simpa using h
    subst e
    exact ⟨a, rfl, x.1⟩
  | v :: vs, a :: as, i + 1, b, x, h => by
    obtain ⟨w, h1, h2⟩ := Rl.getV (i := i) (v := b) x.2 (by simpa using h)
    exact ⟨w, by simpa using h1, h2⟩
  | [], _ :: _, _, _, x, _ => x.elim
  | _ :: _, [], _, _, x, _ => x.elim
theorem Rl.append {α : Type} {R : V → α → Prop} : ∀ {vs ws : List V} {as bs : List α}, Rl R vs as → Rl R ws bs → Rl R (vs ++ ws) (as ++ bs)
  | [], ws, [], bs, _, y => y
  | v :: vs, ws, a :: as, bs, x, y => ⟨x.1, Rl.append x.2 y⟩
  | [], _, _ :: _, _, x, _ => x.elim
  | _ :: _, _, [], _, x, _ => x.elim
theorem Rl.one {α : Type} {R : V → α → Prop} {v : V} {a : α} (h : R v a) : Rl R [v] [a] := ⟨h, trivial⟩
theorem Rl.take {α : Type} {R : V → α → Prop} : ∀ {vs : List V} {as : List α} (n : Nat), Rl R vs as → Rl R (vs.take n) (as.take n)
  | _, _, 0, _ => trivial
  | [], [], _ + 1, _ => trivial
  | v :: vs, a :: as, n + 1, x => ⟨x.1, Rl.take n x.2⟩
  | [], _ :: _, _ + 1, x => x.elim
  | _ :: _, [], _ + 1, x => x.elim
theorem Rl.drop {α : Type} {R : V → α → Prop} : ∀ {vs : List V} {as : List α} (n : Nat), Rl R vs as → Rl R (vs.drop n) (as.drop n)
  | _, _, 0, x => x
  | [], [], _ + 1, _ => trivial
  | v :: vs, a :: as, n + 1, x => Rl.drop n x.2
  | [], _ :: _, _ + 1, x => x.elim
  | _ :: _, [], _ + 1, x => x.elim
theorem Rl.set {α : Type} {R : V → α → Prop} {v : V} {a : α} (h : R v a) : ∀ {vs : List V} {as : List α} (n : Nat), Rl R vs as → Rl R (vs.set n v) (as.set n a)
  | [], [], _, _ => trivial
  | _ :: vs, _ :: as, 0, x => ⟨h, x.2⟩
  | _ :: vs, _ :: as, n + 1, x => ⟨x.1, Rl.set h n x.2⟩
  | [], _ :: _, _, x => x.elim
  | _ :: _, [], _, x => x.elim
theorem Rl.reverse {α : Type} {R : V → α → Prop} : ∀ {vs : List V} {as : List α}, Rl R vs as → Rl R vs.reverse as.reverse
  | [], [], _ => trivial
  | v :: vs, a :: as, x => by rw [List.reverse_cons, List.reverse_cons]; exact Rl.append (Rl.reverse x.2) (Rl.one x.1)
  | [], _ :: _, x => x.elim
  | _ :: _, [], x => x.elim
theorem Rl.map_eq {α : Type} {f : α → V} {R : V → α → Prop} (h : ∀ v a, R v a → v = f a) : ∀ {vs : List V} {as : List α}, Rl R vs as → vs = as.map f
  | [], [], _ => rfl
  | v :: vs, a :: as, x => by rw [h _ _ x.1, Rl.map_eq h x.2]; rfl
  | [], _ :: _, x => x.elim
  | _ :: _, [], x => x.elim
theorem Rl.of_map {α : Type} {f : α → V} {R : V → α → Prop} (h : ∀ a, R (f a) a) : ∀ (as : List α), Rl R (as.map f) as
  | [] => trivial
  | a :: as => ⟨h a, Rl.of_map h as⟩

section
variable {α β γ : Type}
def rList (r : Rp α) : Rp (List α) := ⟨fun F v as => ∃ p vs, v = .ref p ∧ F p = some (.lst vs) ∧ Rl (r.rel F) vs as,
  fun e ⟨p, vs, h1, h2, h3⟩ => ⟨p, vs, h1, e _ _ h2, Rl.imp (fun _ _ => r.mono e) h3⟩⟩
/-- a tuple of things of one kind -/
def rTup (r : Rp α) : Rp (List α) := ⟨fun F v as => ∃ p vs, v = .ref p ∧ F p = some (.tup vs) ∧ Rl (r.rel F) vs as,
  fun e ⟨p, vs, h1, h2, h3⟩ => ⟨p, vs, h1, e _ _ h2, Rl.imp (fun _ _ => r.mono e) h3⟩⟩
def rPair (r : Rp α) (s : Rp β) : Rp (α × β) := ⟨fun F v a => ∃ p x y, v = .ref p ∧ F p = some (.tup [x, y]) ∧ r.rel F x a.1 ∧ s.rel F y a.2,
  fun e ⟨p, x, y, h1, h2, h3, h4⟩ => ⟨p, x, y, h1, e _ _ h2, r.mono e h3, s.mono e h4⟩⟩
def rTri (r : Rp α) (s : Rp β) (t : Rp γ) : Rp (α × β × γ) := ⟨fun F v a => ∃ p x y z, v = .ref p ∧ F p = some (.tup [x, y, z]) ∧ r.rel F x a.1 ∧ s.rel F y a.2.1 ∧ t.rel F z a.2.2,
  fun e ⟨p, x, y, z, h1, h2, h3, h4, h5⟩ => ⟨p, x, y, z, h1, e _ _ h2, r.mono e h3, s.mono e h4, t.mono e h5⟩⟩
/-- the script: a list that is known -/
def rScr (K : PySem.W.Frag) : Rp (List Int) := ⟨fun F v as => ∃ p, v = .ref p ∧ SqL K F p (as.map V.int), fun e ⟨p, h1, h2⟩ => ⟨p, h1, e.seq h2⟩⟩
end
/-- None, or .. -/
def rOpt {α : Type} (r : Rp α) : Rp (Option α) := ⟨fun F v a => match a with | none => v = .non | some x => r.rel F v x ∧ v ≠ .non,
  fun {F F' v a} e h => match a, h with | none, h => h | some x, h => ⟨r.mono e h.1, h.2⟩⟩

/-! ### worlds: F what stands still, H all -/
structure Ext (F H F' H' : Hp) : Prop where
  f : Same F F'
  h : Same H H'
  i : Same F' H'
  d : ∀ b, F b = none → H b ≠ none → F' b = none
theorem Ext.refl {F H : Hp} (s : Same F H) : Ext F H F H := ⟨Same.refl F, Same.refl H, s, fun _ h _ => h⟩
theorem Ext.trans {F H F1 H1 F2 H2 : Hp} (a : Ext F H F1 H1) (b : Ext F1 H1 F2 H2) : Ext F H F2 H2 :=
  ⟨a.f.trans b.f, a.h.trans b.h, b.i, fun c hf hh => b.d c (a.d c hf hh) (by
    cases q : H c with
    | none => exact absurd q hh
    | some o => rw [a.h c o q]; intro z; cases z)⟩
/-- a new object that stands still -/
theorem Ext.new {F H : Hp} (s : Same F H) {p : Addr} (o : HO) (hp : H p = none) : Ext F H (upd F p o) (upd H p o) := by
  refine ⟨fun b u e => ?_, fun b u e => ?_, fun b u e => ?_, fun b hf hh => ?_⟩
  · rw [upd_ne (ne_of_none e (s.free hp))]; exact e
  · rw [upd_ne (ne_of_none e hp)]; exact e
  · by_cases hb : b = p
    · subst hb; rw [upd_same] at e ⊢; exact e
    · rw [upd_ne hb] at e ⊢; exact s b u e
  · have hb : b ≠ p := fun z => hh (by rw [z]; exact hp)
    rw [upd_ne hb]; exact hf
/-- a new object that may change -/
theorem Ext.newH {F H : Hp} (s : Same F H) {p : Addr} (o : HO) (hp : H p = none) : Ext F H F (upd H p o) := by
  refine ⟨Same.refl F, fun b u e => ?_, fun b u e => ?_, fun b hf _ => hf⟩
  · rw [upd_ne (ne_of_none e hp)]; exact e
  · rw [upd_ne (ne_of_none (s b u e) hp)]; exact s b u e

/-! ### slots -/
/-- a thing of one's own: by F, H, the value, the data, the addresses that are one's own -/
structure Own (α : Type) where
  rel : Hp → Hp → V → α → (Addr → Prop) → Prop
  mono : ∀ {F F' H H' : Hp} {v : V} {a : α} {fp : Addr → Prop}, Same F F' → (∀ b, fp b → H' b = H b) → rel F H v a fp → rel F' H' v a fp
inductive Sl : Type 1 where
  | un
  | val {α : Type} (r : Rp α) (a : α)
  | own {α : Type} (o : Own α) (a : α)
/-- the ways a def began with -/
structure Bs where
  F : Hp
  H : Hp
  L : Hp
/-- with another least F -/
abbrev Bs.lo (B : Bs) (L : Hp) : Bs := ⟨B.F, B.H, L⟩
def slotOk (B : Bs) (F H : Hp) : Sl → Option (Option V) → (Addr → Prop) → Prop
  | .un, _, fp => ∀ b, ¬ fp b
  | .val r a, x, fp => (∀ b, ¬ fp b) ∧ ∃ v, x = some (some v) ∧ r.rel F v a
  | .own o a, x, fp => (∃ v, x = some (some v) ∧ o.rel F H v a fp) ∧ ∀ b, fp b → F b = none ∧ H b ≠ none ∧ B.H b = none
abbrev Ctx := List Sl
structure EnvF (B : Bs) (Γ : Ctx) (σ : St) (F H : Hp) (fp : Nat → Addr → Prop) : Prop where
  len : σ.length = Γ.length
  base : Ext B.F B.H F H
  same : Same F H
  low : Same B.L F
  ok : ∀ (i : Nat) (s : Sl), Γ[i]? = some s → slotOk B F H s σ[i]? (fp i)
  out : ∀ i : Nat, Γ[i]? = none → ∀ b, ¬ fp i b
  apart : ∀ i j : Nat, i ≠ j → ∀ b, fp i b → ¬ fp j b
def Env (B : Bs) (Γ : Ctx) (σ : St) (F H : Hp) : Prop := ∃ fp, EnvF B Γ σ F H fp
theorem slotOk.ext {B : Bs} {F H F' H' : Hp} {s : Sl} {x : Option (Option V)} {fp : Addr → Prop} (e : Ext F H F' H') (h : slotOk B F H s x fp) : slotOk B F' H' s x fp := by
  cases s with
  | un => exact h
  | val r a =>
    obtain ⟨h0, v, h1, h2⟩ := h
    exact ⟨h0, v, h1, r.mono e.f h2⟩
  | own o a =>
    obtain ⟨⟨v, h1, h2⟩, h3⟩ := h
    have hk : ∀ b, fp b → H' b = H b := fun b hb => by
      cases q : H b with
      | none => exact absurd q (h3 b hb).2.1
      | some u => exact e.h b u q
    refine ⟨⟨v, h1, o.mono e.f hk h2⟩, fun b hb => ⟨e.d b (h3 b hb).1 (h3 b hb).2.1, ?_, (h3 b hb).2.2⟩⟩
    rw [hk b hb]; exact (h3 b hb).2.1
theorem EnvF.ext {B : Bs} {Γ : Ctx} {σ : St} {F H F' H' : Hp} {fp : Nat → Addr → Prop} (h : EnvF B Γ σ F H fp) (e : Ext F H F' H') : EnvF B Γ σ F' H' fp :=
  ⟨h.len, h.base.trans e, e.i, h.low.trans e.f, fun i s hs => (h.ok i s hs).ext e, h.out, h.apart⟩
theorem Env.ext {B : Bs} {Γ : Ctx} {σ : St} {F H F' H' : Hp} (h : Env B Γ σ F H) (e : Ext F H F' H') : Env B Γ σ F' H' := let ⟨fp, x⟩ := h; ⟨fp, x.ext e⟩
theorem Env.same {B : Bs} {Γ : Ctx} {σ : St} {F H : Hp} (h : Env B Γ σ F H) : Same F H := let ⟨_, x⟩ := h; x.same
theorem Env.base {B : Bs} {Γ : Ctx} {σ : St} {F H : Hp} (h : Env B Γ σ F H) : Ext B.F B.H F H := let ⟨_, x⟩ := h; x.base
/-- a look at a slot -/
inductive At : Ctx → Nat → Sl → Prop where
  | z {s : Sl} {Γ : Ctx} : At (s :: Γ) 0 s
  | s {s t : Sl} {Γ : Ctx} {i : Nat} : At Γ i s → At (t :: Γ) (i + 1) s
theorem At.get {Γ : Ctx} {i : Nat} {s : Sl} (h : At Γ i s) : Γ[i]? = some s := by
  induction h with
  | z => rfl
  | s _ ih => simpa using ih
/-- a slot set -/
inductive To : Ctx → Nat → Sl → Ctx → Prop where
  | z {s t : Sl} {Γ : Ctx} : To (t :: Γ) 0 s (s :: Γ)
  | s {s t : Sl} {Γ Γ' : Ctx} {i : Nat} : To Γ i s Γ' → To (t :: Γ) (i + 1) s (t :: Γ')
theorem To.set {Γ Γ' : Ctx} {i : Nat} {s : Sl} (h : To Γ i s Γ') : Γ' = Γ.set i s ∧ i < Γ.length := by
  induction h with
  | z => exact ⟨rfl, by simp⟩
  | s _ ih => exact ⟨by rw [ih.1]; rfl, by simpa using ih.2⟩
/-- a slot takes another thing, with what is its own -/
theorem EnvF.putG {B : Bs} {Γ Γ' : Ctx} {σ σ' : St} {F H F' H' : Hp} {fp : Nat → Addr → Prop} {fi : Addr → Prop} {i : Nat} {s : Sl} (h : EnvF B Γ σ F H fp) (t : To Γ i s Γ') (hl : σ'.length = σ.length) (hx : ∀ j : Nat, j ≠ i → σ'[j]? = σ[j]?) (base : Ext B.F B.H F' H') (same : Same F' H')
    (hf : Same F F') (hh : ∀ j b, j ≠ i → fp j b → H' b = H b ∧ F' b = none) (hs : slotOk B F' H' s σ'[i]? fi) (hd : ∀ j b, j ≠ i → fp j b → ¬ fi b) : EnvF B Γ' σ' F' H' (fun j => if j = i then fi else fp j) := by
  obtain ⟨rfl, hi⟩ := t.set
  refine ⟨by simp [hl, h.len], base, same, h.low.trans hf, fun j u hu => ?_, fun j hj => ?_, fun j k hjk b hb => ?_⟩
  · by_cases e : j = i
    · subst e
      rw [List.getElem?_set_self hi] at hu
      cases hu
      rw [if_pos rfl]
      exact hs
    · rw [List.getElem?_set_ne (fun z => e z.symm)] at hu
      rw [hx j e, if_neg e]
      have q := h.ok j u hu
      cases u with
      | un => exact q
      | val r a =>
        obtain ⟨q0, v, q1, q2⟩ := q
        exact ⟨q0, v, q1, r.mono hf q2⟩
      | own o a =>
        obtain ⟨⟨v, q1, q2⟩, q3⟩ := q
        refine ⟨⟨v, q1, o.mono hf (fun b hb => (hh j b e hb).1) q2⟩, fun b hb => ⟨(hh j b e hb).2, ?_, (q3 b hb).2.2⟩⟩
        rw [(hh j b e hb).1]
        exact (q3 b hb).2.1
  · by_cases e : j = i
    · subst e
      rw [List.getElem?_set_self hi] at hj
      cases hj
    · simp only [if_neg e]
      refine h.out j ?_
      rw [List.getElem?_set_ne (fun z => e z.symm)] at hj
      exact hj
  · by_cases e : j = i
    · rw [if_pos e] at hb
      have e2 : k ≠ i := fun z => hjk (e.trans z.symm)
      rw [if_neg e2]
      exact fun z => hd k b e2 z hb
    · rw [if_neg e] at hb
      by_cases e2 : k = i
      · rw [if_pos e2]; exact hd j b e hb
      · rw [if_neg e2]; exact h.apart j k hjk b hb
theorem EnvF.own_at {B : Bs} {Γ : Ctx} {σ : St} {F H : Hp} {fp : Nat → Addr → Prop} (h : EnvF B Γ σ F H fp) {j : Nat} {b : Addr} (q : fp j b) : F b = none ∧ H b ≠ none ∧ B.H b = none := by
  cases e : Γ[j]? with
  | none => exact absurd q (h.out j e b)
  | some s =>
    have z := h.ok j s e
    cases s with
    | un => exact absurd q (z b)
    | val r a => exact absurd q (z.1 b)
    | own o a => exact z.2 b q
/-- a store of a thing that stands still (or of what nobody asks) -/
theorem EnvF.put {B : Bs} {Γ Γ' : Ctx} {σ : St} {F H : Hp} {fp : Nat → Addr → Prop} {i : Nat} {v : V} {s : Sl} (h : EnvF B Γ σ F H fp) (t : To Γ i s Γ') (hs : slotOk B F H s (some (some v)) (fun _ => False)) : Env B Γ' (σ.set i (some v)) F H := by
  have hi : i < σ.length := by rw [h.len]; exact t.set.2
  exact ⟨_, h.putG (fi := fun _ => False) t (by simp) (fun j hj => List.getElem?_set_ne fun z => hj z.symm) h.base h.same (Same.refl F) (fun j b _ q => ⟨rfl, (h.own_at q).1⟩) (by rw [List.getElem?_set_self hi]; exact hs) (fun _ _ _ _ z => z)⟩
theorem Env.put {B : Bs} {Γ Γ' : Ctx} {σ : St} {F H : Hp} {i : Nat} {v : V} {α : Type} {r : Rp α} {a : α} (h : Env B Γ σ F H) (t : To Γ i (.val r a) Γ') (hv : r.rel F v a) : Env B Γ' (σ.set i (some v)) F H :=
  let ⟨_, x⟩ := h; x.put t ⟨fun _ z => z, v, rfl, hv⟩
theorem Env.val {B : Bs} {Γ : Ctx} {σ : St} {F H : Hp} {i : Nat} {α : Type} {r : Rp α} {a : α} (h : Env B Γ σ F H) (t : At Γ i (.val r a)) : ∃ v, σ[i]? = some (some v) ∧ r.rel F v a :=
  let ⟨_, x⟩ := h; (x.ok i _ t.get).2
/-- a slot forgotten -/
theorem Env.forget {B : Bs} {Γ Γ' : Ctx} {σ : St} {F H : Hp} {i : Nat} (h : Env B Γ σ F H) (t : To Γ i .un Γ') : Env B Γ' σ F H := by
  obtain ⟨fp, h⟩ := h
  exact ⟨_, h.putG (fi := fun _ => False) t rfl (fun j hj => rfl) h.base h.same (Same.refl F) (fun j b _ q => ⟨rfl, (h.own_at q).1⟩) (fun _ z => z) (fun _ _ _ _ z => z)⟩

/-! ### what a context is -/
structure XC (P : Program) (w : World) (K : PySem.W.Frag) (mg : Str → Option Value) (base : Heap) (k : Nat) (N : List Str) (sc : Scope) (vs ls : List Nat) (X : Cx) : Prop where
  p : X.prog = P
  w : X.w = w
  K : X.K = K
  mg : X.mg = mg
  b : X.base = base
  N : X.N = N
  sc : X.env.scope = sc
  calm : X.calm = true
  room : Room k X.A
  kind : X.env.scope.kind = ScopeKind.function
  nd : X.N.Nodup
  po : PassesOwn (model X.prog X.w) X.A X.env X.xe
  vis : ∀ (i : Nat) (x : Str), X.N[i]? = some x → vs.contains i = true → Vis X.env.scope x
  loc : ∀ (i : Nat) (x : Str), X.N[i]? = some x → ls.contains i = true → Loc X.env.scope x ∧ (X.fn x = true ∨ X.env.scope.names.lookup x = some .local)

/-! ### judgements -/
def tD {α : Type} (B : Bs) (Γ : Ctx) (r : Rp α) (a : α) : TE := fun σ H Q => ∃ F, Env B Γ σ F H ∧ ∀ v F' H', Ext F H F' H' → r.rel F' v a → Q v H'
abbrev DE {α : Type} (X : Cx) (B : Bs) (Γ : Ctx) (e : Expr) (r : Rp α) (a : α) : Prop := PE X e (tD B Γ r a)
def tDT (B : Bs) (Γ : Ctx) (b : Bool) : TT := fun σ H Q => ∃ F, Env B Γ σ F H ∧ ∀ F' H', Ext F H F' H' → Q b H'
abbrev DT (X : Cx) (B : Bs) (Γ : Ctx) (e : Expr) (b : Bool) : Prop := PT X e (tDT B Γ b)
abbrev DW (X : Cx) (B : Bs) (Γ : Ctx) (e : Expr) (b : Bool) : Prop := PW X e (tDT B Γ b)
def slVal (F : Hp) (v : V) : Sl → Prop
  | .val r a => r.rel F v a
  | _ => False
def SlsOk (F : Hp) : List V → Ctx → Prop
  | [], [] => True
  | v :: vs, s :: Δ => slVal F v s ∧ SlsOk F vs Δ
  | _, _ => False
theorem slVal.mono {F F' : Hp} {v : V} {s : Sl} (e : Same F F') (h : slVal F v s) : slVal F' v s := by
  cases s with
  | val r a => exact r.mono e h
  | un => exact h
  | own o a => exact h
theorem SlsOk.mono {F F' : Hp} (e : Same F F') : ∀ {vs : List V} {Δ : Ctx}, SlsOk F vs Δ → SlsOk F' vs Δ
  | [], [], _ => trivial
  | v :: vs, s :: Δ, h => ⟨slVal.mono e h.1, SlsOk.mono e h.2⟩
  | [], _ :: _, h => h.elim
  | _ :: _, [], h => h.elim
def tDA (B : Bs) (Γ Δ : Ctx) : TA := fun σ H Q => ∃ F, Env B Γ σ F H ∧ ∀ vs F' H', Ext F H F' H' → SlsOk F' vs Δ → Q vs H'
abbrev DA (X : Cx) (B : Bs) (Γ : Ctx) (es : List Expr) (Δ : Ctx) : Prop := PA X es (tDA B Γ Δ)
def EnvP (B : Bs) (Γ : Ctx) : St → Hp → Prop := fun σ H => ∃ F, Env B Γ σ F H
/-- ends that let more through -/
structure Le (D D' : Ends) : Prop where
  nx : ∀ σ H, D.nx σ H → D'.nx σ H
  rt : ∀ v H, D.rt v H → D'.rt v H
  bk : ∀ σ H, D.bk σ H → D'.bk σ H
  ct : ∀ σ H, D.ct σ H → D'.ct σ H
theorem Le.refl (D : Ends) : Le D D := ⟨fun _ _ h => h, fun _ _ h => h, fun _ _ h => h, fun _ _ h => h⟩
def tS (B : Bs) (Γ : Ctx) (D : Ends) : TS := fun D' σ H => Le D D' ∧ EnvP B Γ σ H
abbrev SD (X : Cx) (B : Bs) (Γ : Ctx) (ss : List Stmt) (D : Ends) : Prop := PSs X ss (tS B Γ D)

section
variable {X : Cx} {α β γ : Type} {B : Bs} {Γ Γ' : Ctx} {e a b c : Expr}
theorem pe_weak {t t' : TE} (h : PE X e t) (w : ∀ σ H Q, t' σ H Q → t σ H Q) : PE X e t' := ⟨fun pins s σ H Q I q => h.run pins s σ H Q I (w σ H Q q)⟩
theorem pt_weak {t t' : TT} (h : PT X e t) (w : ∀ σ H Q, t' σ H Q → t σ H Q) : PT X e t' := ⟨fun pins s σ H Q I q => h.run pins s σ H Q I (w σ H Q q)⟩
theorem pw_weak {t t' : TT} (h : PW X e t) (w : ∀ σ H Q, t' σ H Q → t σ H Q) : PW X e t' := ⟨fun wh pins s σ H Q I q => h.run wh pins s σ H Q I (w σ H Q q)⟩
theorem pa_weak {es : List Expr} {t t' : TA} (h : PA X es t) (w : ∀ σ H Q, t' σ H Q → t σ H Q) : PA X es t' := ⟨fun pos pins s σ H Q I q => h.run pos pins s σ H Q I (w σ H Q q)⟩
theorem ps_weak {st : Stmt} {t t' : TS} (h : PS X st t) (w : ∀ D σ H, t' D σ H → t D σ H) : PS X st t' := ⟨fun pins s σ H D I q => h.run pins s σ H D I (w D σ H q)⟩
theorem pss_weak {ss : List Stmt} {t t' : TS} (h : PSs X ss t) (w : ∀ D σ H, t' D σ H → t D σ H) : PSs X ss t' := ⟨fun pins s σ H D I q => h.run pins s σ H D I (w D σ H q)⟩

/-! ### expressions -/
theorem de_var (i : Nat) {x : Str} {pos : Pos} {r : Rp α} {v : α} (hN : X.N[i]? = some x) (hv : Vis X.env.scope x) (h : At Γ i (.val r v)) (hd : (x == ("__debug__" : Str)) = false := by decide) (hcd : (x == ("__classdict__" : Str)) = false := by decide) : DE X B Γ (.Name x pos) r v :=
  pe_weak (pe_var hN hv hd hcd) fun σ H Q ⟨F, e, k⟩ => by
    obtain ⟨u, h1, h2⟩ := e.val h
    exact ⟨u, h1, k u F H (Ext.refl e.same) h2⟩
theorem de_int {i : Int} {j pos} : DE X B Γ (.Constant (.int i) j pos) rInt i := pe_weak pe_int fun σ H Q ⟨F, e, k⟩ => k _ F H (Ext.refl e.same) rfl
theorem de_bl {i : Bool} {j pos} : DE X B Γ (.Constant (.bool i) j pos) rBool i := pe_weak pe_bl fun σ H Q ⟨F, e, k⟩ => k _ F H (Ext.refl e.same) rfl
theorem de_non {j pos} : DE X B Γ (.Constant .none j pos) rNon () := pe_weak pe_non fun σ H Q ⟨F, e, k⟩ => k _ F H (Ext.refl e.same) rfl
theorem de_str {x : Str} {j pos} {l : Txt} (h : x = tx l) (h2 : okT l = true) : DE X B Γ (.Constant (.str x) j pos) rTxt l := pe_weak pe_str fun σ H Q ⟨F, e, k⟩ => k _ F H (Ext.refl e.same) ⟨by rw [h], h2⟩
theorem de_eq {r : Rp α} {x y : α} (h : DE X B Γ e r x) (q : x = y) : DE X B Γ e r y := q ▸ h
theorem dt_eq {x y : Bool} (h : DT X B Γ e x) (q : x = y) : DT X B Γ e y := q ▸ h
/-- a two-place operation on values -/
theorem de_op {op : Operator} {r2 : R2} {pos : Pos} {ra : Rp α} {rb : Rp β} {rc : Rp γ} {x : α} {y : β} {z : γ} (ho : OpR X (binaryOp op) r2)
    (hr : ∀ F H u v, Same F H → ra.rel F u x → rb.rel F v y → ∀ Q : VK, (∀ t F' H', Ext F H F' H' → rc.rel F' t z → Q t H') → r2 u v H Q) (ha : DE X B Γ a ra x) (hb : DE X B Γ b rb y) : DE X B Γ (.BinOp a op b pos) rc z :=
  pe_weak (pe_op ho ha hb) fun σ H Q ⟨F, e, k⟩ => ⟨F, e, fun u F1 H1 e1 h1 => ⟨F1, e.ext e1, fun v F2 H2 e2 h2 => hr F2 H2 u v e2.i (ra.mono e2.f h1) h2 Q fun t F3 H3 e3 h3 => k t F3 H3 (e1.trans (e2.trans e3)) h3⟩⟩
theorem de_un {op : UnaryOp} {r1 : V → Hp → VK → Prop} {pos : Pos} {ra : Rp α} {rc : Rp γ} {x : α} {z : γ} (ho : UnR X (unaryOp op) r1)
    (hr : ∀ F H u, Same F H → ra.rel F u x → ∀ Q : VK, (∀ t F' H', Ext F H F' H' → rc.rel F' t z → Q t H') → r1 u H Q) (ha : DE X B Γ a ra x) : DE X B Γ (.UnaryOp op a pos) rc z :=
  pe_weak (pe_un ho ha) fun σ H Q ⟨F, e, k⟩ => ⟨F, e, fun u F1 H1 e1 h1 => hr F1 H1 u e1.i h1 Q fun t F3 H3 e3 h3 => k t F3 H3 (e1.trans e3) h3⟩
theorem de_cmp {op : CmpOp} {r2 : R2} {pos : Pos} {ra : Rp α} {rb : Rp β} {z : Bool} {x : α} {y : β} (ho : OpR X (compareOp op) r2)
    (hr : ∀ F H u v, Same F H → ra.rel F u x → rb.rel F v y → ∀ Q : VK, (∀ t F' H', Ext F H F' H' → rBool.rel F' t z → Q t H') → r2 u v H Q) (hm : behindInMarks op b = false) (ha : DE X B Γ a ra x) (hb : DE X B Γ b rb y) :
    DE X B Γ (.Compare a [op] [b] pos) rBool z :=
  pe_weak (pe_cmpR ho ha hb hm) fun σ H Q ⟨F, e, k⟩ => ⟨F, e, fun u F1 H1 e1 h1 => ⟨F1, e.ext e1, fun v F2 H2 e2 h2 => hr F2 H2 u v e2.i (ra.mono e2.f h1) h2 Q fun t F3 H3 e3 h3 => k t F3 H3 (e1.trans (e2.trans e3)) h3⟩⟩
theorem dt_cmp {op : CmpOp} {r2 : R2} {pos : Pos} {ra : Rp α} {rb : Rp β} {z : Bool} {x : α} {y : β} (ho : OpR X (compareOp op) r2)
    (hr : ∀ F H u v, Same F H → ra.rel F u x → rb.rel F v y → ∀ Q : VK, (∀ t F' H', Ext F H F' H' → rBool.rel F' t z → Q t H') → r2 u v H Q) (hm : behindInMarks op b = false) (ha : DE X B Γ a ra x) (hb : DE X B Γ b rb y) :
    DT X B Γ (.Compare a [op] [b] pos) z :=
  pt_weak (pt_cmpR ho ha hb hm) fun σ H Q ⟨F, e, k⟩ => ⟨F, e, fun u F1 H1 e1 h1 => ⟨F1, e.ext e1, fun v F2 H2 e2 h2 => hr F2 H2 u v e2.i (ra.mono e2.f h1) h2 _ fun t F3 H3 e3 h3 => ⟨z, h3, k F3 H3 (e1.trans (e2.trans e3))⟩⟩⟩
/-- a comparison, as a value and as a test -/
structure DC (X : Cx) (B : Bs) (Γ : Ctx) (e : Expr) (z : Bool) : Prop where
  v : DE X B Γ e rBool z
  t : DT X B Γ e z
theorem dc_cmp {op : CmpOp} {r2 : R2} {pos : Pos} {ra : Rp α} {rb : Rp β} {z : Bool} {x : α} {y : β} (ho : OpR X (compareOp op) r2)
    (hr : ∀ F H u v, Same F H → ra.rel F u x → rb.rel F v y → ∀ Q : VK, (∀ t F' H', Ext F H F' H' → rBool.rel F' t z → Q t H') → r2 u v H Q) (hm : behindInMarks op b = false) (ha : DE X B Γ a ra x) (hb : DE X B Γ b rb y) :
    DC X B Γ (.Compare a [op] [b] pos) z := ⟨de_cmp ho hr hm ha hb, dt_cmp ho hr hm ha hb⟩
/-! whole numbers -/
theorem de_add {x y : Int} {pos : Pos} (ha : DE X B Γ a rInt x) (hb : DE X B Γ b rInt y) : DE X B Γ (.BinOp a .Add b pos) rInt (x + y) :=
  de_op op_add (fun F H u v s h1 h2 Q q => ⟨x, y, h1, h2, q _ F H (Ext.refl s) rfl⟩) ha hb
theorem de_sub {x y : Int} {pos : Pos} (ha : DE X B Γ a rInt x) (hb : DE X B Γ b rInt y) : DE X B Γ (.BinOp a .Sub b pos) rInt (x - y) :=
  de_op op_sub (fun F H u v s h1 h2 Q q => ⟨x, y, h1, h2, q _ F H (Ext.refl s) rfl⟩) ha hb
theorem de_mul {x y : Int} {pos : Pos} (ha : DE X B Γ a rInt x) (hb : DE X B Γ b rInt y) (h : (-(2 ^ 64) < x ∧ x < 2 ^ 64) ∨ (-(2 ^ 64) < y ∧ y < 2 ^ 64)) : DE X B Γ (.BinOp a .Mult b pos) rInt (x * y) :=
  de_op op_mul (fun F H u v s h1 h2 Q q => ⟨x, y, h1, h2, h, q _ F H (Ext.refl s) rfl⟩) ha hb
theorem de_fdiv {x y : Int} {pos : Pos} (ha : DE X B Γ a rInt x) (hb : DE X B Γ b rInt y) (h : 0 < y ∧ y < 1073741824) : DE X B Γ (.BinOp a .FloorDiv b pos) rInt (x / y) :=
  de_op op_fdiv (fun F H u v s h1 h2 Q q => ⟨x, y, h1, h2, h, q _ F H (Ext.refl s) rfl⟩) ha hb
theorem de_mod {x y : Int} {pos : Pos} (ha : DE X B Γ a rInt x) (hb : DE X B Γ b rInt y) (h : 0 < y) : DE X B Γ (.BinOp a .Mod b pos) rInt (x % y) :=
  de_op op_mod (fun F H u v s h1 h2 Q q => ⟨x, y, h1, h2, h, q _ F H (Ext.refl s) rfl⟩) ha hb
theorem de_pow {x y : Int} {pos : Pos} (ha : DE X B Γ a rInt x) (hb : DE X B Γ b rInt y) (h : 0 ≤ y ∧ y ≤ 1000000 ∧ x.natAbs < 2 ^ 64) : DE X B Γ (.BinOp a .Pow b pos) rInt (x ^ y.toNat) :=
  de_op op_pow (fun F H u v s h1 h2 Q q => ⟨x, y, h1, h2, h, q _ F H (Ext.refl s) rfl⟩) ha hb
theorem de_neg {x : Int} {pos : Pos} (ha : DE X B Γ a rInt x) : DE X B Γ (.UnaryOp .USub a pos) rInt (-x) :=
  de_un un_neg (fun F H u s h1 Q q => ⟨x, h1, q _ F H (Ext.refl s) rfl⟩) ha
section
variable {x y : Int} {pos : Pos}
theorem dc_lt (ha : DE X B Γ a rInt x) (hb : DE X B Γ b rInt y) : DC X B Γ (.Compare a [.Lt] [b] pos) (decide (x < y)) :=
  dc_cmp (ra := rInt) (rb := rInt) op_lt (fun F H u v s h1 h2 Q q => ⟨x, y, h1, h2, q _ F H (Ext.refl s) rfl⟩) (nomark _) ha hb
theorem dc_le (ha : DE X B Γ a rInt x) (hb : DE X B Γ b rInt y) : DC X B Γ (.Compare a [.LtE] [b] pos) (decide (x ≤ y)) :=
  dc_cmp (ra := rInt) (rb := rInt) op_le (fun F H u v s h1 h2 Q q => ⟨x, y, h1, h2, q _ F H (Ext.refl s) rfl⟩) (nomark _) ha hb
theorem dc_gt (ha : DE X B Γ a rInt x) (hb : DE X B Γ b rInt y) : DC X B Γ (.Compare a [.Gt] [b] pos) (decide (y < x)) :=
  dc_cmp (ra := rInt) (rb := rInt) op_gt (fun F H u v s h1 h2 Q q => ⟨x, y, h1, h2, q _ F H (Ext.refl s) rfl⟩) (nomark _) ha hb
theorem dc_ge (ha : DE X B Γ a rInt x) (hb : DE X B Γ b rInt y) : DC X B Γ (.Compare a [.GtE] [b] pos) (decide (y ≤ x)) :=
  dc_cmp (ra := rInt) (rb := rInt) op_ge (fun F H u v s h1 h2 Q q => ⟨x, y, h1, h2, q _ F H (Ext.refl s) rfl⟩) (nomark _) ha hb
theorem dc_eqI (ha : DE X B Γ a rInt x) (hb : DE X B Γ b rInt y) : DC X B Γ (.Compare a [.Eq] [b] pos) (decide (x = y)) :=
  dc_cmp (ra := rInt) (rb := rInt) op_eq (fun F H u v s h1 h2 Q q => by
    obtain rfl : u = .int x := h1
    obtain rfl : v = .int y := h2
    exact ⟨rfl, q _ F H (Ext.refl s) (by show V.bl _ = V.bl _; congr 1; simp)⟩) (nomark _) ha hb
theorem dc_neI (ha : DE X B Γ a rInt x) (hb : DE X B Γ b rInt y) : DC X B Γ (.Compare a [.NotEq] [b] pos) (!decide (x = y)) :=
  dc_cmp (ra := rInt) (rb := rInt) op_ne (fun F H u v s h1 h2 Q q => by
    obtain rfl : u = .int x := h1
    obtain rfl : v = .int y := h2
    exact ⟨rfl, q _ F H (Ext.refl s) (by show V.bl _ = V.bl _; congr 1; simp)⟩) (nomark _) ha hb
end
/-! tests -/
theorem dt_val {z : Bool} (h : DE X B Γ e rBool z) (he : ∀ whole, isTrue e X.env whole = (do let v ← whole; standAt e.pos; holding [v] (truthy v)) := by intro _; rfl) : DT X B Γ e z :=
  pt_weak (pt_val h he) fun σ H Q ⟨F, e, k⟩ => ⟨F, e, fun u F1 H1 e1 h1 => ⟨z, h1, k F1 H1 e1⟩⟩
theorem dt_cm {z : Bool} (h : DC X B Γ e z) : DT X B Γ e z := h.t
theorem dt_not {z : Bool} {pos : Pos} (h : DT X B Γ e z) : DT X B Γ (.UnaryOp .Not e pos) (!z) :=
  pt_weak (pt_not h) fun σ H Q ⟨F, e, k⟩ => ⟨F, e, fun F1 H1 e1 => k F1 H1 e1⟩
theorem dw_and1 {z : Bool} {pos : Pos} (h : DT X B Γ e z) : DW X B Γ (.BoolOp .And [e] pos) z := pw_and1 h
theorem dw_or1 {z : Bool} {pos : Pos} (h : DT X B Γ e z) : DW X B Γ (.BoolOp .Or [e] pos) z := pw_or1 h
/-- u is reached only where t holds -/
def tImp (p : Prop) (t : TT) : TT := fun σ H Q => p ∧ t σ H Q
theorem pw_imp {p : Prop} {t : TT} (h : p → PW X e t) : PW X e (tImp p t) := ⟨fun wh pins s σ H Q I q => (h q.1).run wh pins s σ H Q I q.2⟩
def tImpE (p : Prop) (t : TE) : TE := fun σ H Q => p ∧ t σ H Q
theorem pe_imp {p : Prop} {t : TE} (h : p → PE X e t) : PE X e (tImpE p t) := ⟨fun pins s σ H Q I q => (h q.1).run pins s σ H Q I q.2⟩
theorem dw_and {p q : Bool} {pos : Pos} {rest : List Expr} (ha : DT X B Γ a p) (hb : p = true → DW X B Γ (.BoolOp .And (b :: rest) pos) q) : DW X B Γ (.BoolOp .And (a :: b :: rest) pos) (p && q) :=
  pw_weak (pw_and ha (pw_imp hb)) fun σ H Q ⟨F, e, k⟩ => ⟨F, e, fun F1 H1 e1 => by
    cases p with
    | true => exact ⟨rfl, F1, e.ext e1, fun F2 H2 e2 => k F2 H2 (e1.trans e2)⟩
    | false => exact k F1 H1 e1⟩
theorem dw_or {p q : Bool} {pos : Pos} {rest : List Expr} (ha : DT X B Γ a p) (hb : p = false → DW X B Γ (.BoolOp .Or (b :: rest) pos) q) : DW X B Γ (.BoolOp .Or (a :: b :: rest) pos) (p || q) :=
  pw_weak (pw_or ha (pw_imp hb)) fun σ H Q ⟨F, e, k⟩ => ⟨F, e, fun F1 H1 e1 => by
    cases p with
    | true => exact k F1 H1 e1
    | false => exact ⟨rfl, F1, e.ext e1, fun F2 H2 e2 => k F2 H2 (e1.trans e2)⟩⟩
theorem dw_pt {z : Bool} (h : DW X B Γ e z) : DT X B Γ e z := h.pt
/-- and, or as values (of truths) -/
theorem de_one {op} {pos : Pos} {r : Rp α} {x : α} (h : DE X B Γ e r x) : DE X B Γ (.BoolOp op [e] pos) r x := pe_one h
theorem de_and {p q : Bool} {pos : Pos} {rest : List Expr} (ha : DE X B Γ a rBool p) (hb : p = true → DE X B Γ (.BoolOp .And (b :: rest) pos) rBool q) : DE X B Γ (.BoolOp .And (a :: b :: rest) pos) rBool (p && q) :=
  pe_weak (pe_and ha (pe_imp hb)) fun σ H Q ⟨F, e, k⟩ => ⟨F, e, fun u F1 H1 e1 h1 => ⟨p, h1, by
    cases p with
    | true => exact ⟨rfl, F1, e.ext e1, fun v F2 H2 e2 h2 => k v F2 H2 (e1.trans e2) h2⟩
    | false => exact k _ F1 H1 e1 rfl⟩⟩
theorem de_or {p q : Bool} {pos : Pos} {rest : List Expr} (ha : DE X B Γ a rBool p) (hb : p = false → DE X B Γ (.BoolOp .Or (b :: rest) pos) rBool q) : DE X B Γ (.BoolOp .Or (a :: b :: rest) pos) rBool (p || q) :=
  pe_weak (pe_or ha (pe_imp hb)) fun σ H Q ⟨F, e, k⟩ => ⟨F, e, fun u F1 H1 e1 h1 => ⟨p, h1, by
    cases p with
    | true => exact k _ F1 H1 e1 rfl
    | false => exact ⟨rfl, F1, e.ext e1, fun v F2 H2 e2 h2 => k v F2 H2 (e1.trans e2) h2⟩⟩⟩
theorem de_not {p : Bool} {pos : Pos} (ha : DE X B Γ a rBool p) : DE X B Γ (.UnaryOp .Not a pos) rBool (!p) :=
  pe_weak (pe_not ha) fun σ H Q ⟨F, e, k⟩ => ⟨F, e, fun u F1 H1 e1 h1 => ⟨p, h1, k _ F1 H1 e1 rfl⟩⟩
theorem de_ifExp {p : Bool} {pos : Pos} {r : Rp α} {x y : α} (hc : DT X B Γ c p) (ha : p = true → DE X B Γ a r x) (hb : p = false → DE X B Γ b r y) : DE X B Γ (.IfExp c a b pos) r (if p = true then x else y) :=
  pe_weak (pe_ifExp hc (pe_imp ha) (pe_imp hb)) fun σ H Q ⟨F, e, k⟩ => ⟨F, e, fun F1 H1 e1 => by
    cases p with
    | true => exact ⟨rfl, F1, e.ext e1, fun v F2 H2 e2 h2 => k v F2 H2 (e1.trans e2) h2⟩
    | false => exact ⟨rfl, F1, e.ext e1, fun v F2 H2 e2 h2 => k v F2 H2 (e1.trans e2) h2⟩⟩
/-! argument lists -/
theorem da_nil : DA X B Γ [] [] := pa_weak pa_nil fun σ H Q ⟨F, e, k⟩ => k [] F H (Ext.refl e.same) trivial
theorem da_cons {es : List Expr} {Δ : Ctx} {r : Rp α} {x : α} (ha : DE X B Γ e r x) (hr : DA X B Γ es Δ) (hs : starEach (e :: es) X.env = (false, eval e X.env) :: starEach es X.env := by rfl) : DA X B Γ (e :: es) (.val r x :: Δ) :=
  pa_weak (pa_cons ha hr hs) fun σ H Q ⟨F, e, k⟩ => ⟨F, e, fun u F1 H1 e1 h1 => ⟨F1, e.ext e1, fun vs F2 H2 e2 h2 => k (u :: vs) F2 H2 (e1.trans e2) ⟨r.mono e2.f h1, h2⟩⟩⟩
theorem SlsOk.one {F : Hp} {vs : List V} {s : Sl} (h : SlsOk F vs [s]) : ∃ v, vs = [v] ∧ slVal F v s := match vs, h with
  | [v], h => ⟨v, rfl, h.1⟩
theorem SlsOk.two {F : Hp} {vs : List V} {s t : Sl} (h : SlsOk F vs [s, t]) : ∃ v u, vs = [v, u] ∧ slVal F v s ∧ slVal F u t := match vs, h with
  | [v, u], h => ⟨v, u, rfl, h.1, h.2.1⟩
theorem SlsOk.three {F : Hp} {vs : List V} {s t u : Sl} (h : SlsOk F vs [s, t, u]) : ∃ x y z, vs = [x, y, z] ∧ slVal F x s ∧ slVal F y t ∧ slVal F z u := match vs, h with
  | [x, y, z], h => ⟨x, y, z, rfl, h.1, h.2.1, h.2.2.1⟩
end

/-! ### promises -/
/-- a def that hands back data: ι all its arguments -/
def SpF {ι ρ : Type} (args : ι → Ctx) (pre : ι → Prop) (rr : Rp ρ) (f : ι → ρ) : Sp := fun vs H Q _ =>
  ∃ F i, Same F H ∧ SlsOk F vs (args i) ∧ pre i ∧ ∀ v F' H', Ext F H F' H' → rr.rel F' v (f i) → Q v H'
section
variable {X : Cx} {B : Bs} {Γ : Ctx} {ι ρ : Type} {args : ι → Ctx} {pre : ι → Prop} {rr : Rp ρ} {f : ι → ρ} {k : Nat} {fa : Addr} {fd : FuncData} {ps : List Str} {x : Str} {p pos : Pos} {e : Expr} {es : List Expr}
theorem de_call (i : ι) (G : FnOk X.prog X.w X.K X.mg X.base CX0 k fa fd ps (SpF args pre rr f)) (hr : Room k X.A) (hg : Gl X x) (hm : X.mg x = some (.ref fa)) (hk : PySem.W.keepIn X.K (.ref fa) = true) (hb : Binds X.K fd ps [])
    (ha : DA X B Γ (e :: es) (args i)) (hp : pre i) (hdb : (x == ("__debug__" : Str)) = false := by decide) (he : starEach (e :: es) X.env = (false, eval e X.env) :: starEach es X.env := by rfl) (hpl : (backTo pos (starEach es X.env)).any (·.1) = false := by rfl) :
    DE X B Γ (.Call (.Name x p) (e :: es) [] pos) rr (f i) :=
  pe_weak (pe_call G hr hg hm hk hb .nil pass0 ha hdb he hpl) fun σ H Q ⟨F, en, q⟩ => ⟨F, en, fun vs F1 H1 e1 h1 => by
    show SpF args pre rr f (vs ++ []) H1 Q E0
    rw [List.append_nil]
    exact ⟨F1, i, e1.i, h1, hp, fun v F2 H2 e2 h2 => q v F2 H2 (e1.trans e2) h2⟩⟩
theorem de_call0 (i : ι) (G : FnOk X.prog X.w X.K X.mg X.base CX0 k fa fd ps (SpF args pre rr f)) (hr : Room k X.A) (hg : Gl X x) (hm : X.mg x = some (.ref fa)) (hk : PySem.W.keepIn X.K (.ref fa) = true) (hb : Binds X.K fd ps [])
    (ha : args i = []) (hp : pre i) (hdb : (x == ("__debug__" : Str)) = false := by decide) :
    DE X B Γ (.Call (.Name x p) [] [] pos) rr (f i) :=
  pe_weak (pe_call0 G hr hg hm hk hb .nil pass0 hdb) fun σ H Q ⟨F, en, q⟩ => by
    show SpF args pre rr f ([] ++ []) H Q E0
    refine ⟨F, i, en.same, ?_, hp, fun v F2 H2 e2 h2 => q v F2 H2 e2 h2⟩
    rw [ha]; trivial
end

/-! ### statements -/
/-- what is handed back is res -/
def RtOk {ρ : Type} (B : Bs) (rr : Rp ρ) (res : ρ) (D : Ends) : Prop := ∀ v F' H', Ext B.F B.H F' H' → rr.rel F' v res → D.rt v H'
section
variable {X : Cx} {α β γ ρ : Type} {B : Bs} {Γ Γ' Γ1 Γ2 : Ctx} {e a b c : Expr} {D : Ends} {st : Stmt} {rest ss body orelse : List Stmt} {pos : Pos}
/-- a statement, then the rest -/
theorem sd_cons {t : TS} (h : PS X st t) (ht : ∀ D' : Ends, Le { D with nx := EnvP B Γ' } D' → ∀ σ H, EnvP B Γ σ H → t D' σ H) (hr : SD X B Γ' rest D) : SD X B Γ (st :: rest) D :=
  pss_weak (pss_cons h hr) fun D' σ H ⟨hD, he⟩ => ht { D' with nx := tS B Γ' D D' } ⟨fun σ' H' h' => ⟨hD, h'⟩, hD.rt, hD.bk, hD.ct⟩ σ H he
theorem sd_nil (h : ∀ σ H, EnvP B Γ σ H → D.nx σ H) : SD X B Γ [] D := pss_weak pss_nil fun D' σ H ⟨hD, he⟩ => hD.nx σ H (h σ H he)
theorem sd_env (h : ∀ σ H, EnvP B Γ σ H → EnvP B Γ' σ H) (k : SD X B Γ' ss D) : SD X B Γ ss D := pss_weak k fun D' σ H ⟨hD, he⟩ => ⟨hD, h σ H he⟩
theorem sd_le {D0 : Ends} (l : Le D0 D) (k : SD X B Γ ss D0) : SD X B Γ ss D := pss_weak k fun D' σ H ⟨hD, he⟩ => ⟨⟨fun σ H h => hD.nx σ H (l.nx σ H h), fun σ H h => hD.rt σ H (l.rt σ H h), fun σ H h => hD.bk σ H (l.bk σ H h), fun σ H h => hD.ct σ H (l.ct σ H h)⟩, he⟩
/-- x = e -/
theorem sd_asg {i : Nat} {x : Str} {pos' : Pos} {r : Rp α} {v : α} (he : DE X B Γ e r v) (hN : X.N.Nodup) (hi : X.N[i]? = some x) (hx : Loc X.env.scope x) (hf : X.fn x = true ∨ X.env.scope.names.lookup x = some .local) (t : To Γ i (.val r v) Γ')
    (hr : SD X B Γ' rest D) (hs : swapsWith e (some (.Name x pos')) pos.line X.env = pure false := by rfl) : SD X B Γ (.Assign [.Name x pos'] e pos :: rest) D :=
  sd_cons (ps_set hN hi hx he hs hf) (fun D' l σ H ⟨F, en⟩ => ⟨F, en, fun u F' H' e1 h1 => l.nx _ _ ⟨F', (en.ext e1).put t h1⟩⟩) hr
theorem sd_ret {rr : Rp ρ} {res v : ρ} (hD : RtOk B rr res D) (he : DE X B Γ e rr v) (hv : v = res) : SD X B Γ [.Return (some e) pos] D :=
  pss_weak (pss_one (ps_ret he)) fun D' σ H ⟨hd, F, en⟩ => by
    subst hv
    exact ⟨F, en, fun u F' H' e1 h1 => hd.rt _ _ (hD u F' H' (en.base.trans e1) h1)⟩
/-- what follows is never reached -/
theorem sd_retC {rr : Rp ρ} {res v : ρ} (hD : RtOk B rr res D) (he : DE X B Γ e rr v) (hv : v = res) : SD X B Γ (.Return (some e) pos :: rest) D :=
  pss_weak (pss_cons (ps_ret he) pss_never) fun D' σ H ⟨hd, F, en⟩ => by
    subst hv
    exact ⟨F, en, fun u F' H' e1 h1 => hd.rt _ _ (hD u F' H' (en.base.trans e1) h1)⟩
def tImpS (p : Prop) (t : TS) : TS := fun D σ H => p ∧ t D σ H
theorem pss_imp {p : Prop} {t : TS} (h : p → PSs X ss t) : PSs X ss (tImpS p t) := ⟨fun pins s σ H D I q => (h q.1).run pins s σ H D I q.2⟩
/-- if: the body ends otherwise (return, continue) -/
theorem sd_ifT {p : Bool} (hc : DT X B Γ c p) (h1 : p = true → SD X B Γ body { D with nx := fun _ _ => False }) (h2 : p = false → SD X B Γ rest D) : SD X B Γ (.If c body [] pos :: rest) D := by
  refine pss_weak (pss_cons (ps_if hc (pss_imp h1) pss_nil) (pss_imp h2)) fun D' σ H ⟨hd, F, en⟩ => ?_
  refine ⟨F, en, fun F1 H1 e1 => ?_⟩
  cases p with
  | true =>
    rw [if_pos rfl]
    exact ⟨rfl, ⟨fun _ _ z => z.elim, hd.rt, hd.bk, hd.ct⟩, F1, en.ext e1⟩
  | false =>
    rw [if_neg (by decide)]
    exact ⟨rfl, hd, F1, en.ext e1⟩
/-- if, else: both go on, what follows is shown once -/
theorem sd_ifJ {p : Bool} (Γj : Bool → Ctx) (hc : DT X B Γ c p) (h1 : p = true → SD X B Γ body { D with nx := EnvP B (Γj true) }) (h2 : p = false → SD X B Γ orelse { D with nx := EnvP B (Γj false) }) (h3 : SD X B (Γj p) rest D) :
    SD X B Γ (.If c body orelse pos :: rest) D := by
  refine pss_weak (pss_cons (ps_if hc (pss_imp h1) (pss_imp h2)) h3) fun D' σ H ⟨hd, F, en⟩ => ?_
  refine ⟨F, en, fun F1 H1 e1 => ?_⟩
  cases p with
  | true =>
    rw [if_pos rfl]
    exact ⟨rfl, ⟨fun σ H z => ⟨hd, z⟩, hd.rt, hd.bk, hd.ct⟩, F1, en.ext e1⟩
  | false =>
    rw [if_neg (by decide)]
    exact ⟨rfl, ⟨fun σ H z => ⟨hd, z⟩, hd.rt, hd.bk, hd.ct⟩, F1, en.ext e1⟩
/-- if, else at the end of a block, both ways to the ends -/
theorem sd_ifE {p : Bool} (hc : DT X B Γ c p) (h1 : p = true → SD X B Γ body D) (h2 : p = false → SD X B Γ orelse D) : SD X B Γ [.If c body orelse pos] D := by
  refine pss_weak (pss_one (ps_if hc (pss_imp h1) (pss_imp h2))) fun D' σ H ⟨hd, F, en⟩ => ?_
  refine ⟨F, en, fun F1 H1 e1 => ?_⟩
  cases p with
  | true =>
    rw [if_pos rfl]
    exact ⟨rfl, hd, F1, en.ext e1⟩
  | false =>
    rw [if_neg (by decide)]
    exact ⟨rfl, hd, F1, en.ext e1⟩
/-- if, else: the body ends otherwise -/
theorem sd_ifTE {p : Bool} (hc : DT X B Γ c p) (h1 : p = true → SD X B Γ body { D with nx := fun _ _ => False }) (h2 : p = false → SD X B Γ orelse { D with nx := EnvP B Γ1 }) (h3 : p = false → SD X B Γ1 rest D) : SD X B Γ (.If c body orelse pos :: rest) D := by
  refine pss_weak (pss_cons (ps_if hc (pss_imp h1) (pss_imp h2)) (pss_imp h3)) fun D' σ H ⟨hd, F, en⟩ => ?_
  refine ⟨F, en, fun F1 H1 e1 => ?_⟩
  cases p with
  | true =>
    rw [if_pos rfl]
    exact ⟨rfl, ⟨fun _ _ z => z.elim, hd.rt, hd.bk, hd.ct⟩, F1, en.ext e1⟩
  | false =>
    rw [if_neg (by decide)]
    exact ⟨rfl, ⟨fun σ H z => ⟨rfl, hd, z⟩, hd.rt, hd.bk, hd.ct⟩, F1, en.ext e1⟩
end
end DL
namespace DL
open PySem L2

/-! ### things that lean on no heap -/
def Sc {α : Type} (r : Rp α) : Prop := ∀ F F' v a, r.rel F v a → r.rel F' v a
theorem sc_int : Sc rInt := fun _ _ _ _ h => h
theorem sc_bool : Sc rBool := fun _ _ _ _ h => h
theorem sc_txt : Sc rTxt := fun _ _ _ _ h => h
theorem sc_non : Sc rNon := fun _ _ _ _ h => h

/-! ### a new list (its items stand still); a thing all new -/
def tDM {α : Type} (B : Bs) (Γ : Ctx) (r : Rp α) (as : List α) : TE := fun σ H Q => ∃ F, Env B Γ σ F H ∧ ∀ p vs F' H', Ext F H F' H' → F' p = none → H p = none → H' p = some (.lst vs) → Rl (r.rel F') vs as → Q (.ref p) H'
abbrev DM {α : Type} (X : Cx) (B : Bs) (Γ : Ctx) (e : Expr) (r : Rp α) (as : List α) : Prop := PE X e (tDM B Γ r as)
def tDN {α : Type} (B : Bs) (Γ : Ctx) (r : Rp α) (a : α) : TE := fun σ H Q => ∃ F, Env B Γ σ F H ∧ ∀ v G H', Same H H' → Same G H' → (∀ b, G b ≠ none → H b = none) → r.rel G v a → Q v H'
abbrev DN {α : Type} (X : Cx) (B : Bs) (Γ : Ctx) (e : Expr) (r : Rp α) (a : α) : Prop := PE X e (tDN B Γ r a)
/-- F with the new part -/
def join (F G : Hp) : Hp := fun b => match G b with | some o => some o | none => F b
theorem join_ext {F H G H' : Hp} (s : Same F H) (e : Same H H') (g : Same G H') (n : ∀ b, G b ≠ none → H b = none) : Ext F H (join F G) H' ∧ Same G (join F G) := by
  have hn : ∀ b o, H b = some o → G b = none := fun b o q => by
    cases z : G b with
    | none => rfl
    | some u => rw [n b (by rw [z]; intro w; cases w)] at q; cases q
  refine ⟨⟨fun b o q => ?_, e, fun b o q => ?_, fun b hf hh => ?_⟩, fun b o q => ?_⟩
  · unfold join; rw [hn b o (s b o q)]; exact q
  · unfold join at q
    cases z : G b with
    | none => rw [z] at q; exact e b o (s b o q)
    | some u => rw [z] at q; exact g b o (by rw [z]; exact q)
  · unfold join
    cases z : H b with
    | none => exact absurd z hh
    | some u => rw [hn b u z]; exact hf
  · unfold join; rw [q]
section
variable {X : Cx} {α β γ : Type} {B : Bs} {Γ Γ' : Ctx} {e a b c : Expr}
theorem de_of_dn {r : Rp α} {x : α} (h : DN X B Γ e r x) : DE X B Γ e r x := pe_weak h fun σ H Q ⟨F, en, k⟩ => ⟨F, en, fun v G H' h1 h2 h3 h4 =>
  let ⟨q1, q2⟩ := join_ext en.same h1 h2 h3
  k v (join F G) H' q1 (r.mono q2 h4)⟩
theorem same_upd {F H : Hp} {p : Addr} {o : HO} (s : Same F H) (hp : H p = some o) : Same (upd F p o) H := fun b u q => by
  by_cases e : b = p
  · subst e; rw [upd_same] at q; rw [hp]; exact q
  · rw [upd_ne e] at q; exact s b u q
theorem same_new {F : Hp} {p : Addr} {o : HO} (hp : F p = none) : Same F (upd F p o) := fun b u q => by rw [upd_ne (ne_of_none q hp)]; exact q
theorem de_of_dm {r : Rp α} {xs : List α} (h : DM X B Γ e r xs) : DE X B Γ e (rList r) xs := pe_weak h fun σ H Q ⟨F, en, k⟩ => ⟨F, en, fun p vs F' H' h1 h2 h3 h4 h5 =>
  k (.ref p) (upd F' p (.lst vs)) H' ⟨h1.f.trans (same_new h2), h1.h, same_upd h1.i h4, fun b hf hh => by
    have hb : b ≠ p := fun z => hh (by rw [z]; exact h3)
    rw [upd_ne hb]; exact h1.d b hf hh⟩ ⟨p, vs, rfl, upd_same, Rl.imp (fun _ _ => r.mono (same_new h2)) h5⟩⟩
theorem dn_of_dm {r : Rp α} {xs : List α} (sc : Sc r) (h : DM X B Γ e r xs) : DN X B Γ e (rList r) xs := pe_weak h fun σ H Q ⟨F, en, k⟩ => ⟨F, en, fun p vs F' H' h1 h2 h3 h4 h5 =>
  k (.ref p) (upd (fun _ => none) p (.lst vs)) H' h1.h (same_upd (fun b u q => by cases q) h4) (fun b hb => by
    by_cases z : b = p
    · rw [z]; exact h3
    · rw [upd_ne z] at hb; exact absurd rfl hb) ⟨p, vs, rfl, upd_same, Rl.imp (fun v a => sc _ _ v a) h5⟩⟩
theorem dn_of_sc {r : Rp α} {x : α} (sc : Sc r) (h : DE X B Γ e r x) : DN X B Γ e r x := pe_weak h fun σ H Q ⟨F, en, k⟩ => ⟨F, en, fun v F' H' h1 h2 =>
  k v (fun _ => none) H' h1.h (fun b u q => by cases q) (fun b hb => absurd rfl hb) (sc _ _ v x h2)⟩
theorem dm_eq {r : Rp α} {x y : List α} (h : DM X B Γ e r x) (q : x = y) : DM X B Γ e r y := q ▸ h
theorem dn_eq {r : Rp α} {x y : α} (h : DN X B Γ e r x) (q : x = y) : DN X B Γ e r y := q ▸ h

/-! ### own slots -/
/-- a list that is one's own: its items stand still -/
def oList (r : Rp α) : Own (List α) := ⟨fun F H v as fp => ∃ p vs, v = .ref p ∧ fp = (fun b => b = p) ∧ H p = some (.lst vs) ∧ Rl (r.rel F) vs as,
  fun {F F' H H' v a fp} e k ⟨p, vs, h1, h2, h3, h4⟩ => ⟨p, vs, h1, h2, by rw [k p (by rw [h2])]; exact h3, Rl.imp (fun _ _ => r.mono e) h4⟩⟩
/-- what is one's own, made to stand still, is r -/
def Frz {α : Type} (o : Own α) (r : Rp α) : Prop := ∀ F H v a fp, (∀ b, fp b → F b = none) → o.rel F H v a fp → ∃ G : Hp, (∀ b u, G b = some u → fp b ∧ H b = some u) ∧ r.rel (join F G) v a
theorem frz_list (r : Rp α) : Frz (oList r) (rList r) := fun F H v a fp hn ⟨p, vs, h1, h2, h3, h4⟩ => by
  subst h2
  refine ⟨upd (fun _ => none) p (.lst vs), fun b u q => ?_, p, vs, h1, ?_, ?_⟩
  · by_cases z : b = p
    · subst z; rw [upd_same] at q; exact ⟨rfl, h3.trans q⟩
    · rw [upd_ne z] at q; cases q
  · unfold join; rw [upd_same]
  · refine Rl.imp (fun _ _ => r.mono fun b u q => ?_) h4
    have z : b ≠ p := fun z => by rw [z, hn p rfl] at q; cases q
    unfold join; rw [upd_ne z]; exact q
/-- a thing whose whole is one's own -/
def oAll (r : Rp α) : Own α := ⟨fun F H v a fp => ∃ G : Hp, (∀ b u, G b = some u → fp b ∧ H b = some u) ∧ r.rel G v a,
  fun {F F' H H' v a fp} e k ⟨G, h1, h2⟩ => ⟨G, fun b u q => ⟨(h1 b u q).1, by rw [k b (h1 b u q).1]; exact (h1 b u q).2⟩, h2⟩⟩
theorem frz_all (r : Rp α) : Frz (oAll r) r := fun F H v a fp hn ⟨G, h1, h2⟩ => ⟨G, h1, r.mono (fun b u q => by unfold join; rw [q]) h2⟩
/-- an own slot that stands still from now on -/
theorem EnvF.freeze {Γp : Ctx} {σ : St} {F H : Hp} {fp : Nat → Addr → Prop} {i : Nat} {o : Own α} {r : Rp α} {a : α} (h : EnvF B Γ σ F H fp) (fz : Frz o r) (at_ : At Γ i (.own o a)) (t : To Γ i (.val r a) Γp) :
    ∃ F', Same F F' ∧ Env B Γp σ F' H := by
  obtain ⟨⟨v, hv, hr⟩, hn⟩ := h.ok i _ at_.get
  obtain ⟨G, g1, g2⟩ := fz F H v a _ (fun b hb => (hn b hb).1) hr
  have s1 : Same F (join F G) := fun b u q => by
    have z : G b = none := by
      cases z : G b with
      | none => rfl
      | some w => rw [(hn b (g1 b w z).1).1] at q; cases q
    unfold join; rw [z]; exact q
  have s2 : Same (join F G) H := fun b u q => by
    unfold join at q
    cases z : G b with
    | none => rw [z] at q; exact h.same b u q
    | some w => rw [z] at q; cases q; exact (g1 b _ z).2
  refine ⟨join F G, s1, _, h.putG (fi := fun _ => False) t rfl (fun j hj => rfl) ⟨h.base.f.trans s1, h.base.h, s2, fun b hf hh => ?_⟩ s2 s1 (fun j b hj q => ⟨rfl, ?_⟩) ?_ (fun _ _ _ _ z => z)⟩
  · unfold join
    cases z : G b with
    | none => exact h.base.d b hf hh
    | some w => exact absurd (hn b (g1 b w z).1).2.2 hh
  · unfold join
    cases z : G b with
    | none => exact (h.own_at q).1
    | some w => exact absurd (g1 b w z).1 (h.apart j i hj b q)
  · exact ⟨fun _ z => z, v, hv, g2⟩
theorem EnvP.freeze {Γp : Ctx} {i : Nat} {o : Own α} {r : Rp α} {a : α} (fz : Frz o r) (at_ : At Γ i (.own o a)) (t : To Γ i (.val r a) Γp) (σ : St) (H : Hp) (h : EnvP B Γ σ H) : EnvP B Γp σ H := by
  obtain ⟨F, fp, h⟩ := h
  obtain ⟨F', _, e⟩ := h.freeze fz at_ t
  exact ⟨F', e⟩
theorem sd_freeze {Γp : Ctx} {i : Nat} {o : Own α} {r : Rp α} {a : α} {ss : List Stmt} {D : Ends} (fz : Frz o r) (at_ : At Γ i (.own o a)) (t : To Γ i (.val r a) Γp) (k : SD X B Γp ss D) : SD X B Γ ss D := sd_env (EnvP.freeze fz at_ t) k
/-- an own slot that stands still for the time of an expression whose value doesn't lean on it -/
theorem de_thaw {Γp : Ctx} {i : Nat} {o : Own α} {r : Rp α} {x : α} {s : Rp β} {y : β} (fz : Frz o r) (at_ : At Γ i (.own o x)) (t : To Γ i (.val r x) Γp) (sc : Sc s) (h : DE X B Γp e s y) : DE X B Γ e s y :=
  pe_weak h fun σ H Q ⟨F, ⟨fp, en⟩, k⟩ => by
    obtain ⟨F', s1, en'⟩ := en.freeze fz at_ t
    exact ⟨F', en', fun v F2 H2 e2 h2 => k v F H2 ⟨Same.refl F, e2.h, en.same.trans e2.h, fun b hf _ => hf⟩ (sc _ _ v y h2)⟩
theorem dt_thaw {Γp : Ctx} {i : Nat} {o : Own α} {r : Rp α} {x : α} {y : Bool} (fz : Frz o r) (at_ : At Γ i (.own o x)) (t : To Γ i (.val r x) Γp) (h : DT X B Γp e y) : DT X B Γ e y :=
  pt_weak h fun σ H Q ⟨F, ⟨fp, en⟩, k⟩ => by
    obtain ⟨F', s1, en'⟩ := en.freeze fz at_ t
    exact ⟨F', en', fun F2 H2 e2 => k F H2 ⟨Same.refl F, e2.h, en.same.trans e2.h, fun b hf _ => hf⟩⟩
theorem dn_thaw {Γp : Ctx} {i : Nat} {o : Own α} {r : Rp α} {x : α} {s : Rp β} {y : β} (fz : Frz o r) (at_ : At Γ i (.own o x)) (t : To Γ i (.val r x) Γp) (h : DN X B Γp e s y) : DN X B Γ e s y :=
  pe_weak h fun σ H Q ⟨F, ⟨fp, en⟩, k⟩ => by
    obtain ⟨F', s1, en'⟩ := en.freeze fz at_ t
    exact ⟨F', en', k⟩
theorem dm_thaw {Γp : Ctx} {i : Nat} {o : Own α} {r : Rp α} {x : α} {s : Rp β} {y : List β} (fz : Frz o r) (at_ : At Γ i (.own o x)) (t : To Γ i (.val r x) Γp) (sc : Sc s) (h : DM X B Γp e s y) : DM X B Γ e s y :=
  pe_weak h fun σ H Q ⟨F, ⟨fp, en⟩, k⟩ => by
    obtain ⟨F', s1, en'⟩ := en.freeze fz at_ t
    refine ⟨F', en', fun p vs F2 H2 e2 h2 h3 h4 h5 => k p vs F H2 ⟨Same.refl F, e2.h, en.same.trans e2.h, fun b hf _ => hf⟩ ?_ h3 h4 (Rl.imp (fun v a => sc _ _ v a) h5)⟩
    exact en.same.free h3

/-! ### items of a display -/
def tDL (B : Bs) (Γ : Ctx) (r : Rp α) (as : List α) : TA := fun σ H Q => ∃ F, Env B Γ σ F H ∧ ∀ vs F' H', Ext F H F' H' → Rl (r.rel F') vs as → Q vs H'
abbrev DL (X : Cx) (B : Bs) (Γ : Ctx) (es : List Expr) (r : Rp α) (as : List α) : Prop := PA X es (tDL B Γ r as)
theorem dl_nil {r : Rp α} : DL X B Γ [] r [] := pa_weak pa_nil fun σ H Q ⟨F, e, k⟩ => k [] F H (Ext.refl e.same) trivial
theorem dl_cons {es : List Expr} {r : Rp α} {x : α} {xs : List α} (ha : DE X B Γ e r x) (hr : DL X B Γ es r xs) (hs : starEach (e :: es) X.env = (false, eval e X.env) :: starEach es X.env := by rfl) : DL X B Γ (e :: es) r (x :: xs) :=
  pa_weak (pa_cons ha hr hs) fun σ H Q ⟨F, e, k⟩ => ⟨F, e, fun u F1 H1 e1 h1 => ⟨F1, e.ext e1, fun vs F2 H2 e2 h2 => k (u :: vs) F2 H2 (e1.trans e2) ⟨r.mono e2.f h1, h2⟩⟩⟩
theorem dm_list {es : List Expr} {r : Rp α} {xs : List α} {pos : Pos} (h : DL X B Γ es r xs) (hz : xs.length ≤ 1000000 := by first | decide | (simp; done)) : DM X B Γ (.List es pos) r xs :=
  pe_weak (pe_lst h) fun σ H Q ⟨F, en, k⟩ => ⟨F, en, fun vs F1 H1 e1 h1 => ⟨by rw [h1.length]; exact Nat.le_trans hz (by decide), fun p hp =>
    have e2 := Ext.newH e1.i (.lst vs) hp
    k p vs F1 (upd H1 p (.lst vs)) (e1.trans e2) (e1.i.free hp) (e1.h.free hp) upd_same h1⟩⟩
theorem de_tupL {es : List Expr} {r : Rp α} {xs : List α} {x1} {pos : Pos} (h : DL X B Γ es r xs) (hz : xs.length ≤ 1000000 := by first | decide | (simp; done)) : DE X B Γ (.Tuple es x1 pos) (rTup r) xs :=
  pe_weak (pe_tup h) fun σ H Q ⟨F, en, k⟩ => ⟨F, en, fun vs F1 H1 e1 h1 => ⟨by rw [h1.length]; exact Nat.le_trans hz (by decide), fun p hp =>
    have e2 := Ext.new e1.i (.tup vs) hp
    k (.ref p) _ _ (e1.trans e2) ⟨p, vs, rfl, upd_same, Rl.imp (fun _ _ => r.mono e2.f) h1⟩⟩⟩
theorem de_pair {e1 e2 : Expr} {r : Rp α} {s : Rp β} {x : α} {y : β} {x1} {pos : Pos} (h : DA X B Γ [e1, e2] [.val r x, .val s y]) : DE X B Γ (.Tuple [e1, e2] x1 pos) (rPair r s) (x, y) :=
  pe_weak (pe_tup h) fun σ H Q ⟨F, en, k⟩ => ⟨F, en, fun vs F1 H1 e1 h1 => by
    obtain ⟨u, w, rfl, h2, h3⟩ := h1.two
    refine ⟨by show 2 ≤ sizeLine; decide, fun p hp => ?_⟩
    have e2 := Ext.new e1.i (.tup [u, w]) hp
    exact k (.ref p) _ _ (e1.trans e2) ⟨p, u, w, rfl, upd_same, r.mono e2.f h2, s.mono e2.f h3⟩⟩
theorem de_tri {e1 e2 e3 : Expr} {r : Rp α} {s : Rp β} {t : Rp γ} {x : α} {y : β} {z : γ} {x1} {pos : Pos} (h : DA X B Γ [e1, e2, e3] [.val r x, .val s y, .val t z]) : DE X B Γ (.Tuple [e1, e2, e3] x1 pos) (rTri r s t) (x, y, z) :=
  pe_weak (pe_tup h) fun σ H Q ⟨F, en, k⟩ => ⟨F, en, fun vs F1 H1 e1 h1 => by
    obtain ⟨u, w, q, rfl, h2, h3, h4⟩ := h1.three
    refine ⟨by show 3 ≤ sizeLine; decide, fun p hp => ?_⟩
    have e2 := Ext.new e1.i (.tup [u, w, q]) hp
    exact k (.ref p) _ _ (e1.trans e2) ⟨p, u, w, q, rfl, upd_same, r.mono e2.f h2, s.mono e2.f h3, t.mono e2.f h4⟩⟩

/-! ### stores into own slots -/
theorem Env.putOwn {Γ' : Ctx} {σ : St} {F H F' H' : Hp} {i : Nat} {v : V} {o : Own α} {a : α} {fi : Addr → Prop} (h : Env B Γ σ F H) (t : To Γ i (.own o a) Γ') (e : Ext F H F' H') (hr : o.rel F' H' v a fi) (hn : ∀ b, fi b → F' b = none ∧ H b = none ∧ H' b ≠ none) : Env B Γ' (σ.set i (some v)) F' H' := by
  obtain ⟨fp, h⟩ := h
  have hi : i < σ.length := by rw [h.len]; exact t.set.2
  have kp : ∀ j b, fp j b → H' b = H b := fun j b q => by
    have z := (h.own_at q).2.1
    cases w : H b with
    | none => exact absurd w z
    | some u => exact e.h b u w
  refine ⟨_, h.putG (fi := fi) t (by simp) (fun j hj => List.getElem?_set_ne fun z => hj z.symm) (h.base.trans e) e.i e.f (fun j b _ q => ⟨kp j b q, e.d b (h.own_at q).1 (h.own_at q).2.1⟩) ?_ (fun j b _ q z => (h.own_at q).2.1 (hn b z).2.1)⟩
  rw [List.getElem?_set_self hi]
  exact ⟨⟨v, rfl, hr⟩, fun b hb => ⟨(hn b hb).1, (hn b hb).2.2, h.base.h.free (hn b hb).2.1⟩⟩
end

/-! ### the words with the context's facts -/
section
variable {P : Program} {w : World} {K : PySem.W.Frag} {mg : Str → Option Value} {base : Heap} {k : Nat} {N : List Str} {sc : Scope} {vs ls : List Nat} {X : Cx} {α β γ : Type} {B : Bs} {Γ Γ' : Ctx} {e a b : Expr} {D : Ends} {rest ss : List Stmt} {pos : Pos}
theorem c_var (c : XC P w K mg base k N sc vs ls X) (i : Nat) {x : Str} {r : Rp α} {v : α} (h : At Γ i (.val r v)) (hN : N[i]? = some x := by rfl) (hv : vs.contains i = true := by rfl) (hd : (x == ("__debug__" : Str)) = false := by decide) (hcd : (x == ("__classdict__" : Str)) = false := by decide) : DE X B Γ (.Name x pos) r v :=
  have hN' : X.N[i]? = some x := by rw [c.N]; exact hN
  de_var i hN' (c.vis i x hN' hv) h hd hcd
/-- x = e; the value gets a name -/
theorem c_asg (c : XC P w K mg base k N sc vs ls X) (i : Nat) {x : Str} {pos' : Pos} {r : Rp α} {v : α} {Γ' : α → Ctx} (he : DE X B Γ e r v) (t : ∀ a, To Γ i (.val r a) (Γ' a)) (hr : ∀ a, a = v → SD X B (Γ' a) rest D)
    (hN : N[i]? = some x := by rfl) (hl : ls.contains i = true := by rfl) (hs : swapsWith e (some (.Name x pos')) pos.line X.env = pure false := by rfl) : SD X B Γ (.Assign [.Name x pos'] e pos :: rest) D :=
  have hN' : X.N[i]? = some x := by rw [c.N]; exact hN
  sd_asg he c.nd hN' (c.loc i x hN' hl).1 (c.loc i x hN' hl).2 (t v) (hr v rfl) hs
theorem sd_asgO {i : Nat} {x : Str} {pos' : Pos} {te : TE} {o : Own α} {v : α} (he : PE X e te) (hN : X.N.Nodup) (hi : X.N[i]? = some x) (hx : Loc X.env.scope x) (hf : X.fn x = true ∨ X.env.scope.names.lookup x = some .local)
    (hte : ∀ σ F H Q, Env B Γ σ F H → (∀ u F' H' fi, Ext F H F' H' → o.rel F' H' u v fi → (∀ b, fi b → F' b = none ∧ H b = none ∧ H' b ≠ none) → Q u H') → te σ H Q) (t : To Γ i (.own o v) Γ')
    (hr : SD X B Γ' rest D) (hs : swapsWith e (some (.Name x pos')) pos.line X.env = pure false := by rfl) : SD X B Γ (.Assign [.Name x pos'] e pos :: rest) D :=
  sd_cons (ps_set hN hi hx he hs hf) (fun D' l σ H ⟨F, en⟩ => hte σ F H _ en fun u F' H' fi e1 h1 h2 => l.nx _ _ ⟨F', en.putOwn t e1 h1 h2⟩) hr
/-- x = a new list that will change -/
theorem c_asgM (c : XC P w K mg base k N sc vs ls X) (i : Nat) {x : Str} {pos' : Pos} {r : Rp α} {v : List α} {Γ' : List α → Ctx} (he : DM X B Γ e r v) (t : ∀ a, To Γ i (.own (oList r) a) (Γ' a)) (hr : ∀ a, a = v → SD X B (Γ' a) rest D)
    (hN : N[i]? = some x := by rfl) (hl : ls.contains i = true := by rfl) (hs : swapsWith e (some (.Name x pos')) pos.line X.env = pure false := by rfl) : SD X B Γ (.Assign [.Name x pos'] e pos :: rest) D :=
  have hN' : X.N[i]? = some x := by rw [c.N]; exact hN
  sd_asgO (o := oList r) he c.nd hN' (c.loc i x hN' hl).1 (c.loc i x hN' hl).2 (fun σ F H Q en q => ⟨F, en, fun p vs F' H' e1 h1 h2 h3 h4 => q (.ref p) F' H' (fun b => b = p) e1 ⟨p, vs, rfl, rfl, h3, h4⟩ (fun b hb => by subst hb; exact ⟨h1, h2, by rw [h3]; intro z; cases z⟩)⟩) (t v) (hr v rfl) hs
/-- x = a new thing that will change -/
theorem c_asgN (c : XC P w K mg base k N sc vs ls X) (i : Nat) {x : Str} {pos' : Pos} {r : Rp α} {v : α} {Γ' : α → Ctx} (he : DN X B Γ e r v) (t : ∀ a, To Γ i (.own (oAll r) a) (Γ' a)) (hr : ∀ a, a = v → SD X B (Γ' a) rest D)
    (hN : N[i]? = some x := by rfl) (hl : ls.contains i = true := by rfl) (hs : swapsWith e (some (.Name x pos')) pos.line X.env = pure false := by rfl) : SD X B Γ (.Assign [.Name x pos'] e pos :: rest) D :=
  have hN' : X.N[i]? = some x := by rw [c.N]; exact hN
  sd_asgO (o := oAll r) he c.nd hN' (c.loc i x hN' hl).1 (c.loc i x hN' hl).2 (fun σ F H Q en q => ⟨F, en, fun u G H' s1 s2 s3 h4 => q u F H' (fun b => G b ≠ none) ⟨Same.refl F, s1, en.same.trans s1, fun b hf _ => hf⟩
    ⟨G, fun b u q => ⟨(by show G b ≠ none; rw [q]; intro z; cases z), s2 b u q⟩, h4⟩ (fun b hb => ⟨en.same.free (s3 b hb), s3 b hb, by
      cases z : G b with
      | none => exact absurd z hb
      | some o => rw [s2 b o z]; intro z; cases z⟩)⟩) (t v) (hr v rfl) hs
end
end DL
namespace DL
open PySem L2 PySem.Spec PyProof.Rows

/-! ### a def of the text, as it may be called -/
def FN (P : Program) (w : World) (K : PySem.W.Frag) (mg : Str → Option Value) (base : Heap) (CX : CXT) (k : Nat) (x : Str) (ps : List Str) (sp : Sp) : Prop :=
  ∃ fa fd, FnOk P w K mg base CX k fa fd ps sp ∧ mg x = some (.ref fa) ∧ PySem.W.keepIn K (.ref fa) = true ∧ Binds K fd ps [] ∧ ∃ o od sl, K.lookup fa = some ⟨o, od, .func fd, sl⟩
theorem fun_look {K : PySem.W.Frag} {x q : Str} {st : Stmt} {f : Addr} {fd : FuncData} (F : Fun K x q st f fd) : ∃ o od sl, K.lookup f = some ⟨o, od, .func fd, sl⟩ := by
  obtain ⟨dV, oc, od, kV, doc, pm, an, cdv, ct, osl, rfl, lk, _⟩ := F.ex
  exact ⟨_, _, _, lk⟩
/-- a def as the top has left it -/
def FT (K : PySem.W.Frag) (mg : Str → Option Value) (x q : Str) (st : Stmt) (ps : List Str) : Prop :=
  ∃ fa fd, Fun K x q st fa fd ∧ mg x = some (.ref fa) ∧ Binds K fd ps []
def glB (sc : Scope) (x : Str) : Bool := match sc.names.lookup x with | some .globalImplicit => true | _ => false
theorem gl_of {sc : Scope} {x : Str} {X : Cx} (hs : X.env.scope = sc) (h : glB sc x = true) : Gl X x := by
  unfold glB at h
  show X.env.scope.names.lookup x = some .globalImplicit
  rw [hs]
  split at h
  · assumption
  · cases h
def visB (N : List Str) (sc : Scope) (vs : List Nat) : Bool := vs.all fun i => match N[i]? with
  | some x => (match sc.names.lookup x with | some .local => true | some .cell => true | some .free => true | _ => false)
  | none => false
def locB (N : List Str) (sc : Scope) (vs : List Nat) : Bool := vs.all fun i => match N[i]? with
  | some x => (match sc.names.lookup x with | some .local => true | some .cell => true | _ => false)
  | none => false
theorem vis_of {N : List Str} {sc : Scope} {vs : List Nat} (h : visB N sc vs = true) (i : Nat) (x : Str) (hN : N[i]? = some x) (hv : vs.contains i = true) : Vis sc x := by
  have q := List.all_eq_true.mp h i (by simpa using hv)
  rw [hN] at q
  dsimp only at q
  unfold Vis
  split at q
  · exact .inl (by assumption)
  · exact .inr (.inl (by assumption))
  · exact .inr (.inr (by assumption))
  · cases q
theorem loc_of {N : List Str} {sc : Scope} {vs : List Nat} (h : locB N sc vs = true) (i : Nat) (x : Str) (hN : N[i]? = some x) (hv : vs.contains i = true) : L2.Loc sc x := by
  have q := List.all_eq_true.mp h i (by simpa using hv)
  rw [hN] at q
  dsimp only at q
  unfold L2.Loc
  split at q
  · exact .inl (by assumption)
  · exact .inr (by assumption)
  · cases q

/-! ### promises -/
def SpM {ι ρ : Type} (args : ι → Ctx) (pre : ι → Prop) (r : Rp ρ) (f : ι → List ρ) : Sp := fun vs H Q _ =>
  ∃ F i, Same F H ∧ SlsOk F vs (args i) ∧ pre i ∧ ∀ p vs F' H', Ext F H F' H' → F' p = none → H p = none → H' p = some (.lst vs) → Rl (r.rel F') vs (f i) → Q (.ref p) H'
def SpN {ι ρ : Type} (args : ι → Ctx) (pre : ι → Prop) (rr : Rp ρ) (f : ι → ρ) : Sp := fun vs H Q _ =>
  ∃ F i, Same F H ∧ SlsOk F vs (args i) ∧ pre i ∧ ∀ v G H', Same H H' → Same G H' → (∀ b, G b ≠ none → H b = none) → rr.rel G v (f i) → Q v H'
def RtM {ρ : Type} (B : Bs) (r : Rp ρ) (res : List ρ) (D : Ends) : Prop := ∀ p vs F' H', Ext B.F B.H F' H' → F' p = none → B.H p = none → H' p = some (.lst vs) → Rl (r.rel F') vs res → D.rt (.ref p) H'
def RtN {ρ : Type} (B : Bs) (rr : Rp ρ) (res : ρ) (D : Ends) : Prop := ∀ v G H', Same B.H H' → Same G H' → (∀ b, G b ≠ none → B.H b = none) → rr.rel G v res → D.rt v H'
section
variable {P : Program} {w : World} {K : PySem.W.Frag} {mg : Str → Option Value} {base : Heap} {k j : Nat} {N : List Str} {sc : Scope} {vs ls : List Nat} {X : Cx} {α β γ ι ρ : Type} {B : Bs} {Γ Γ' : Ctx} {e a b : Expr} {es : List Expr} {D : Ends} {rest ss : List Stmt} {p pos : Pos}
variable {args : ι → Ctx} {pre : ι → Prop} {ps : List Str} {x : Str}
theorem c_call (c : XC P w K mg base k N sc vs ls X) {rr : Rp ρ} {f : ι → ρ} (h : FN P w K mg base CX0 j x ps (SpF args pre rr f)) (i : ι) (ha : DA X B Γ (e :: es) (args i)) (hp : pre i) (hj : j ≤ k := by decide) (hg : glB sc x = true := by decide +kernel)
    (hdb : (x == ("__debug__" : Str)) = false := by decide) (he : starEach (e :: es) X.env = (false, eval e X.env) :: starEach es X.env := by rfl) (hpl : (backTo pos (starEach es X.env)).any (·.1) = false := by rfl) :
    DE X B Γ (.Call (.Name x p) (e :: es) [] pos) rr (f i) := by
  obtain ⟨fa, fd, G, h1, h2, h3⟩ := h
  have G' : FnOk X.prog X.w X.K X.mg X.base CX0 j fa fd ps (SpF args pre rr f) := by rw [c.p, c.w, c.K, c.mg, c.b]; exact G
  exact de_call i G' (c.room.mono hj) (gl_of c.sc hg) (by rw [c.mg]; exact h1) (by rw [c.K]; exact h2) (by rw [c.K]; exact h3.1) ha hp hdb he hpl
theorem c_call0 (c : XC P w K mg base k N sc vs ls X) {rr : Rp ρ} {f : ι → ρ} (h : FN P w K mg base CX0 j x ps (SpF args pre rr f)) (i : ι) (ha : args i = []) (hp : pre i) (hj : j ≤ k := by decide) (hg : glB sc x = true := by decide +kernel)
    (hdb : (x == ("__debug__" : Str)) = false := by decide) :
    DE X B Γ (.Call (.Name x p) [] [] pos) rr (f i) := by
  obtain ⟨fa, fd, G, h1, h2, h3⟩ := h
  have G' : FnOk X.prog X.w X.K X.mg X.base CX0 j fa fd ps (SpF args pre rr f) := by rw [c.p, c.w, c.K, c.mg, c.b]; exact G
  exact de_call0 i G' (c.room.mono hj) (gl_of c.sc hg) (by rw [c.mg]; exact h1) (by rw [c.K]; exact h2) (by rw [c.K]; exact h3.1) ha hp hdb
theorem c_callG (c : XC P w K mg base k N sc vs ls X) {sp : Sp} (h : FN P w K mg base CX0 j x ps sp) {t : TA} (ha : PA X (e :: es) t) (hj : j ≤ k) (hg : glB sc x = true)
    (hdb : (x == ("__debug__" : Str)) = false) (he : starEach (e :: es) X.env = (false, eval e X.env) :: starEach es X.env) (hpl : (backTo pos (starEach es X.env)).any (·.1) = false) :
    PE X (.Call (.Name x p) (e :: es) [] pos) (tCall sp [] E0 t) := by
  obtain ⟨fa, fd, G, h1, h2, h3⟩ := h
  have G' : FnOk X.prog X.w X.K X.mg X.base CX0 j fa fd ps sp := by rw [c.p, c.w, c.K, c.mg, c.b]; exact G
  exact pe_call G' (c.room.mono hj) (gl_of c.sc hg) (by rw [c.mg]; exact h1) (by rw [c.K]; exact h2) (by rw [c.K]; exact h3.1) .nil pass0 ha hdb he hpl
theorem c_callM (c : XC P w K mg base k N sc vs ls X) {r : Rp ρ} {f : ι → List ρ} (h : FN P w K mg base CX0 j x ps (SpM args pre r f)) (i : ι) (ha : DA X B Γ (e :: es) (args i)) (hp : pre i) (hj : j ≤ k := by decide) (hg : glB sc x = true := by decide +kernel)
    (hdb : (x == ("__debug__" : Str)) = false := by decide) (he : starEach (e :: es) X.env = (false, eval e X.env) :: starEach es X.env := by rfl) (hpl : (backTo pos (starEach es X.env)).any (·.1) = false := by rfl) :
    DM X B Γ (.Call (.Name x p) (e :: es) [] pos) r (f i) :=
  pe_weak (c_callG c h ha hj hg hdb he hpl) fun σ H Q ⟨F, en, q⟩ => ⟨F, en, fun vs F1 H1 e1 h1 => by
    show SpM args pre r f (vs ++ []) H1 Q E0
    rw [List.append_nil]
    exact ⟨F1, i, e1.i, h1, hp, fun p us F2 H2 e2 h2 h3 h4 h5 => q p us F2 H2 (e1.trans e2) h2 (e1.h.free h3) h4 h5⟩⟩
theorem c_callN (c : XC P w K mg base k N sc vs ls X) {rr : Rp ρ} {f : ι → ρ} (h : FN P w K mg base CX0 j x ps (SpN args pre rr f)) (i : ι) (ha : DA X B Γ (e :: es) (args i)) (hp : pre i) (hj : j ≤ k := by decide) (hg : glB sc x = true := by decide +kernel)
    (hdb : (x == ("__debug__" : Str)) = false := by decide) (he : starEach (e :: es) X.env = (false, eval e X.env) :: starEach es X.env := by rfl) (hpl : (backTo pos (starEach es X.env)).any (·.1) = false := by rfl) :
    DN X B Γ (.Call (.Name x p) (e :: es) [] pos) rr (f i) :=
  pe_weak (c_callG c h ha hj hg hdb he hpl) fun σ H Q ⟨F, en, q⟩ => ⟨F, en, fun vs F1 H1 e1 h1 => by
    show SpN args pre rr f (vs ++ []) H1 Q E0
    rw [List.append_nil]
    exact ⟨F1, i, e1.i, h1, hp, fun v G H2 s1 s2 s3 h2 => q v G H2 (e1.h.trans s1) s2 (fun b hb => e1.h.free (s3 b hb)) h2⟩⟩
/-! what a def hands back -/
theorem sd_retM {r : Rp ρ} {res v : List ρ} (hD : RtM B r res D) (he : DM X B Γ e r v) (hv : v = res) : SD X B Γ (.Return (some e) pos :: rest) D :=
  pss_weak (pss_cons (ps_ret he) pss_never) fun D' σ H ⟨hd, F, en⟩ => by
    subst hv
    exact ⟨F, en, fun p us F' H' e1 h1 h2 h3 h4 => hd.rt _ _ (hD p us F' H' (en.base.trans e1) h1 (en.base.h.free h2) h3 h4)⟩
theorem sd_retN {rr : Rp ρ} {res v : ρ} (hD : RtN B rr res D) (he : DN X B Γ e rr v) (hv : v = res) : SD X B Γ (.Return (some e) pos :: rest) D :=
  pss_weak (pss_cons (ps_ret he) pss_never) fun D' σ H ⟨hd, F, en⟩ => by
    subst hv
    exact ⟨F, en, fun v G H' s1 s2 s3 h4 => hd.rt _ _ (hD v G H' (en.base.h.trans s1) s2 (fun b hb => en.base.h.free (s3 b hb)) h4)⟩
/-- return of an own list's name -/
theorem c_retO (c : XC P w K mg base k N sc vs ls X) (i : Nat) {r : Rp ρ} {res v : List ρ} (hD : RtM B r res D) (h : At Γ i (.own (oList r) v)) (hv : v = res) (hN : N[i]? = some x := by rfl) (hvs : vs.contains i = true := by rfl)
    (hd : (x == ("__debug__" : Str)) = false := by decide) (hcd : (x == ("__classdict__" : Str)) = false := by decide) : SD X B Γ (.Return (some (.Name x p)) pos :: rest) D := by
  have hN' : X.N[i]? = some x := by rw [c.N]; exact hN
  refine pss_weak (pss_cons (ps_ret (pe_var hN' (c.vis i x hN' hvs) hd hcd)) pss_never) fun D' σ H ⟨hd, F, fp, en⟩ => ?_
  obtain ⟨⟨u, hu, p, us, h1, h2, h3, h4⟩, hn⟩ := en.ok i _ h.get
  subst hv
  subst h1
  have z := hn p (by rw [h2])
  exact ⟨_, hu, hd.rt _ _ (hD p us F H en.base z.1 z.2.2 h3 h4)⟩
theorem c_retNO (c : XC P w K mg base k N sc vs ls X) (i : Nat) {r : Rp ρ} {res v : ρ} (hD : RtN B r res D) (h : At Γ i (.own (oAll r) v)) (hv : v = res) (hN : N[i]? = some x := by rfl) (hvs : vs.contains i = true := by rfl)
    (hd : (x == ("__debug__" : Str)) = false := by decide) (hcd : (x == ("__classdict__" : Str)) = false := by decide) : SD X B Γ (.Return (some (.Name x p)) pos :: rest) D := by
  have hN' : X.N[i]? = some x := by rw [c.N]; exact hN
  refine pss_weak (pss_cons (ps_ret (pe_var hN' (c.vis i x hN' hvs) hd hcd)) pss_never) fun D' σ H ⟨hd, F, fp, en⟩ => ?_
  obtain ⟨⟨u, hu, G, g1, g2⟩, hn⟩ := en.ok i _ h.get
  subst hv
  refine ⟨_, hu, hd.rt _ _ (hD u G H en.base.h (fun b u q => (g1 b u q).2) (fun b hb => ?_) g2)⟩
  cases z : G b with
  | none => exact absurd z hb
  | some o => exact (hn b (g1 b o z).1).2.2
end

/-! ### a def keeps its promise -/
section
variable {P : Program} {w : World} {K : PySem.W.Frag} {mg : Str → Option Value} {base : Heap} {k : Nat} {N : List Str} {vs : List Nat} {ι ρ : Type} {args : ι → Ctx} {pre : ι → Prop} {ps : List Str} {x q : Str} {st : Stmt}
theorem SlsOk.length {F : Hp} : ∀ {vs : List V} {Δ : Ctx}, SlsOk F vs Δ → vs.length = Δ.length
  | [], [], _ => rfl
  | v :: vs, s :: Δ, h => by simp [SlsOk.length h.2]
  | [], _ :: _, h => h.elim
  | _ :: _, [], h => h.elim
theorem SlsOk.at_ {F : Hp} : ∀ {vs : List V} {Δ : Ctx} {i : Nat} {s : Sl}, SlsOk F vs Δ → Δ[i]? = some s → ∃ v, vs[i]? = some v ∧ slVal F v s
  | [], [], _, _, _, h => by simp at h
  | v :: vs, s :: Δ, 0, t, h, e => by
    have e : s = t := by simpa using e
    subst e
    exact ⟨v, rfl, h.1⟩
  | v :: vs, s :: Δ, i + 1, t, h, e => by
    obtain ⟨u, h1, h2⟩ := SlsOk.at_ (i := i) (s := t) h.2 (by simpa using e)
    exact ⟨u, by simpa using h1, h2⟩
  | [], _ :: _, _, _, h, _ => h.elim
  | _ :: _, [], _, _, h, _ => h.elim
theorem env_start {F H : Hp} {us : List V} {Δ Γ0 : Ctx} (s : Same F H) (h : SlsOk F us Δ) (hl : Δ.length = ps.length) (hp : ps.length ≤ N.length) (e : Δ ++ List.replicate (N.length - ps.length) .un = Γ0) : Env ⟨F, H, F⟩ Γ0 (L2.start N us) F H := by
  subst e
  have hz : us.length = ps.length := by rw [h.length, hl]
  refine ⟨fun _ _ => False, ?_, Ext.refl s, s, Same.refl F, fun i t ht => ?_, fun _ _ _ z => z, fun _ _ _ _ z => z.elim⟩
  · unfold L2.start
    simp [hz, hl]
  · by_cases hi : i < Δ.length
    · rw [List.getElem?_append_left hi] at ht
      obtain ⟨v, h1, h2⟩ := h.at_ ht
      have hs : (L2.start N us)[i]? = some (some v) := by
        unfold L2.start
        rw [List.getElem?_append_left (by simpa [hz, ← hl] using hi), List.getElem?_map, h1]
        rfl
      rw [hs]
      cases t with
      | val r a => exact ⟨fun _ z => z, v, rfl, h2⟩
      | un => exact h2.elim
      | own o a => exact h2.elim
    · rw [List.getElem?_append_right (by omega), List.getElem?_replicate] at ht
      split at ht
      · cases ht
        exact fun _ z => z
      · cases ht
/-- the context of a def from which nothing is raised -/
theorem xc_of {cdv : Value} {fa : Addr} {A : Around} {outer : List PySem.Env} {s : Shared} {H : Hp} {E : XK} (S : FnScope N ps (defScope st)) (hv : locB N (defScope st) vs = true) (hr : Room k (A.deeper (envOfC q (defScope st) s.heap.objs.size fa cdv))) :
    XC P w K mg base k N (defScope st) vs vs (cxOf CX0 P w K mg base N q (defScope st) fa cdv A outer s H E).nox :=
  ⟨rfl, rfl, rfl, rfl, rfl, rfl, rfl, rfl, hr, S.kind, S.nd, PassesOwn.never, fun i x hN hc => (loc_of hv i x hN hc).elim .inl fun z => .inr (.inl z), fun i x hN hc => ⟨loc_of hv i x hN hc, .inl rfl⟩⟩
theorem fnF {rr : Rp ρ} {f : ι → ρ} (Γ0 : ι → Ctx) (T : FT K mg x q st ps) (S : FnScope N ps (defScope st)) (hv : locB N (defScope st) vs = true) (hl : ∀ i, (args i).length = ps.length) (hΓ : ∀ i, args i ++ List.replicate (N.length - ps.length) .un = Γ0 i)
    (body : ∀ (X : Cx) (B : Bs) (D : Ends) (i : ι), XC P w K mg base k N (defScope st) vs vs X → pre i → RtOk B rr (f i) D → (∀ σ H, D.nx σ H → D.rt .non H) → SD X B (Γ0 i) (defBody st) { D with nx := fun _ H => D.rt .non H }) :
    FN P w K mg base CX0 (k + 1) x ps (SpF args pre rr f) := by
  obtain ⟨fa, fd, F, hm, hb⟩ := T
  refine ⟨fa, fd, fun_ok F S (fun us H Q E ⟨F0, i, _, h, _⟩ => by rw [h.length, hl]) (fun cdv A outer s H us Q E hr ⟨F0, i, s0, h, hp, hk⟩ => ?_), hm, F.kp, hb, fun_look F⟩
  refine ⟨_, body _ ⟨F0, H, F0⟩ { nx := fun _ H' => Q .non H', rt := Q } i (xc_of S hv hr) hp hk (fun _ _ z => z), Le.refl _, F0, env_start s0 h (hl i) ?_ (hΓ i)⟩
  have := congrArg List.length S.pre; rw [List.length_take] at this; omega
theorem fnM {r : Rp ρ} {f : ι → List ρ} (Γ0 : ι → Ctx) (T : FT K mg x q st ps) (S : FnScope N ps (defScope st)) (hv : locB N (defScope st) vs = true) (hl : ∀ i, (args i).length = ps.length) (hΓ : ∀ i, args i ++ List.replicate (N.length - ps.length) .un = Γ0 i)
    (body : ∀ (X : Cx) (B : Bs) (D : Ends) (i : ι), XC P w K mg base k N (defScope st) vs vs X → pre i → RtM B r (f i) D → SD X B (Γ0 i) (defBody st) D) :
    FN P w K mg base CX0 (k + 1) x ps (SpM args pre r f) := by
  obtain ⟨fa, fd, F, hm, hb⟩ := T
  refine ⟨fa, fd, fun_ok F S (fun us H Q E ⟨F0, i, _, h, _⟩ => by rw [h.length, hl]) (fun cdv A outer s H us Q E hr ⟨F0, i, s0, h, hp, hk⟩ => ?_), hm, F.kp, hb, fun_look F⟩
  refine ⟨_, body _ ⟨F0, H, F0⟩ { nx := fun _ H' => Q .non H', rt := Q } i (xc_of S hv hr) hp hk, Le.refl _, F0, env_start s0 h (hl i) ?_ (hΓ i)⟩
  have := congrArg List.length S.pre; rw [List.length_take] at this; omega
theorem fnN {rr : Rp ρ} {f : ι → ρ} (Γ0 : ι → Ctx) (T : FT K mg x q st ps) (S : FnScope N ps (defScope st)) (hv : locB N (defScope st) vs = true) (hl : ∀ i, (args i).length = ps.length) (hΓ : ∀ i, args i ++ List.replicate (N.length - ps.length) .un = Γ0 i)
    (body : ∀ (X : Cx) (B : Bs) (D : Ends) (i : ι), XC P w K mg base k N (defScope st) vs vs X → pre i → RtN B rr (f i) D → SD X B (Γ0 i) (defBody st) D) :
    FN P w K mg base CX0 (k + 1) x ps (SpN args pre rr f) := by
  obtain ⟨fa, fd, F, hm, hb⟩ := T
  refine ⟨fa, fd, fun_ok F S (fun us H Q E ⟨F0, i, _, h, _⟩ => by rw [h.length, hl]) (fun cdv A outer s H us Q E hr ⟨F0, i, s0, h, hp, hk⟩ => ?_), hm, F.kp, hb, fun_look F⟩
  refine ⟨_, body _ ⟨F0, H, F0⟩ { nx := fun _ H' => Q .non H', rt := Q } i (xc_of S hv hr) hp hk, Le.refl _, F0, env_start s0 h (hl i) ?_ (hΓ i)⟩
  have := congrArg List.length S.pre; rw [List.length_take] at this; omega
end
end DL
namespace DL
open PySem L2 PySem.Spec PyProof.Rows

/-! ### walks -/
structure IsW {α : Type} (J : It) (r : Rp α) (xs : List α) (F0 : Hp) : Prop where
  go : ∀ i F H, i < xs.length → Same F0 F → Same F H → J.go i H
  stop : ∀ F H, Same F0 F → Same F H → J.stop xs.length H
  yld : ∀ i F H v H', i < xs.length → Same F0 F → Same F H → J.yld i H v H' → ∃ F' x, xs[i]? = some x ∧ Ext F H F' H' ∧ r.rel F' v x
def tDI {α : Type} (B : Bs) (Γ : Ctx) (r : Rp α) (xs : List α) : TI := fun σ H R => ∃ F, Env B Γ σ F H ∧ ∀ J F' H', Ext F H F' H' → IsW J r xs F' → R J H'
abbrev DI {α : Type} (X : Cx) (B : Bs) (Γ : Ctx) (tg iter : Expr) (r : Rp α) (xs : List α) : Prop := PI X tg iter (tDI B Γ r xs)
section
variable {X : Cx} {α β γ : Type} {B : Bs} {Γ Γ' : Ctx} {e a b tg : Expr}
theorem pi_weak {t t' : TI} (h : PI X tg e t) (w : ∀ σ H R, t' σ H R → t σ H R) : PI X tg e t' := ⟨fun pins s σ H R I q => h.run pins s σ H R I (w σ H R q)⟩
theorem isw_list {K : PySem.W.Frag} {p : Addr} {us : List V} {r : Rp α} {xs : List α} {F0 : Hp} (h : F0 p = some (.lst us)) (hr : Rl (r.rel F0) us xs) : IsW (Itl K p) r xs F0 := by
  have hl := hr.length
  have sq : ∀ F H, Same F0 F → Same F H → SqL K H p us := fun F H s1 s2 => SqL.of (s2 _ _ (s1 _ _ h))
  refine ⟨fun i F H hi s1 s2 => ⟨us, us[i]'(by omega), sq F H s1 s2, by simp⟩, fun F H s1 s2 => ⟨us, sq F H s1 s2, by omega⟩, fun i F H v H' hi s1 s2 y => ?_⟩
  obtain ⟨rfl, y⟩ := y
  obtain ⟨x, h1, h2⟩ := hr.getV (y us (sq F _ s1 s2))
  exact ⟨F, x, h1, Ext.refl s2, r.mono s1 h2⟩
theorem isw_tup {K : PySem.W.Frag} {p : Addr} {us : List V} {r : Rp α} {xs : List α} {F0 : Hp} (h : F0 p = some (.tup us)) (hr : Rl (r.rel F0) us xs) : IsW (Itt K p) r xs F0 := by
  have hl := hr.length
  have sq : ∀ F H, Same F0 F → Same F H → SqT K H p us := fun F H s1 s2 => SqT.of (s2 _ _ (s1 _ _ h))
  refine ⟨fun i F H hi s1 s2 => ⟨us, us[i]'(by omega), sq F H s1 s2, by simp⟩, fun F H s1 s2 => ⟨us, sq F H s1 s2, by omega⟩, fun i F H v H' hi s1 s2 y => ?_⟩
  obtain ⟨rfl, y⟩ := y
  obtain ⟨x, h1, h2⟩ := hr.getV (y us (sq F _ s1 s2))
  exact ⟨F, x, h1, Ext.refl s2, r.mono s1 h2⟩
/-- the whole numbers from lo on, n of them -/
def rng (lo : Int) (n : Nat) : List Int := (List.range n).map fun k => lo + (k : Nat)
theorem rng_len (lo : Int) (n : Nat) : (rng lo n).length = n := by simp [rng]
theorem rng_get {lo : Int} {n i : Nat} (h : i < n) : (rng lo n)[i]? = some (lo + (i : Nat)) := by simp [rng, h]
theorem mem_rng {lo x : Int} {n : Nat} (h : x ∈ rng lo n) : lo ≤ x ∧ x < lo + n := by
  obtain ⟨k, hk, rfl⟩ := List.mem_map.mp h
  have := List.mem_range.mp hk
  omega
theorem isw_rng {lo : Int} {n : Nat} {F0 : Hp} : IsW (Itr lo n) rInt (rng lo n) F0 := by
  refine ⟨fun i F H hi _ _ => by rw [rng_len] at hi; exact hi, fun F H _ _ => by rw [rng_len]; exact Nat.le_refl _, fun i F H v H' hi s1 s2 y => ?_⟩
  obtain ⟨rfl, rfl⟩ := y
  rw [rng_len] at hi
  exact ⟨F, _, rng_get hi, Ext.refl s2, rfl⟩
/-- the signs of a text, each a text -/
def sgs (t : Txt) : List Txt := t.map fun c => [c]
theorem isw_str {t : Txt} {F0 : Hp} (ok : okT t = true) : IsW (Its (tx t)) rTxt (sgs t) F0 := by
  have hz : (tx t).cps.size = t.length := by show t.toArray.size = _; simp
  have hl : (sgs t).length = t.length := by simp [sgs]
  refine ⟨fun i F H hi _ _ => by show i < (tx t).cps.size; rw [hz]; omega, fun F H _ _ => by show (tx t).cps.size ≤ _; rw [hz]; omega, fun i F H v H' hi s1 s2 y => ?_⟩
  obtain ⟨rfl, c, hc, rfl⟩ := y
  have hc' : t[i]? = some c := by
    have : (tx t).cps[i]? = t[i]? := by show t.toArray[i]? = _; simp
    rw [← this]; exact hc
  have hm : c ∈ t := List.mem_of_getElem? hc'
  have hk : decide (c < 1114112) = true := List.all_eq_true.mp ok c hm
  exact ⟨F, [c], by simp [sgs, hc'], Ext.refl s2, rfl, by show (decide (c < 1114112) && true) = true; rw [hk]; rfl⟩
theorem di_list {r : Rp α} {xs : List α} (h : DE X B Γ e (rList r) xs) : DI X B Γ tg e r xs :=
  pi_weak (pi_list h) fun σ H R ⟨F, en, k⟩ => ⟨F, en, fun v F1 H1 e1 ⟨p, us, h1, h2, h3⟩ => ⟨p, h1, ⟨us, SqL.of (e1.i _ _ h2)⟩, k _ F1 H1 e1 (isw_list h2 h3)⟩⟩
theorem di_scr {xs : List Int} {K : PySem.W.Frag} (hK : X.K = K) (h : DE X B Γ e (rScr K) xs) : DI X B Γ tg e rInt xs := by
  subst hK
  refine pi_weak (pi_list h) fun σ H R ⟨F, en, k⟩ => ⟨F, en, fun v F1 H1 e1 ⟨p, h1, h2⟩ => ⟨p, h1, ⟨_, e1.i.seq h2⟩, k _ F1 H1 e1 ?_⟩⟩
  have hl : (xs.map V.int).length = xs.length := by simp
  have sq : ∀ F H, Same F1 F → Same F H → SqL X.K H p (xs.map V.int) := fun F H s1 s2 => s2.seq (s1.seq h2)
  refine ⟨fun i F H hi s1 s2 => ⟨_, (xs.map V.int)[i]'(by omega), sq F H s1 s2, by simp⟩, fun F H s1 s2 => ⟨_, sq F H s1 s2, by omega⟩, fun i F H v H' hi s1 s2 y => ?_⟩
  obtain ⟨rfl, y⟩ := y
  have z := y _ (sq F _ s1 s2)
  rw [List.getElem?_map] at z
  cases q : xs[i]? with
  | none => rw [q] at z; cases z
  | some x => rw [q] at z; exact ⟨F, x, rfl, Ext.refl s2, (Option.some.inj z).symm⟩
theorem di_tup {r : Rp α} {xs : List α} (h : DE X B Γ e (rTup r) xs) : DI X B Γ tg e r xs :=
  pi_weak (pi_tup h) fun σ H R ⟨F, en, k⟩ => ⟨F, en, fun v F1 H1 e1 ⟨p, us, h1, h2, h3⟩ => ⟨p, h1, ⟨us, SqT.of (e1.i _ _ h2)⟩, k _ F1 H1 e1 (isw_tup h2 h3)⟩⟩
theorem di_str {t : Txt} (h : DE X B Γ e rTxt t) : DI X B Γ tg e rTxt (sgs t) :=
  pi_weak (pi_str h) fun σ H R ⟨F, en, k⟩ => ⟨F, en, fun v F1 H1 e1 h1 => ⟨_, h1.1, k _ F1 H1 e1 (isw_str h1.2)⟩⟩
/-- what an iterator by turns of new pairs gives -/
theorem ext_pair {F H : Hp} {T : Addr} {x y : V} {r : Rp α} {s : Rp β} {a : α} {b : β} (sm : Same F H) (hT : H T = none) (h1 : r.rel F x a) (h2 : s.rel F y b) :
    Ext F H (upd F T (.tup [x, y])) (upd H T (.tup [x, y])) ∧ (rPair r s).rel (upd F T (.tup [x, y])) (.ref T) (a, b) := by
  have e := Ext.new sm (.tup [x, y]) hT
  exact ⟨e, T, x, y, rfl, upd_same, r.mono e.f h1, s.mono e.f h2⟩
/-- 0, 1, .. beside the items -/
def enumL (xs : List α) : List (Int × α) := (rng 0 xs.length).zip xs
theorem di_enum {r : Rp α} {xs : List α} {p pos tpos : Pos} {elts : List Expr} {kk : Nat} (hg : Gl X "enumerate") (hm : X.mg "enumerate" = none) (h : DA X B Γ [e] [.val (rList r) xs]) (hs : starEach [e] X.env = [(false, eval e X.env)] := by rfl) :
    DI X B Γ (.Tuple elts kk tpos) (.Call (.Name "enumerate" p) [e] [] pos) (rPair rInt r) (enumL xs) :=
  pi_weak (pi_enum hg hm h hs) fun σ H R ⟨F, en, k⟩ => ⟨F, en, fun vs F1 H1 e1 h1 => by
    obtain ⟨v, rfl, q, us, rfl, h2, h3⟩ := h1.one
    have hl := h3.length
    have hz : (enumL xs).length = xs.length := by simp [enumL, rng_len]
    refine ⟨q, us, rfl, SqL.of (e1.i _ _ h2), k _ F1 H1 e1 ?_⟩
    have sq : ∀ F H, Same F1 F → Same F H → SqL X.K H q us := fun F H s1 s2 => SqL.of (s2 _ _ (s1 _ _ h2))
    refine ⟨fun i F H hi s1 s2 => ⟨us, us[i]'(by omega), sq F H s1 s2, by simp⟩, fun F H s1 s2 => ⟨us, sq F H s1 s2, by omega⟩, fun i F H v H' hi s1 s2 y => ?_⟩
    obtain ⟨T, x, y1, y2, y3, y4⟩ := y
    obtain ⟨x', z1, z2⟩ := h3.getV (y4 us (sq F H s1 s2))
    subst y1
    subst y3
    have hb := ext_pair (a := ((i : Nat) : Int)) (r := rInt) s2 y2 (x := .int (i : Nat)) rfl (r.mono s1 z2)
    refine ⟨_, ((i : Nat), x'), ?_, hb.1, hb.2⟩
    unfold enumL
    rw [List.getElem?_zip_eq_some]
    exact ⟨by rw [rng_get (by omega)]; simp, z1⟩⟩
theorem di_zip {r : Rp α} {s : Rp β} {xs : List α} {ys : List β} {p pos tpos : Pos} {elts : List Expr} {kk : Nat} (hg : Gl X "zip") (hm : X.mg "zip" = none) (h : DA X B Γ [a, b] [.val (rList r) xs, .val (rList s) ys])
    (hs : starEach [a, b] X.env = (false, eval a X.env) :: starEach [b] X.env := by rfl) (hpl : (backTo pos (starEach [b] X.env)).any (·.1) = false := by rfl) :
    DI X B Γ (.Tuple elts kk tpos) (.Call (.Name "zip" p) [a, b] [] pos) (rPair r s) (xs.zip ys) :=
  pi_weak (pi_zip hg hm h hs hpl) fun σ H R ⟨F, en, k⟩ => ⟨F, en, fun vs F1 H1 e1 h1 => by
    obtain ⟨v, w, rfl, ⟨q, us, rfl, h2, h3⟩, ⟨q', us', rfl, h2', h3'⟩⟩ := h1.two
    have hl := h3.length
    have hl' := h3'.length
    have hz : (xs.zip ys).length = min xs.length ys.length := by simp
    refine ⟨q, q', us, us', rfl, SqL.of (e1.i _ _ h2), SqL.of (e1.i _ _ h2'), k _ F1 H1 e1 ?_⟩
    have sq : ∀ F H, Same F1 F → Same F H → SqL X.K H q us := fun F H s1 s2 => SqL.of (s2 _ _ (s1 _ _ h2))
    have sq' : ∀ F H, Same F1 F → Same F H → SqL X.K H q' us' := fun F H s1 s2 => SqL.of (s2 _ _ (s1 _ _ h2'))
    refine ⟨fun i F H hi s1 s2 => ⟨us, us', us[i]'(by omega), us'[i]'(by omega), sq F H s1 s2, sq' F H s1 s2, by simp, by simp⟩, fun F H s1 s2 => ⟨us, us', sq F H s1 s2, sq' F H s1 s2, by omega⟩, fun i F H v H' hi s1 s2 y => ?_⟩
    obtain ⟨T, x, z, y1, y2, y3, y4, y5⟩ := y
    obtain ⟨x', z1, z2⟩ := h3.getV (y4 us (sq F H s1 s2))
    obtain ⟨z', z3, z4⟩ := h3'.getV (y5 us' (sq' F H s1 s2))
    subst y1
    subst y3
    have hb := ext_pair s2 y2 (r.mono s1 z2) (s.mono s1 z4)
    exact ⟨_, (x', z'), List.getElem?_zip_eq_some.mpr ⟨z1, z3⟩, hb.1, hb.2⟩⟩
end
section
variable {P : Program} {w : World} {K : PySem.W.Frag} {mg : Str → Option Value} {base : Heap} {k j : Nat} {N : List Str} {sc : Scope} {vs ls : List Nat} {X : Cx} {α β γ ι ρ : Type} {B : Bs} {Γ Γ' : Ctx} {e a b tg iter : Expr} {es : List Expr} {D : Ends} {rest ss body : List Stmt} {p pos : Pos} {x : Str}
theorem c_range1 (c : XC P w K mg base k N sc vs ls X) {n : Int} (h : DE X B Γ a rInt n) (hm : mg "range" = none) (hn : -(2 ^ 62) ≤ n ∧ n < 2 ^ 62) (hg : glB sc "range" = true := by decide +kernel) (hs : starEach [a] X.env = [(false, eval a X.env)] := by rfl) :
    DI X B Γ tg (.Call (.Name "range" p) [a] [] pos) rInt (rng 0 n.toNat) :=
  pi_weak (pi_range1 (gl_of c.sc hg) (by rw [c.mg]; exact hm) (pa_cons h pa_nil hs) hs) fun σ H R ⟨F, en, q⟩ => ⟨F, en, fun v F1 H1 e1 h1 => ⟨n, by rw [show v = V.int n from h1], hn.1, hn.2, q _ F1 H1 e1 isw_rng⟩⟩
theorem c_range2 (c : XC P w K mg base k N sc vs ls X) {m n : Int} (h1 : DE X B Γ a rInt m) (h2 : DE X B Γ b rInt n) (hm : mg "range" = none) (hn : -(2 ^ 62) ≤ m ∧ m < 2 ^ 62 ∧ -(2 ^ 62) ≤ n ∧ n < 2 ^ 62) (hg : glB sc "range" = true := by decide +kernel)
    (hs : starEach [a, b] X.env = [(false, eval a X.env), (false, eval b X.env)] := by rfl) (hs2 : starEach [b] X.env = [(false, eval b X.env)] := by rfl) :
    DI X B Γ tg (.Call (.Name "range" p) [a, b] [] pos) rInt (rng m (n - m).toNat) :=
  pi_weak (pi_range2 (gl_of c.sc hg) (by rw [c.mg]; exact hm) (da_cons h1 (da_cons h2 da_nil hs2) (by rw [hs, hs2])) hs hs2) fun σ H R ⟨F, en, q⟩ => ⟨F, en, fun v F1 H1 e1 h1 => by
    obtain ⟨u, w, rfl, rfl, rfl⟩ := h1.two
    exact ⟨m, n, rfl, hn, q _ F1 H1 e1 isw_rng⟩⟩
theorem c_enum (c : XC P w K mg base k N sc vs ls X) {r : Rp α} {xs : List α} {tpos : Pos} {elts : List Expr} {kk : Nat} (h : DE X B Γ e (rList r) xs) (hm : mg "enumerate" = none) (hg : glB sc "enumerate" = true := by decide +kernel) (hs : starEach [e] X.env = [(false, eval e X.env)] := by rfl) :
    DI X B Γ (.Tuple elts kk tpos) (.Call (.Name "enumerate" p) [e] [] pos) (rPair rInt r) (enumL xs) :=
  di_enum (gl_of c.sc hg) (by rw [c.mg]; exact hm) (da_cons h da_nil hs) hs
theorem c_zip (c : XC P w K mg base k N sc vs ls X) {r : Rp α} {s : Rp β} {xs : List α} {ys : List β} {tpos : Pos} {elts : List Expr} {kk : Nat} (h1 : DE X B Γ a (rList r) xs) (h2 : DE X B Γ b (rList s) ys) (hm : mg "zip" = none) (hg : glB sc "zip" = true := by decide +kernel)
    (hs : starEach [a, b] X.env = (false, eval a X.env) :: starEach [b] X.env := by rfl) (hpl : (backTo pos (starEach [b] X.env)).any (·.1) = false := by rfl) (hs2 : starEach [b] X.env = [(false, eval b X.env)] := by rfl) :
    DI X B Γ (.Tuple elts kk tpos) (.Call (.Name "zip" p) [a, b] [] pos) (rPair r s) (xs.zip ys) :=
  di_zip (gl_of c.sc hg) (by rw [c.mg]; exact hm) (da_cons h1 (da_cons h2 da_nil hs2) hs) hs hpl

/-! ### targets -/
/-- Tgt: from which slots to which; js: the slots set -/
def gD {α : Type} (B : Bs) (r : Rp α) (Tgt : Ctx → α → Ctx → Prop) (js : List Nat) : TG := fun v σ H Q => ∃ Γ a Γ' F, Env B Γ σ F H ∧ r.rel F v a ∧ Tgt Γ a Γ' ∧ ∀ σ' : L2.St, Env B Γ' σ' F H → σ'.length = σ.length → (∀ i : Nat, i ∉ js → σ'[i]? = σ[i]?) → Q σ' H
abbrev DG {α : Type} (X : Cx) (B : Bs) (tg : Expr) (r : Rp α) (Tgt : Ctx → α → Ctx → Prop) (js : List Nat) : Prop := PG X tg (gD B r Tgt js)
theorem pg_weak {t t' : TG} (h : PG X tg t) (wk : ∀ v σ H Q, t' v σ H Q → t v σ H Q) : PG X tg t' := ⟨fun pins s σ H v u Q I r q => h.run pins s σ H v u Q I r (wk v σ H Q q)⟩
theorem c_tname (c : XC P w K mg base k N sc vs ls X) (i : Nat) {r : Rp α} (hN : N[i]? = some x := by rfl) (hl : ls.contains i = true := by rfl) : DG X B (.Name x pos) r (fun Γ a Γ' => To Γ i (.val r a) Γ') [i] := by
  have hN' : X.N[i]? = some x := by rw [c.N]; exact hN
  refine pg_weak (pg_name (i := i) c.nd hN' (c.loc i x hN' hl).1 (c.loc i x hN' hl).2) fun v σ H Q ⟨Γ, a, Γ', F, en, h1, t, q⟩ => ?_
  exact q _ (en.put t h1) (by simp) fun m hm => List.getElem?_set_ne fun z => hm (by simp [z])
theorem c_tpair (c : XC P w K mg base k N sc vs ls X) (i j : Nat) {x y : Str} {p1 p2 : Pos} {kk : Nat} {r : Rp α} {s : Rp β} (hN : N[i]? = some x := by rfl) (hl : ls.contains i = true := by rfl) (hN2 : N[j]? = some y := by rfl) (hl2 : ls.contains j = true := by rfl) :
    DG X B (.Tuple [.Name x p1, .Name y p2] kk pos) (rPair r s) (fun Γ a Γ' => ∃ Γ1, To Γ i (.val r a.1) Γ1 ∧ To Γ1 j (.val s a.2) Γ') [i, j] := by
  have hN' : X.N[i]? = some x := by rw [c.N]; exact hN
  have hN2' : X.N[j]? = some y := by rw [c.N]; exact hN2
  refine pg_weak (pg_tup c.calm (pgs_cons (pg_name (i := i) c.nd hN' (c.loc i x hN' hl).1 (c.loc i x hN' hl).2) (pgs_cons (pg_name (i := j) c.nd hN2' (c.loc j y hN2' hl2).1 (c.loc j y hN2' hl2).2) pgs_nil))) fun v σ H Q ⟨Γ, a, Γ', F, en, ⟨q, u, u', h1, h2, h3, h4⟩, ⟨Γ1, t1, t2⟩, kq⟩ => ?_
  refine ⟨q, _, h1, SqT.of (en.same _ _ h2), rfl, u, _, rfl, u', _, rfl, rfl, kq _ ((en.put t1 h3).put t2 h4) (by simp) fun m hm => ?_⟩
  rw [List.getElem?_set_ne fun z => hm (by simp [z]), List.getElem?_set_ne fun z => hm (by simp [z])]

/-! ### for -/
theorem pss_ex {I : Sort _} {Φ : I → Prop} {t : I → TS} (h : ∀ i, Φ i → PSs X ss (t i)) : PSs X ss (fun D σ H => ∃ i, Φ i ∧ t i D σ H) := ⟨fun pins s σ H D J ⟨i, hp, q⟩ => (h i hp).run pins s σ H D J q⟩
theorem pe_ex {I : Sort _} {Φ : I → Prop} {t : I → TE} (h : ∀ i, Φ i → PE X e (t i)) : PE X e (fun σ H Q => ∃ i, Φ i ∧ t i σ H Q) := ⟨fun pins s σ H Q J ⟨i, hp, q⟩ => (h i hp).run pins s σ H Q J q⟩
theorem pt_ex {I : Sort _} {Φ : I → Prop} {t : I → TT} (h : ∀ i, Φ i → PT X e (t i)) : PT X e (fun σ H Q => ∃ i, Φ i ∧ t i σ H Q) := ⟨fun pins s σ H Q J ⟨i, hp, q⟩ => (h i hp).run pins s σ H Q J q⟩
theorem Env.lo {L : Hp} {σ : L2.St} {F H : Hp} (h : Env B Γ σ F H) (l : Same L F) : Env (B.lo L) Γ σ F H := by
  obtain ⟨fp, h⟩ := h
  refine ⟨fp, h.len, h.base, h.same, l, fun i s hs => ?_, h.out, h.apart⟩
  have q := h.ok i s hs
  cases s with
  | un => exact q
  | val r a => exact q
  | own o a => exact q
theorem Env.hi {L : Hp} {σ : L2.St} {F H : Hp} (h : Env (B.lo L) Γ σ F H) (l : Same B.L F) : Env B Γ σ F H := by
  obtain ⟨fp, h⟩ := h
  refine ⟨fp, h.len, h.base, h.same, l, fun i s hs => ?_, h.out, h.apart⟩
  have q := h.ok i s hs
  cases s with
  | un => exact q
  | val r a => exact q
  | own o a => exact q
theorem Env.low {σ : L2.St} {F H : Hp} (h : Env B Γ σ F H) : Same B.L F := let ⟨_, x⟩ := h; x.low
/-- for: what is done, what is left, the loop's state s; Bk: a break's states -/
theorem sd_for (hpo : PassesOwn (model X.prog X.w) X.A X.env X.xe) (hcalm : X.calm = true) {r : Rp α} {xs : List α} {Tgt : Ctx → α → Ctx → Prop} {js : List Nat} {S : Type} (Γs : S → Ctx) (Inv : List α → List α → S → Prop) (Bk : S → Prop) (s0 : S) {Γb : S → α → Ctx}
    (hi : DI X B Γ tg iter r xs) (hg : ∀ L, DG X (B.lo L) tg r Tgt js) (h0 : ∀ σ F H, Env B Γ σ F H → Env B (Γs s0) σ F H) (i0 : Inv [] xs s0) (ht : ∀ s x, Tgt (Γs s) x (Γb s x))
    (hb : ∀ L pre x post s, xs = pre ++ x :: post → Inv pre (x :: post) s → SD X (B.lo L) (Γb s x) body { nx := fun σ H => ∃ s', Inv (pre ++ [x]) post s' ∧ EnvP (B.lo L) (Γs s') σ H, ct := fun σ H => ∃ s', Inv (pre ++ [x]) post s' ∧ EnvP (B.lo L) (Γs s') σ H, bk := fun σ H => ∃ s', Bk s' ∧ EnvP (B.lo L) (Γs s') σ H, rt := D.rt })
    (hr : ∀ s, Inv xs [] s ∨ Bk s → SD X B (Γs s) rest D) (hs : ∀ x, foldedSetIterable iter X.env x = pure x := by intro _; rfl) : SD X B Γ (.For tg iter body [] pos :: rest) D := by
  have HB := pss_ex (I := Hp × List α × α × List α × S) (Φ := fun i => xs = i.2.1 ++ i.2.2.1 :: i.2.2.2.1 ∧ Inv i.2.1 (i.2.2.1 :: i.2.2.2.1) i.2.2.2.2) fun i h => hb i.1 i.2.1 i.2.2.1 i.2.2.2.1 i.2.2.2.2 h.1 h.2
  have HR := pss_ex (I := S) (Φ := fun s => Inv xs [] s ∨ Bk s) hr
  have HG : PG X tg (fun v σ H Q => ∃ L, gD (B.lo L) r Tgt js v σ H Q) := ⟨fun pins s σ H v u Q J rv ⟨L, q⟩ => (hg L).run pins s σ H v u Q J rv q⟩
  refine pss_weak (pss_cons (ps_for hpo hcalm hi HG HB hs) HR) fun D' σ H ⟨hD, F, en⟩ => ?_
  refine ⟨F, en, fun J F1 H1 e1 iw => ?_⟩
  refine ⟨fun i m σ H => m = xs.length - i ∧ i ≤ xs.length ∧ ∃ s F, Inv (xs.take i) (xs.drop i) s ∧ Env (B.lo F1) (Γs s) σ F H, ⟨xs.length, by simp, Nat.zero_le _, s0, F1, by simpa using i0, (h0 _ _ _ (en.ext e1)).lo (Same.refl F1)⟩, ?_⟩
  rintro i m σ2 H2 ⟨rfl, hi2, s, F2, iv, en2⟩
  have lowB : Same B.L F1 := en.low.trans e1.f
  by_cases hlt : i < xs.length
  · refine .inr ⟨iw.go i F2 H2 hlt en2.low en2.same, fun σ H => ∃ s', Inv (xs.take (i + 1)) (xs.drop (i + 1)) s' ∧ EnvP (B.lo F1) (Γs s') σ H, fun σ' H' ⟨s', iv', F', en'⟩ => ⟨xs.length - (i + 1), by omega, rfl, hlt, s', F', iv', en'⟩, fun v H3 y => ?_⟩
    obtain ⟨F3, x, hx, e3, hv⟩ := iw.yld i F2 H2 v H3 hlt en2.low en2.same y
    refine ⟨F1, Γs s, x, Γb s x, F3, en2.ext e3, hv, ht s x, fun σ' en' _ _ => ?_⟩
    have ed : xs.drop i = x :: xs.drop (i + 1) := by
      rw [List.drop_eq_getElem_cons hlt]
      congr 1
      exact (List.getElem?_eq_some_iff.mp hx).2
    have et : xs.take (i + 1) = xs.take i ++ [x] := by
      rw [List.take_succ, hx]; rfl
    refine ⟨(F1, xs.take i, x, xs.drop (i + 1), s), ⟨by rw [← ed, List.take_append_drop], by rw [← ed]; exact iv⟩, ?_, F3, en'⟩
    rw [et]
    exact ⟨fun σ H h => h, fun v H h => hD.rt v H h, fun σ H ⟨s', hb', F', en''⟩ => ⟨s', .inr hb', hD, F', en''.hi (lowB.trans en''.low)⟩, fun σ H h => h⟩
  · have e : i = xs.length := by omega
    subst e
    refine .inl ⟨iw.stop F2 H2 en2.low en2.same, s, .inl (by simpa using iv), hD, F2, en2.hi (lowB.trans en2.low)⟩
/-! ### comprehensions -/
theorem wipe_get {σ : L2.St} {i : Nat} : ∀ {vs : List Nat}, (wipe σ vs)[i]? = if i ∈ vs then (σ[i]?).map (fun _ => none) else σ[i]?
  | [] => by simp [wipe]
  | v :: vs => by
    unfold wipe
    by_cases hv : v = i
    · subst hv
      rw [if_pos (by simp)]
      by_cases hl : v < (wipe σ vs).length
      · rw [List.getElem?_set_self hl]
        rw [wipe_length] at hl
        rw [List.getElem?_eq_getElem hl]; rfl
      · rw [List.getElem?_eq_none (by simpa using hl)]
        rw [wipe_length] at hl
        rw [List.getElem?_eq_none (by omega)]; rfl
    · rw [List.getElem?_set_ne hv, wipe_get (vs := vs)]
      have : (i ∈ v :: vs) ↔ i ∈ vs := by simp [Ne.symm hv]
      by_cases h : i ∈ vs
      · rw [if_pos h, if_pos (this.mpr h)]
      · rw [if_neg h, if_neg (fun z => h (this.mp z))]
theorem wipe_back {σ σ2 : L2.St} {vs : List Nat} (hl : σ2.length = (wipe σ vs).length) (h : ∀ i : Nat, i ∉ vs → σ2[i]? = (wipe σ vs)[i]?) : wipe σ2 vs = wipe σ vs := by
  apply List.ext_getElem?
  intro i
  rw [wipe_get, wipe_get]
  by_cases hi : i ∈ vs
  · rw [if_pos hi, if_pos hi]
    rw [wipe_length] at hl
    by_cases hz : i < σ.length
    · rw [List.getElem?_eq_getElem hz, List.getElem?_eq_getElem (by omega)]; rfl
    · rw [List.getElem?_eq_none (by omega), List.getElem?_eq_none (by omega)]
  · rw [if_neg hi, if_neg hi, h i hi, wipe_get, if_neg hi]
theorem EnvF.wipe {σ : L2.St} {F H : Hp} {fp : Nat → Addr → Prop} {ws : List Nat} (h : EnvF B Γ σ F H fp) (hu : ∀ i ∈ ws, Γ[i]? = some .un) : EnvF B Γ (wipe σ ws) F H fp := by
  refine ⟨by rw [wipe_length]; exact h.len, h.base, h.same, h.low, fun i s hs => ?_, h.out, h.apart⟩
  have q := h.ok i s hs
  rw [wipe_get]
  by_cases hi : i ∈ ws
  · rw [hu i hi] at hs
    cases hs
    exact q
  · rw [if_neg hi]; exact q
/-- a new object at D that is nobody's, written -/
theorem EnvF.side {σ : L2.St} {F H : Hp} {fp : Nat → Addr → Prop} {Dl : Addr} {o : HO} (h : EnvF B Γ σ F H fp) (hF : F Dl = none) (hB : B.H Dl = none) (hf : ∀ j, ¬ fp j Dl) : EnvF B Γ σ F (upd H Dl o) fp := by
  have ne : ∀ j b, fp j b → b ≠ Dl := fun j b q z => hf j (z ▸ q)
  have s2 : Same F (upd H Dl o) := fun b u q => by rw [upd_ne (ne_of_none q hF)]; exact h.same b u q
  refine ⟨h.len, ⟨h.base.f, fun b u q => by rw [upd_ne (ne_of_none q hB)]; exact h.base.h b u q, s2, h.base.d⟩, s2, h.low, fun i s hs => ?_, h.out, h.apart⟩
  have q := h.ok i s hs
  cases s with
  | un => exact q
  | val r a => exact q
  | own oo a =>
    obtain ⟨⟨v, q1, q2⟩, q3⟩ := q
    refine ⟨⟨v, q1, oo.mono (Same.refl F) (fun b hb => by rw [upd_ne (ne i b hb)]) q2⟩, fun b hb => ⟨(q3 b hb).1, ?_, (q3 b hb).2.2⟩⟩
    rw [upd_ne (ne i b hb)]
    exact (q3 b hb).2.1
def locC (N : List Str) (scope sc : Scope) (vs : List Nat) : Bool := vs.all fun i => match N[i]? with
  | some x => (match scope.names.lookup x, (relS scope sc).names.lookup x with | some .local, some .local => true | some .cell, some .cell => true | _, _ => false)
  | none => false
theorem locC_of {N : List Str} {scope sc : Scope} {vs : List Nat} (h : locC N scope sc vs = true) (i : Nat) (x : Str) (hN : N[i]? = some x) (hv : vs.contains i = true) :
    (scope.names.lookup x = some .local ∧ (relS scope sc).names.lookup x = some .local) ∨ (scope.names.lookup x = some .cell ∧ (relS scope sc).names.lookup x = some .cell) := by
  have q := List.all_eq_true.mp h i (by simpa using hv)
  rw [hN] at q
  dsimp only at q
  split at q
  · exact .inl ⟨by assumption, by assumption⟩
  · exact .inr ⟨by assumption, by assumption⟩
  · cases q
/-- the context of a comprehension's block -/
theorem xc_blk (c : XC P w K mg base k N sc vs ls X) {scope : Scope} {vs' ls' : List Nat} (hk : scope.kind = .function) (hv : visB N (relS scope sc) vs' = true) (hl : locC N scope sc ls' = true)
    (s : Shared) (H : Hp) (C : Addr) (cl : List (Str × Addr)) (fp : List Addr) : XC P w K mg base k N (relS scope sc) vs' ls' (X.blk s H scope (compEnvC scope cl C X.env) fp) := by
  have es : (compEnvC scope cl C X.env).scope = relS scope X.env.scope := rfl
  refine ⟨c.p, c.w, c.K, c.mg, c.b, c.N, by show relS scope X.env.scope = _; rw [c.sc], c.calm, c.room, hk, c.nd, PassesOwn.never, fun i x hN hc => ?_, fun i x hN hc => ?_⟩
  · have hN' : X.N[i]? = some x := hN
    rw [c.N] at hN'
    show Vis (relS scope X.env.scope) x
    rw [c.sc]
    exact vis_of hv i x hN' hc
  · have hN' : X.N[i]? = some x := hN
    rw [c.N] at hN'
    have z := locC_of hl i x hN' hc
    refine ⟨?_, ?_⟩
    · show L2.Loc (relS scope X.env.scope) x
      rw [c.sc]
      exact z.elim (fun z => .inl z.2) fun z => .inr z.2
    · rcases z with z | z
      · refine .inr ?_
        show (relS scope X.env.scope).names.lookup x = some .local
        rw [c.sc]
        exact z.2
      · refine .inl ?_
        show (scope.names.lookup x == some .cell) = true
        rw [z.1]; rfl
theorem Ext.side {F H F' H' : Hp} {p : Addr} {o : HO} (e : Ext F H F' H') (h1 : H p = none) (h2 : F' p = none) : Ext F H F' (upd H' p o) :=
  ⟨e.f, fun b u q => by rw [upd_ne (ne_of_none q h1)]; exact e.h b u q, fun b u q => by rw [upd_ne (ne_of_none q h2)]; exact e.i b u q, e.d⟩
/-- what a comprehension's reading asks, answered by its walk -/
theorem lc_read {r : Rp α} {s : Rp β} {xs : List α} {Tgt : Ctx → α → Ctx → Prop} {js ws : List Nat} {Γb : α → Ctx} (pf : α → Bool) (ff : α → β) (hjs : ∀ j ∈ js, j ∈ ws) (hu : ∀ i ∈ ws, Γ[i]? = some .un) (ht : ∀ x, Tgt Γ x (Γb x)) (hz : xs.length ≤ 1000000)
    (σ : L2.St) (H : Hp) (Q : VK) (h : tDM B Γ s ((xs.filter pf).map ff) σ H Q) :
    tLc (tDI B Γ r xs) (fun v σ H Q => ∃ L, gD (B.lo L) r Tgt js v σ H Q) (fun σ H Q => ∃ i : Hp × α, i.2 ∈ xs ∧ tDT (B.lo i.1) (Γb i.2) (pf i.2) σ H Q) (fun σ H Q => ∃ i : Hp × α, (i.2 ∈ xs ∧ pf i.2 = true) ∧ tD (B.lo i.1) (Γb i.2) s (ff i.2) σ H Q) ws σ H Q := by
  obtain ⟨F, ⟨fp, en⟩, kq⟩ := h
  refine ⟨F, ⟨fp, en⟩, fun J F1 H1 e1 iw Dl hD => ?_⟩
  have en1 := en.ext e1
  have hF1 : F1 Dl = none := e1.i.free hD
  have hBD : B.H Dl = none := en1.base.h.free hD
  have hfp : ∀ j, ¬ fp j Dl := fun j q => (en1.own_at q).2.1 hD
  let res : Nat → List β := fun i => ((xs.take i).filter pf).map ff
  have zlen : ∀ i, (res i).length ≤ 1000000 := fun i => by
    have h1 : (res i).length ≤ ((xs.take i).filter pf).length := by simp [res]
    have h2 := List.length_filter_le pf (xs.take i)
    have h3 : (xs.take i).length ≤ xs.length := by rw [List.length_take]; omega
    omega
  refine ⟨fun i m H => m = xs.length - i ∧ i ≤ xs.length ∧ ∃ F acc, EnvF (B.lo F1) Γ σ F H fp ∧ F Dl = none ∧ H Dl = some (.lst acc) ∧ Rl (s.rel F) acc (res i) ∧ Ext F1 H1 F H, ⟨xs.length, by simp, Nat.zero_le _, F1, [], ?_, hF1, upd_same, trivial, Ext.newH e1.i _ hD⟩, ?_⟩
  · have := en1.side (o := .lst []) hF1 hBD hfp
    exact ⟨this.len, this.base, this.same, Same.refl F1, fun i s hs => by
      have q := this.ok i s hs
      cases s with
      | un => exact q
      | val r a => exact q
      | own o a => exact q, this.out, this.apart⟩
  rintro i m H2 ⟨rfl, hi2, F2, acc, en2, hF2, hD2, ha, hs2⟩
  by_cases hlt : i < xs.length
  · refine .inr ⟨iw.go i F2 H2 hlt en2.low en2.same, fun H' => ∃ F acc, EnvF (B.lo F1) Γ σ F H' fp ∧ F Dl = none ∧ H' Dl = some (.lst acc) ∧ Rl (s.rel F) acc (res (i + 1)) ∧ Ext F1 H1 F H', fun H' ⟨F', acc', q⟩ => ⟨xs.length - (i + 1), by omega, rfl, hlt, F', acc', q⟩, fun v H3 y => ?_⟩
    obtain ⟨F3, x, hx, e3, hv⟩ := iw.yld i F2 H2 v H3 hlt en2.low en2.same y
    have mem : x ∈ xs := List.mem_of_getElem? hx
    have dne : ∀ {F F' H H' : Hp}, Ext F H F' H' → F Dl = none → (∃ acc, H Dl = some (HO.lst acc)) → F' Dl = none := fun {F F' H H'} e h1 ⟨acc, h2⟩ => e.d Dl h1 (by rw [h2]; intro z; cases z)
    have en3 := en2.ext e3
    refine ⟨F1, Γ, x, Γb x, F3, ⟨fp, en3.wipe hu⟩, hv, ht x, fun σ' en' hl' hk' => ⟨wipe_back hl' fun j hj => hk' j fun z => hj (hjs j z), ?_⟩⟩
    refine ⟨(F1, x), mem, F3, en', fun F4 H4 e4 => ?_⟩
    have et : xs.take (i + 1) = xs.take i ++ [x] := by rw [List.take_succ, hx]; rfl
    have hr : res (i + 1) = res i ++ (if pf x = true then [ff x] else []) := by
      show ((xs.take (i + 1)).filter pf).map ff = _
      rw [et, List.filter_append, List.map_append]
      congr 1
      by_cases hp : pf x = true
      · rw [if_pos hp]; simp [hp]
      · rw [if_neg hp]; simp [hp]
    have h3D : F3 Dl = none := dne e3 hF2 ⟨acc, hD2⟩
    have h3L : H3 Dl = some (.lst acc) := e3.h _ _ hD2
    have h4D : F4 Dl = none := dne e4 h3D ⟨acc, h3L⟩
    have h4L : H4 Dl = some (.lst acc) := e4.h _ _ h3L
    have en4 := en3.ext e4
    show if pf x = true then _ else _
    by_cases hp : pf x = true
    · rw [if_pos hp]
      refine ⟨(F1, x), ⟨mem, hp⟩, F4, en'.ext e4, fun y5 F5 H5 e5 h5 => ?_⟩
      have h5D : F5 Dl = none := dne e5 h4D ⟨acc, h4L⟩
      have h5L : H5 Dl = some (.lst acc) := e5.h _ _ h4L
      have en5 := en4.ext e5
      refine ⟨acc, h5L, ?_, F5, acc ++ [y5], en5.side h5D hBD hfp, h5D, upd_same, ?_, ?_⟩
      · rw [ha.length]; exact Nat.lt_of_le_of_lt (zlen i) (by decide)
      · rw [hr, if_pos hp]
        exact Rl.append (Rl.imp (fun _ _ => s.mono ((e3.f.trans e4.f).trans e5.f)) ha) (Rl.one h5)
      · exact (hs2.trans (e3.trans (e4.trans e5))).side hD h5D
    · rw [if_neg hp]
      refine ⟨F4, acc, en4, h4D, h4L, ?_, hs2.trans (e3.trans e4)⟩
      rw [hr, if_neg hp, List.append_nil]
      exact Rl.imp (fun _ _ => s.mono (e3.f.trans e4.f)) ha
  · have e : i = xs.length := by omega
    subst e
    refine .inl ⟨iw.stop F2 H2 en2.low en2.same, ?_⟩
    have hres : res xs.length = (xs.filter pf).map ff := by simp [res]
    rw [hres] at ha
    exact kq Dl acc F2 H2 (e1.trans hs2) hF2 (e1.h.free hD) hD2 ha
end
end DL
namespace DL
open PySem L2 PySem.Spec PyProof.Rows
section
variable {P : Program} {w : World} {K : PySem.W.Frag} {mg : Str → Option Value} {base : Heap} {k j : Nat} {N : List Str} {sc : Scope} {vs ls : List Nat} {X : Cx} {α β γ ι ρ : Type} {B : Bs} {Γ Γ' : Ctx} {e a b tg iter elt : Expr} {es ifs : List Expr} {D : Ends} {rest ss body : List Stmt} {p pos : Pos} {x : Str} {scope : Scope}
theorem Ext.frzNew {F H F' H' : Hp} {p : Addr} {o : HO} (e : Ext F H F' H') (h1 : F' p = none) (h2 : H p = none) (h3 : H' p = some o) : Ext F H (upd F' p o) H' :=
  ⟨e.f.trans (same_new h1), e.h, same_upd e.i h3, fun b hf hh => by
    have hb : b ≠ p := fun z => hh (by rw [z]; exact h2)
    rw [upd_ne hb]; exact e.d b hf hh⟩
/-- a comprehension's tests -/
abbrev DTs (X : Cx) (B : Bs) (Γ : Ctx) (ifs : List Expr) (b : Bool) : Prop := PTs X ifs (tDT B Γ b)
theorem dts_nil : DTs X B Γ [] true := ⟨fun pins s σ H Q I ⟨F, en, q⟩ => (pts_nil).run pins s σ H Q I (q F H (Ext.refl en.same))⟩
theorem dts_one {z : Bool} (h : DT X B Γ e z) : DTs X B Γ [e] z := pts_one h
/-- a comprehension whose parts are shown -/
def LcOk (X : Cx) (B : Bs) (Γ : Ctx) (elt tg iter : Expr) (ifs : List Expr) (scope : Scope) {β : Type} (s : Rp β) (res : List β) : Prop :=
  ∃ own wi g tt te, PI X tg iter wi ∧ BlkOk X.N X.env.scope scope own ∧ (∀ (s : Shared) (H : Hp) (C : Addr) (cl : List (Str × Addr)) (fp : List Addr), PG (X.blk s H scope (compEnvC scope cl C X.env) fp) tg g) ∧
    (∀ (s : Shared) (H : Hp) (C : Addr) (cl : List (Str × Addr)) (fp : List Addr), PTs (X.blk s H scope (compEnvC scope cl C X.env) fp) ifs tt) ∧
    (∀ (s : Shared) (H : Hp) (C : Addr) (cl : List (Str × Addr)) (fp : List Addr), PE (X.blk s H scope (compEnvC scope cl C X.env) fp) elt te) ∧ (∀ x, foldedSetIterable iter X.env x = pure x) ∧
    ∀ σ H Q, tDM B Γ s res σ H Q → tLc wi g tt te (own.map (·.2)) σ H Q
theorem pts_ex {I : Sort _} {Φ : I → Prop} {t : I → TT} (h : ∀ i, Φ i → PTs X ifs (t i)) : PTs X ifs (fun σ H Q => ∃ i, Φ i ∧ t i σ H Q) := ⟨fun pins s σ H Q J ⟨i, hp, q⟩ => (h i hp).run pins s σ H Q J q⟩
theorem c_lcF (c : XC P w K mg base k N sc vs ls X) {r : Rp α} {s : Rp β} {xs : List α} {Tgt : Ctx → α → Ctx → Prop} {js : List Nat} {Γb : α → Ctx} (own : List (Str × Nat)) (vs' ls' : List Nat) (pf : α → Bool) (ff : α → β)
    (hi : DI X B Γ tg iter r xs) (hg : ∀ X' L, XC P w K mg base k N (relS scope sc) vs' ls' X' → DG X' (B.lo L) tg r Tgt js) (ht : ∀ x, Tgt Γ x (Γb x))
    (hc : ∀ X' L x, XC P w K mg base k N (relS scope sc) vs' ls' X' → x ∈ xs → DTs X' (B.lo L) (Γb x) ifs (pf x))
    (he : ∀ X' L x, XC P w K mg base k N (relS scope sc) vs' ls' X' → x ∈ xs → pf x = true → DE X' (B.lo L) (Γb x) elt s (ff x))
    (hz : xs.length ≤ 1000000) (hu : ∀ i ∈ own.map (·.2), Γ[i]? = some .un := by decide)
    (hok : blkC N sc scope own = true := by decide +kernel) (hv : visB N (relS scope sc) vs' = true := by decide +kernel) (hl : locC N scope sc ls' = true := by decide +kernel) (hk : scope.kind = .function := by rfl)
    (hjs : ∀ j ∈ js, j ∈ own.map (·.2) := by decide) (hs : ∀ x, foldedSetIterable iter X.env x = pure x := by intro _; rfl) : LcOk X B Γ elt tg iter ifs scope s ((xs.filter pf).map ff) := by
  refine ⟨own, tDI B Γ r xs, (fun v σ H Q => ∃ L, gD (B.lo L) r Tgt js v σ H Q), (fun σ H Q => ∃ i : Hp × α, i.2 ∈ xs ∧ tDT (B.lo i.1) (Γb i.2) (pf i.2) σ H Q), (fun σ H Q => ∃ i : Hp × α, (i.2 ∈ xs ∧ pf i.2 = true) ∧ tD (B.lo i.1) (Γb i.2) s (ff i.2) σ H Q), hi, by rw [c.N, c.sc]; exact blkOk_by hok, fun s H C cl fp => ⟨fun pins s' σ H' v u Q J rv ⟨L, q⟩ => (hg _ L (xc_blk c hk hv hl s H C cl fp)).run pins s' σ H' v u Q J rv q⟩,
    fun s H C cl fp => pts_ex (I := Hp × α) (Φ := fun i => i.2 ∈ xs) fun i hm => hc _ i.1 i.2 (xc_blk c hk hv hl s H C cl fp) hm,
    fun s H C cl fp => pe_ex (I := Hp × α) (Φ := fun i => i.2 ∈ xs ∧ pf i.2 = true) fun i hm => he _ i.1 i.2 (xc_blk c hk hv hl s H C cl fp) hm.1 hm.2, hs, fun σ H Q h => ?_⟩
  exact lc_read pf ff hjs hu ht hz σ H Q h
theorem c_lc (c : XC P w K mg base k N sc vs ls X) {r : Rp α} {s : Rp β} {xs : List α} {Tgt : Ctx → α → Ctx → Prop} {js : List Nat} {Γb : α → Ctx} (own : List (Str × Nat)) (vs' ls' : List Nat) (ff : α → β)
    (hi : DI X B Γ tg iter r xs) (hg : ∀ X' L, XC P w K mg base k N (relS scope sc) vs' ls' X' → DG X' (B.lo L) tg r Tgt js) (ht : ∀ x, Tgt Γ x (Γb x))
    (he : ∀ X' L x, XC P w K mg base k N (relS scope sc) vs' ls' X' → x ∈ xs → DE X' (B.lo L) (Γb x) elt s (ff x))
    (hz : xs.length ≤ 1000000) (hu : ∀ i ∈ own.map (·.2), Γ[i]? = some .un := by decide)
    (hok : blkC N sc scope own = true := by decide +kernel) (hv : visB N (relS scope sc) vs' = true := by decide +kernel) (hl : locC N scope sc ls' = true := by decide +kernel) (hk : scope.kind = .function := by rfl)
    (hjs : ∀ j ∈ js, j ∈ own.map (·.2) := by decide) (hs : ∀ x, foldedSetIterable iter X.env x = pure x := by intro _; rfl) : LcOk X B Γ elt tg iter [] scope s (xs.map ff) := by
  have h := c_lcF (ifs := []) c own vs' ls' (fun _ => true) ff hi hg ht (fun X' L x _ _ => dts_nil) (fun X' L x c' hm _ => he X' L x c' hm) hz hu hok hv hl hk hjs hs
  have e : xs.filter (fun _ => true) = xs := by simp
  rw [e] at h
  exact h
theorem dm_lc (c : XC P w K mg base k N sc vs ls X) {s : Rp β} {res : List β} (h : LcOk X B Γ elt tg iter ifs scope s res) : DM X B Γ (.ListComp elt [⟨tg, iter, ifs, 0⟩] scope pos) s res := by
  obtain ⟨own, wi, g, tt, te, h1, h2, h3, h4, h5, h6, h7⟩ := h
  exact pe_weak (pe_lc c.calm c.nd h1 h2 h3 h4 h5 h6) h7
theorem sw_cell {gs : List Comprehension} {py : Pos} {y : Str} {l : Nat} {env : PySem.Env} (hy : env.scope.names.lookup y = some .cell) : swapsWith (.ListComp elt gs scope pos) (some (.Name y py)) l env = pure false := by
  have ky : env.kindOf y = some .cell := hy
  unfold swapsWith
  simp only [ky]
  have : (some NameKind.cell == some NameKind.local) = false := by decide
  simp [this]
/-- y = [..] -/
theorem ps_lc (c : XC P w K mg base k N sc vs ls X) (i : Nat) {y : Str} {py spos : Pos} {s : Rp β} {res : List β} (h : LcOk X B Γ elt tg iter ifs scope s res) (hN : N[i]? = some y) (hl : ls.contains i = true)
    (hsw : (py.line == pos.line) = true) (ha : (scope.names.any fun (n, k) => n == y && (k == .local || k == .cell)) = false) : PS X (.Assign [.Name y py] (.ListComp elt [⟨tg, iter, ifs, 0⟩] scope pos) spos) (tAsg (tDM B Γ s res) (gName i)) := by
  have hN' : X.N[i]? = some y := by rw [c.N]; exact hN
  obtain ⟨hloc, hfn⟩ := c.loc i y hN' hl
  rcases hloc with z | z
  · obtain ⟨own, wi, g, tt, te, h1, h2, h3, h4, h5, h6, h7⟩ := h
    exact ps_weak (ps_setLc c.calm c.nd hN' z (sw_true c.kind z hsw ha) h1 h2 h3 h4 h5 h6) fun D σ H q => h7 σ H _ q
  · exact ps_set c.nd hN' (.inr z) (dm_lc c h) (sw_cell z) hfn
theorem c_asgLc (c : XC P w K mg base k N sc vs ls X) (i : Nat) {y : Str} {py spos : Pos} {s : Rp β} {res : List β} {Γ' : List β → Ctx} (h : LcOk X B Γ elt tg iter ifs scope s res) (t : ∀ a, To Γ i (.val (rList s) a) (Γ' a)) (hr : ∀ a, a = res → SD X B (Γ' a) rest D)
    (hN : N[i]? = some y := by rfl) (hl : ls.contains i = true := by rfl) (hsw : (py.line == pos.line) = true := by rfl) (ha : (scope.names.any fun (n, k) => n == y && (k == .local || k == .cell)) = false := by decide +kernel) :
    SD X B Γ (.Assign [.Name y py] (.ListComp elt [⟨tg, iter, ifs, 0⟩] scope pos) spos :: rest) D :=
  sd_cons (ps_lc c i h hN hl hsw ha) (fun D' l σ H ⟨F, en⟩ => ⟨F, en, fun p us F' H' e1 h2 h3 h4 h5 => l.nx _ _ ⟨upd F' p (.lst us), (en.ext (e1.frzNew h2 h3 h4)).put (t res) ⟨p, us, rfl, upd_same, Rl.imp (fun _ _ => s.mono (same_new h2)) h5⟩⟩⟩) (hr res rfl)
theorem c_asgLcM (c : XC P w K mg base k N sc vs ls X) (i : Nat) {y : Str} {py spos : Pos} {s : Rp β} {res : List β} {Γ' : List β → Ctx} (h : LcOk X B Γ elt tg iter ifs scope s res) (t : ∀ a, To Γ i (.own (oList s) a) (Γ' a)) (hr : ∀ a, a = res → SD X B (Γ' a) rest D)
    (hN : N[i]? = some y := by rfl) (hl : ls.contains i = true := by rfl) (hsw : (py.line == pos.line) = true := by rfl) (ha : (scope.names.any fun (n, k) => n == y && (k == .local || k == .cell)) = false := by decide +kernel) :
    SD X B Γ (.Assign [.Name y py] (.ListComp elt [⟨tg, iter, ifs, 0⟩] scope pos) spos :: rest) D :=
  sd_cons (ps_lc c i h hN hl hsw ha) (fun D' l σ H ⟨F, en⟩ => ⟨F, en, fun p us F' H' e1 h2 h3 h4 h5 => l.nx _ _ ⟨F', en.putOwn (t res) e1 ⟨p, us, rfl, rfl, h4, h5⟩ (fun b hb => by subst hb; exact ⟨h2, h3, by rw [h4]; intro z; cases z⟩)⟩⟩) (hr res rfl)
end
end DL
namespace DL
open PySem L2 PySem.Spec PyProof.Rows

/-! ### looks at slots, in short -/
inductive Uns : Ctx → List Nat → Prop where
  | nil {Γ : Ctx} : Uns Γ []
  | cons {Γ : Ctx} {i : Nat} {is : List Nat} : At Γ i .un → Uns Γ is → Uns Γ (i :: is)
theorem Uns.all {Γ : Ctx} {is : List Nat} (h : Uns Γ is) : ∀ i ∈ is, Γ[i]? = some .un := by
  induction h with
  | nil => intro i hi; cases hi
  | cons a _ ih =>
    intro i hi
    rcases List.mem_cons.mp hi with rfl | hi
    · exact a.get
    · exact ih i hi
/-- from slots to slots: kept, forgotten, the same by an equation -/
inductive Cv : Ctx → Ctx → Prop where
  | nil : Cv [] []
  | k {s : Sl} {Γ Γ' : Ctx} : Cv Γ Γ' → Cv (s :: Γ) (s :: Γ')
  | u {s : Sl} {Γ Γ' : Ctx} : Cv Γ Γ' → Cv (s :: Γ) (.un :: Γ')
  | e {α : Type} {r : Rp α} {a a' : α} {Γ Γ' : Ctx} (h : a = a') : Cv Γ Γ' → Cv (.val r a :: Γ) (.val r a' :: Γ')
  | o {α : Type} {r : Own α} {a a' : α} {Γ Γ' : Ctx} (h : a = a') : Cv Γ Γ' → Cv (.own r a :: Γ) (.own r a' :: Γ')
theorem Cv.refl : ∀ Γ : Ctx, Cv Γ Γ
  | [] => .nil
  | _ :: Γ => .k (Cv.refl Γ)
theorem Cv.at_ {Γ Γ' : Ctx} (c : Cv Γ Γ') : Γ'.length = Γ.length ∧ ∀ (i : Nat) (s : Sl), Γ'[i]? = some s → Γ[i]? = some s ∨ s = .un := by
  induction c with
  | nil => exact ⟨rfl, fun i s h => .inl h⟩
  | k c ih =>
    refine ⟨by simp [ih.1], fun i s h => ?_⟩
    cases i with
    | zero => exact .inl h
    | succ i => exact ih.2 i s (by simpa using h)
  | u c ih =>
    refine ⟨by simp [ih.1], fun i s h => ?_⟩
    cases i with
    | zero => exact .inr (by simpa using h.symm)
    | succ i => exact ih.2 i s (by simpa using h)
  | e q c ih =>
    subst q
    refine ⟨by simp [ih.1], fun i s h => ?_⟩
    cases i with
    | zero => exact .inl h
    | succ i => exact ih.2 i s (by simpa using h)
  | o q c ih =>
    subst q
    refine ⟨by simp [ih.1], fun i s h => ?_⟩
    cases i with
    | zero => exact .inl h
    | succ i => exact ih.2 i s (by simpa using h)
theorem Env.cv {B : Bs} {Γ Γ' : Ctx} (c : Cv Γ Γ') (σ : L2.St) (F H : Hp) (h : Env B Γ σ F H) : Env B Γ' σ F H := by
  obtain ⟨fp, h⟩ := h
  obtain ⟨hl, hc⟩ := c.at_
  refine ⟨fun i => match Γ'[i]? with | some .un => fun _ => False | _ => fp i, by rw [hl]; exact h.len, h.base, h.same, h.low, fun i s hs => ?_, fun i hi b hb => ?_, fun i j hij b hb => ?_⟩
  · rcases hc i s hs with q | q
    · rw [hs]
      have z := h.ok i s q
      cases s with
      | un => exact fun _ w => w
      | val r a => exact z
      | own o a => exact z
    · subst q
      rw [hs]
      exact fun _ w => w
  · rw [hi] at hb
    refine h.out i ?_ b hb
    rw [List.getElem?_eq_none_iff] at hi ⊢
    omega
  · have q1 : fp i b := by
      revert hb
      cases Γ'[i]? with
      | none => exact fun z => z
      | some s => cases s with
        | un => exact fun z => z.elim
        | val r a => exact fun z => z
        | own o a => exact fun z => z
    intro hb2
    have q2 : fp j b := by
      revert hb2
      cases Γ'[j]? with
      | none => exact fun z => z
      | some s => cases s with
        | un => exact fun z => z.elim
        | val r a => exact fun z => z
        | own o a => exact fun z => z
    exact h.apart i j hij b q1 q2
theorem EnvP.cv {B : Bs} {Γ Γ' : Ctx} (c : Cv Γ Γ') (σ : L2.St) (H : Hp) (h : EnvP B Γ σ H) : EnvP B Γ' σ H := let ⟨F, x⟩ := h; ⟨F, x.cv c⟩
/-- the end of a block: on to the slots Γ' -/
theorem sd_go {X : Cx} {B : Bs} {Γ Γ' : Ctx} {D : Ends} (c : Cv Γ Γ') (h : ∀ σ H, EnvP B Γ' σ H → D.nx σ H) : SD X B Γ [] D := sd_nil fun σ H e => h σ H (EnvP.cv c σ H e)
/-- the end of a loop's turn -/
theorem sd_turn {X : Cx} {B : Bs} {Γ : Ctx} {D : Ends} {S : Type} {Γs : S → Ctx} {Φ : S → Prop} (s : S) (c : Cv Γ (Γs s)) (h : Φ s) (hn : D.nx = fun σ H => ∃ s', Φ s' ∧ EnvP B (Γs s') σ H := by rfl) : SD X B Γ [] D := sd_nil fun σ H e => by
  rw [hn]
  exact ⟨s, h, EnvP.cv c σ H e⟩
theorem sd_cv {X : Cx} {B : Bs} {Γ Γ' : Ctx} {D : Ends} {ss : List Stmt} (c : Cv Γ Γ') (h : SD X B Γ' ss D) : SD X B Γ ss D := sd_env (EnvP.cv c) h

/-! ### items -/
def gI {α : Type} [Inhabited α] (xs : List α) (i : Int) : α := (atI xs i).getD default
theorem atI_in {α : Type} [Inhabited α] {xs : List α} {i : Int} (h : -(xs.length : Int) ≤ i ∧ i < xs.length) : atI xs i = some (gI xs i) := by
  have : ∃ v, atI xs i = some v := by
    unfold atI ixN
    by_cases h0 : 0 ≤ i
    · rw [if_pos h0, if_pos h.2]
      exact ⟨xs[i.toNat]'(by omega), List.getElem?_eq_getElem (by omega)⟩
    · rw [if_neg h0, if_pos h.1]
      exact ⟨xs[(i + xs.length).toNat]'(by omega), List.getElem?_eq_getElem (by omega)⟩
  obtain ⟨v, hv⟩ := this
  unfold gI
  rw [hv]; rfl
theorem gI_nat {α : Type} [Inhabited α] {xs : List α} {i : Int} (h0 : 0 ≤ i) : gI xs i = xs.getD i.toNat default := by
  unfold gI atI ixN
  rw [if_pos h0]
  by_cases h : i < xs.length
  · rw [if_pos h]; simp [List.getD]
  · rw [if_neg h]
    have : xs[i.toNat]? = none := List.getElem?_eq_none (by omega)
    simp [List.getD, this]
theorem Rl.atI {α : Type} {R : V → α → Prop} {us : List V} {as : List α} {i : Int} {a : α} (h : Rl R us as) (q : L2.atI as i = some a) : ∃ v, L2.atI us i = some v ∧ R v a := by
  unfold L2.atI at q ⊢
  rw [h.length]
  cases z : ixN as.length i with
  | none => rw [z] at q; cases q
  | some j => rw [z] at q; exact h.get q
/-- xs[lo:hi] -/
def cutL {α : Type} (xs : List α) (lo hi : Option Int) : List α := (xs.drop (HT.sIx xs.length 0 lo)).take (HT.sIx xs.length xs.length hi - HT.sIx xs.length 0 lo)
theorem Rl.cut {α : Type} {R : V → α → Prop} {us : List V} {as : List α} {lo hi : Option Int} (h : Rl R us as) : Rl R (cutV us lo hi) (cutL as lo hi) := by
  unfold cutV cutL
  rw [h.length]
  exact Rl.take _ (Rl.drop _ h)

section
variable {P : Program} {w : World} {K : PySem.W.Frag} {mg : Str → Option Value} {base : Heap} {k j : Nat} {N : List Str} {sc : Scope} {vs ls : List Nat} {X : Cx} {α β γ ι ρ : Type} {B : Bs} {Γ Γ' : Ctx} {e a b : Expr} {es : List Expr} {D : Ends} {rest ss : List Stmt} {p pos : Pos} {x : Str}
theorem de_ixL [Inhabited α] {r : Rp α} {xs : List α} {i : Int} (ha : DE X B Γ a (rList r) xs) (hb : DE X B Γ b rInt i) (h : -(xs.length : Int) ≤ i ∧ i < xs.length) (hs : PlainIx b := by intro _ _; rfl) : DE X B Γ (.Subscript a b pos) r (gI xs i) :=
  pe_weak (pe_ix ix_list ha hb hs) fun σ H Q ⟨F, en, q⟩ => ⟨F, en, fun v F1 H1 e1 ⟨p, us, h1, h2, h3⟩ => ⟨F1, en.ext e1, fun u F2 H2 e2 h4 => by
    obtain ⟨v', q1, q2⟩ := h3.atI (atI_in h)
    exact ⟨p, us, i, v', h1, h4, SqL.of (e2.i _ _ (e2.f _ _ h2)), q1, q v' F2 H2 (e1.trans e2) (r.mono e2.f q2)⟩⟩⟩
theorem de_ixT [Inhabited α] {r : Rp α} {xs : List α} {i : Int} (ha : DE X B Γ a (rTup r) xs) (hb : DE X B Γ b rInt i) (h : -(xs.length : Int) ≤ i ∧ i < xs.length) (hs : PlainIx b := by intro _ _; rfl) : DE X B Γ (.Subscript a b pos) r (gI xs i) :=
  pe_weak (pe_ix ix_tup ha hb hs) fun σ H Q ⟨F, en, q⟩ => ⟨F, en, fun v F1 H1 e1 ⟨p, us, h1, h2, h3⟩ => ⟨F1, en.ext e1, fun u F2 H2 e2 h4 => by
    obtain ⟨v', q1, q2⟩ := h3.atI (atI_in h)
    exact ⟨p, us, i, v', h1, h4, SqT.of (e2.i _ _ (e2.f _ _ h2)), q1, q v' F2 H2 (e1.trans e2) (r.mono e2.f q2)⟩⟩⟩
theorem c_ixScr (c : XC P w K mg base k N sc vs ls X) {xs : List Int} {i : Int} (ha : DE X B Γ a (rScr K) xs) (hb : DE X B Γ b rInt i) (h : -(xs.length : Int) ≤ i ∧ i < xs.length) (hs : PlainIx b := by intro _ _; rfl) : DE X B Γ (.Subscript a b pos) rInt (gI xs i) :=
  pe_weak (pe_ix ix_list ha hb hs) fun σ H Q ⟨F, en, q⟩ => ⟨F, en, fun v F1 H1 e1 ⟨p, h1, h2⟩ => ⟨F1, en.ext e1, fun u F2 H2 e2 h4 => by
    have hr : Rl (fun v (n : Int) => v = V.int n) (xs.map V.int) xs := Rl.of_map (f := V.int) (fun a => rfl) xs
    obtain ⟨v', q1, q2⟩ := hr.atI (atI_in h)
    exact ⟨p, _, i, v', h1, h4, by rw [c.K]; exact e2.i.seq (e2.f.seq h2), q1, q v' F2 H2 (e1.trans e2) q2⟩⟩⟩
theorem de_ixP0 {r : Rp α} {s : Rp β} {z : α × β} {j p2} (ha : DE X B Γ a (rPair r s) z) : DE X B Γ (.Subscript a (.Constant (.int 0) j p2) pos) r z.1 :=
  pe_weak (pe_ix ix_tup ha pe_int (by intro _ _; rfl)) fun σ H Q ⟨F, en, q⟩ => ⟨F, en, fun v F1 H1 e1 ⟨p, u, u', h1, h2, h3, h4⟩ => ⟨p, [u, u'], 0, u, h1, rfl, SqT.of (e1.i _ _ h2), rfl, q u F1 H1 e1 h3⟩⟩
theorem de_ixP1 {r : Rp α} {s : Rp β} {z : α × β} {j p2} (ha : DE X B Γ a (rPair r s) z) : DE X B Γ (.Subscript a (.Constant (.int 1) j p2) pos) s z.2 :=
  pe_weak (pe_ix ix_tup ha pe_int (by intro _ _; rfl)) fun σ H Q ⟨F, en, q⟩ => ⟨F, en, fun v F1 H1 e1 ⟨p, u, u', h1, h2, h3, h4⟩ => ⟨p, [u, u'], 1, u', h1, rfl, SqT.of (e1.i _ _ h2), rfl, q u' F1 H1 e1 h4⟩⟩
/-! texts -/
theorem okT_append {s t : Txt} (h1 : okT s = true) (h2 : okT t = true) : okT (s ++ t) = true := by unfold okT at *; rw [List.all_append, h1, h2]; rfl
theorem okT_sub {s t : Txt} (h : ∀ c ∈ s, c ∈ t) (h2 : okT t = true) : okT s = true := List.all_eq_true.mpr fun c hc => List.all_eq_true.mp h2 c (h c hc)
theorem tx_len (t : Txt) : (tx t).length = t.length := by show t.toArray.size = _; simp
theorem tx_app (s t : Txt) : tx s ++ tx t = tx (s ++ t) := by
  show (⟨s.toArray ++ t.toArray⟩ : Str) = ⟨(s ++ t).toArray⟩
  congr 1
  simp
theorem de_ixS {t : Txt} {i : Int} (ha : DE X B Γ a rTxt t) (hb : DE X B Γ b rInt i) (h : -(t.length : Int) ≤ i ∧ i < t.length) (hz : t.length ≤ 1000000) (hs : PlainIx b := by intro _ _; rfl) : DE X B Γ (.Subscript a b pos) rTxt [gI t i] :=
  pe_weak (pe_ix ix_str ha hb hs) fun σ H Q ⟨F, en, q⟩ => ⟨F, en, fun v F1 H1 e1 h1 => ⟨F1, en.ext e1, fun u F2 H2 e2 h4 => by
    have q1 := atI_in h
    refine ⟨tx t, i, gI t i, h1.1, h4, ?_, ?_, q _ F2 H2 (e1.trans e2) ⟨rfl, okT_sub (fun c hc => ?_) h1.2⟩⟩
    · rw [tx_len]; exact Nat.le_trans hz (by decide)
    · show atI (t.toArray.toList) i = _; simpa using q1
    · have : c = gI t i := by simpa using hc
      subst this
      obtain ⟨j, _, hj, _⟩ := atI_get q1
      exact List.mem_of_getElem? hj⟩⟩
theorem de_catS {s t : Txt} (ha : DE X B Γ a rTxt s) (hb : DE X B Γ b rTxt t) (hz : s.length + t.length ≤ 1000000) : DE X B Γ (.BinOp a .Add b pos) rTxt (s ++ t) :=
  de_op (ra := rTxt) (rb := rTxt) (rc := rTxt) (x := s) (y := t) op_add_str (fun F H u v sm h1 h2 Q q => ⟨tx s, tx t, h1.1, h2.1, by rw [tx_len, tx_len]; exact Nat.le_trans hz (by decide), by rw [tx_app]; exact q _ F H (Ext.refl sm) ⟨rfl, okT_append h1.2 h2.2⟩⟩) ha hb
theorem tx_inj {s t : Txt} (h : tx s = tx t) : s = t := by
  have h1 : (tx s).cps.toList = (tx t).cps.toList := by rw [h]
  simpa [tx] using h1
theorem dc_eqS {s t : Txt} (ha : DE X B Γ a rTxt s) (hb : DE X B Γ b rTxt t) : DC X B Γ (.Compare a [.Eq] [b] pos) (decide (s = t)) :=
  dc_cmp (ra := rTxt) (rb := rTxt) op_eq (fun F H u v sm h1 h2 Q q => by
    rw [h1.1, h2.1]
    exact ⟨rfl, q _ F H (Ext.refl sm) (by
      show V.bl _ = V.bl _
      congr 1
      by_cases z : s = t
      · subst z; simp
      · have : ¬ V.str (tx s) = V.str (tx t) := fun w => z (tx_inj (V.str.inj w))
        simp [z, this])⟩) (nomark _) ha hb
theorem dc_neS {s t : Txt} (ha : DE X B Γ a rTxt s) (hb : DE X B Γ b rTxt t) : DC X B Γ (.Compare a [.NotEq] [b] pos) (!decide (s = t)) :=
  dc_cmp (ra := rTxt) (rb := rTxt) op_ne (fun F H u v sm h1 h2 Q q => by
    rw [h1.1, h2.1]
    exact ⟨rfl, q _ F H (Ext.refl sm) (by
      show V.bl _ = V.bl _
      congr 1
      by_cases z : s = t
      · subst z; simp
      · have : ¬ V.str (tx s) = V.str (tx t) := fun w => z (tx_inj (V.str.inj w))
        simp [z, this])⟩) (nomark _) ha hb
/-! slices -/
theorem c_slice {r3 : V → Option Int → Option Int → Hp → VK → Prop} {lo hi : Option Expr} {p2 : Pos} {tl th : TO} (hr : SlR X r3) {te : TE} (he : PE X e te) (hl : PO X lo tl) (hu : PO X hi th) : PE X (.Subscript e (.Slice lo hi none p2) pos) (tSl r3 te tl th) := pe_slice hr he hl hu
/-- an end of a slice -/
def tDO (B : Bs) (Γ : Ctx) (o : Option Int) : TO := fun σ H Q => ∃ F, Env B Γ σ F H ∧ ∀ F' H', Ext F H F' H' → Q o H'
abbrev DO (X : Cx) (B : Bs) (Γ : Ctx) (e : Option Expr) (o : Option Int) : Prop := PO X e (tDO B Γ o)
theorem do_none : DO X B Γ none none := ⟨fun pins s σ H Q I ⟨F, en, q⟩ => po_none.run pins s σ H Q I (q F H (Ext.refl en.same))⟩
theorem do_some {i : Int} (h : DE X B Γ e rInt i) : DO X B Γ (some e) (some i) := ⟨fun pins s σ H Q I ⟨F, en, q⟩ => (po_some h).run pins s σ H Q I ⟨F, en, fun v F1 H1 e1 h1 => ⟨i, h1, q F1 H1 e1⟩⟩⟩
theorem dm_sl {r : Rp α} {xs : List α} {lo hi : Option Expr} {l h : Option Int} {p2 : Pos} (he : DE X B Γ e (rList r) xs) (hl : DO X B Γ lo l) (hh : DO X B Γ hi h) : DM X B Γ (.Subscript e (.Slice lo hi none p2) pos) r (cutL xs l h) :=
  pe_weak (pe_slice sl_list he hl hh) fun σ H Q ⟨F, en, q⟩ => ⟨F, en, fun v F1 H1 e1 ⟨p, us, h1, h2, h3⟩ => ⟨F1, en.ext e1, fun F2 H2 e2 => ⟨F2, en.ext (e1.trans e2), fun F3 H3 e3 => by
    have s3 := e2.f.trans e3.f
    refine ⟨p, us, h1, SqL.of (e3.i _ _ (s3 _ _ h2)), fun p' hp' => ?_⟩
    have e4 := Ext.newH e3.i (.lst (cutV us l h)) hp'
    have eA := (e1.trans (e2.trans e3))
    exact q p' _ F3 _ (eA.trans e4) (e3.i.free hp') (eA.h.free hp') upd_same (Rl.imp (fun _ _ => r.mono s3) h3.cut)⟩⟩⟩
theorem tx_cut {t : Txt} {l h : Option Int} : cutS (tx t) l h = tx (cutL t l h) := by
  unfold cutS cutL
  rw [tx_len]
  show (⟨_⟩ : Str) = ⟨_⟩
  have : (tx t).cps.toList = t := by simp [tx]
  rw [this]
theorem de_slS {t : Txt} {lo hi : Option Expr} {l h : Option Int} {p2 : Pos} (he : DE X B Γ e rTxt t) (hl : DO X B Γ lo l) (hh : DO X B Γ hi h) (hz : t.length ≤ 1000000) : DE X B Γ (.Subscript e (.Slice lo hi none p2) pos) rTxt (cutL t l h) :=
  pe_weak (pe_slice sl_str he hl hh) fun σ H Q ⟨F, en, q⟩ => ⟨F, en, fun v F1 H1 e1 h1 => ⟨F1, en.ext e1, fun F2 H2 e2 => ⟨F2, en.ext (e1.trans e2), fun F3 H3 e3 => by
    refine ⟨tx t, h1.1, by rw [tx_len]; exact Nat.le_trans hz (by decide), q _ F3 H3 (e1.trans (e2.trans e3)) ⟨by rw [tx_cut], okT_sub (fun c hc => ?_) h1.2⟩⟩
    exact List.mem_of_mem_drop (List.mem_of_mem_take hc)⟩⟩⟩
/-! lists -/
theorem dm_cat {r : Rp α} {xs ys : List α} (ha : DE X B Γ a (rList r) xs) (hb : DE X B Γ b (rList r) ys) (hz : xs.length + ys.length ≤ 1000000) : DM X B Γ (.BinOp a .Add b pos) r (xs ++ ys) :=
  pe_weak (pe_op op_cat ha hb) fun σ H Q ⟨F, en, q⟩ => ⟨F, en, fun v F1 H1 e1 ⟨p, us, h1, h2, h3⟩ => ⟨F1, en.ext e1, fun v' F2 H2 e2 ⟨p', us', h1', h2', h3'⟩ => by
    refine ⟨p, p', us, us', h1, h1', e2.i _ _ (e2.f _ _ h2), e2.i _ _ h2', by rw [h3.length, h3'.length]; exact Nat.le_trans hz (by decide), fun p3 hp => ?_⟩
    have e3 := Ext.newH e2.i (.lst (us ++ us')) hp
    have eA := e1.trans e2
    exact q p3 _ F2 _ (eA.trans e3) (e2.i.free hp) (eA.h.free hp) upd_same (Rl.append (Rl.imp (fun _ _ => r.mono e2.f) h3) h3')⟩⟩
def repL {α : Type} (n : Int) (xs : List α) : List α := (List.replicate n.toNat xs).flatten
theorem Rl.rep {R : V → α → Prop} {us : List V} {as : List α} (h : Rl R us as) : ∀ n : Nat, Rl R (List.replicate n us).flatten (List.replicate n as).flatten
  | 0 => trivial
  | n + 1 => by rw [List.replicate_succ, List.replicate_succ, List.flatten_cons, List.flatten_cons]; exact Rl.append h (Rl.rep h n)
theorem dm_rev {r : Rp α} {xs : List α} {k : Nat} {p1 p2 p3 : Pos} (he : DE X B Γ e (rList r) xs) : DM X B Γ (.Subscript e (.Slice none none (some (.UnaryOp .USub (.Constant (.int 1) k p1) p2)) p3) pos) r xs.reverse :=
  pe_weak (pe_revL he) fun σ H Q ⟨F, en, q⟩ => ⟨F, en, fun v F1 H1 e1 ⟨p, us, h1, h2, h3⟩ => ⟨p, us, h1, SqL.of (e1.i _ _ h2), fun p' hp' => by
    have e3 := Ext.newH e1.i (.lst us.reverse) hp'
    exact q p' _ F1 _ (e1.trans e3) (e1.i.free hp') (e1.h.free hp') upd_same h3.reverse⟩⟩
/-- f(e), f a built-in function of one argument -/
theorem c_bi1 (c : XC P w K mg base k N sc vs ls X) {id : String} {r1 : List V → Hp → VK → Prop} {ra : Rp α} {y : α} (hc : CallR X (.builtin id) r1) (hm : mg x = none) (hv : bootBuiltins x = some (.builtin id)) (ha : DE X B Γ e ra y)
    {t : TE} (hr : ∀ σ H Q, t σ H Q → tCB r1 (tCons (tD B Γ ra y) tNil) σ H Q) (hg : glB sc x = true) (hn : x ≠ "__name__") (hdb : (x == ("__debug__" : Str)) = false) (he : starEach [e] X.env = [(false, eval e X.env)]) : PE X (.Call (.Name x p) [e] [] pos) t :=
  pe_weak (pe_callB hc (gl_of c.sc hg) (by rw [c.mg]; exact hm) hv (pa_cons ha pa_nil he) hn hdb he (by rfl)) hr
theorem c_len (c : XC P w K mg base k N sc vs ls X) {r : Rp α} {xs : List α} (ha : DE X B Γ e (rList r) xs) (hm : mg "len" = none) (hg : glB sc "len" = true := by decide +kernel) (he : starEach [e] X.env = [(false, eval e X.env)] := by rfl) : DE X B Γ (.Call (.Name "len" p) [e] [] pos) rInt (xs.length : Int) :=
  c_bi1 c call_len_seq hm PySem.boot_len ha (fun σ H Q ⟨F, en, q⟩ => ⟨F, en, fun v F1 H1 e1 ⟨p, us, h1, h2, h3⟩ => ⟨p, us, by rw [h1], .inl (SqL.of (e1.i _ _ h2)), q _ F1 H1 e1 (by rw [h3.length]; rfl)⟩⟩) hg (by decide) (by decide) he
theorem c_lenT (c : XC P w K mg base k N sc vs ls X) {r : Rp α} {xs : List α} (ha : DE X B Γ e (rTup r) xs) (hm : mg "len" = none) (hg : glB sc "len" = true := by decide +kernel) (he : starEach [e] X.env = [(false, eval e X.env)] := by rfl) : DE X B Γ (.Call (.Name "len" p) [e] [] pos) rInt (xs.length : Int) :=
  c_bi1 c call_len_seq hm PySem.boot_len ha (fun σ H Q ⟨F, en, q⟩ => ⟨F, en, fun v F1 H1 e1 ⟨p, us, h1, h2, h3⟩ => ⟨p, us, by rw [h1], .inr (SqT.of (e1.i _ _ h2)), q _ F1 H1 e1 (by rw [h3.length]; rfl)⟩⟩) hg (by decide) (by decide) he
theorem c_lenScr (c : XC P w K mg base k N sc vs ls X) {xs : List Int} (ha : DE X B Γ e (rScr K) xs) (hm : mg "len" = none) (hg : glB sc "len" = true := by decide +kernel) (he : starEach [e] X.env = [(false, eval e X.env)] := by rfl) : DE X B Γ (.Call (.Name "len" p) [e] [] pos) rInt (xs.length : Int) :=
  c_bi1 c call_len_seq hm PySem.boot_len ha (fun σ H Q ⟨F, en, q⟩ => ⟨F, en, fun v F1 H1 e1 ⟨p, h1, h2⟩ => ⟨p, _, by rw [h1], .inl (by rw [c.K]; exact e1.i.seq h2), q _ F1 H1 e1 (by simp; rfl)⟩⟩) hg (by decide) (by decide) he
theorem c_lenS (c : XC P w K mg base k N sc vs ls X) {t : Txt} (ha : DE X B Γ e rTxt t) (hm : mg "len" = none) (hz : t.length ≤ 1000000) (hg : glB sc "len" = true := by decide +kernel) (he : starEach [e] X.env = [(false, eval e X.env)] := by rfl) : DE X B Γ (.Call (.Name "len" p) [e] [] pos) rInt (t.length : Int) :=
  c_bi1 c call_len hm PySem.boot_len ha (fun σ H Q ⟨F, en, q⟩ => ⟨F, en, fun v F1 H1 e1 h1 => ⟨v, t.length, rfl, by rw [h1.1]; exact ⟨by rw [tx_len]; exact Nat.le_trans hz (by decide), by rw [tx_len]⟩, q _ F1 H1 e1 rfl⟩⟩) hg (by decide) (by decide) he
theorem boot_abs' : bootBuiltins "abs" = some (.builtin "abs") := by decide +kernel
theorem c_abs (c : XC P w K mg base k N sc vs ls X) {i : Int} (ha : DE X B Γ e rInt i) (hm : mg "abs" = none) (hg : glB sc "abs" = true := by decide +kernel) (he : starEach [e] X.env = [(false, eval e X.env)] := by rfl) : DE X B Γ (.Call (.Name "abs" p) [e] [] pos) rInt (if i < 0 then -i else i) :=
  c_bi1 c call_abs hm boot_abs' ha (fun σ H Q ⟨F, en, q⟩ => ⟨F, en, fun v F1 H1 e1 h1 => ⟨i, by rw [show v = V.int i from h1], q _ F1 H1 e1 rfl⟩⟩) hg (by decide) (by decide) he
/-- T(e), T a built-in type -/
theorem c_ty1 (c : XC P w K mg base k N sc vs ls X) {T : String} {r1 : List V → Hp → VK → Prop} {ra : Rp α} {y : α} (hc : CallR X (.type T) r1) (hm : mg x = none) (hv : bootBuiltins x = some (.type T)) (ha : DE X B Γ e ra y)
    {t : TE} (hr : ∀ σ H Q, t σ H Q → tCB r1 (tCons (tD B Γ ra y) tNil) σ H Q) (hg : glB sc x = true) (hn : x ≠ "__name__") (hdb : (x == ("__debug__" : Str)) = false) (he : starEach [e] X.env = [(false, eval e X.env)]) : PE X (.Call (.Name x p) [e] [] pos) t :=
  pe_weak (pe_callTy hc (gl_of c.sc hg) (by rw [c.mg]; exact hm) hv (pa_cons ha pa_nil he) hn hdb he (by rfl)) hr
theorem boot_list' : bootBuiltins "list" = some (.type "list") := by decide +kernel
theorem boot_int' : bootBuiltins "int" = some (.type "int") := by decide +kernel
theorem c_list (c : XC P w K mg base k N sc vs ls X) {r : Rp α} {xs : List α} (ha : DE X B Γ e (rList r) xs) (hm : mg "list" = none) (hg : glB sc "list" = true := by decide +kernel) (he : starEach [e] X.env = [(false, eval e X.env)] := by rfl) : DM X B Γ (.Call (.Name "list" p) [e] [] pos) r xs :=
  c_ty1 c call_list_of hm boot_list' ha (fun σ H Q ⟨F, en, q⟩ => ⟨F, en, fun v F1 H1 e1 ⟨p, us, h1, h2, h3⟩ => ⟨p, us, by rw [h1], .inl (SqL.of (e1.i _ _ h2)), fun l hl =>
    have e3 := Ext.newH e1.i (.lst us) hl
    q l us F1 _ (e1.trans e3) (e1.i.free hl) (e1.h.free hl) upd_same h3⟩⟩) hg (by decide) (by decide) he
theorem c_intB (c : XC P w K mg base k N sc vs ls X) {z : Bool} (ha : DE X B Γ e rBool z) (hm : mg "int" = none) (hg : glB sc "int" = true := by decide +kernel) (he : starEach [e] X.env = [(false, eval e X.env)] := by rfl) : DE X B Γ (.Call (.Name "int" p) [e] [] pos) rInt (if z = true then 1 else 0) :=
  c_ty1 c call_int1 hm boot_int' ha (fun σ H Q ⟨F, en, q⟩ => ⟨F, en, fun v F1 H1 e1 h1 => .inr ⟨z, by rw [show v = V.bl z from h1], q _ F1 H1 e1 rfl⟩⟩) hg (by decide) (by decide) he
theorem c_max2 (c : XC P w K mg base k N sc vs ls X) {i j : Int} (ha : DE X B Γ a rInt i) (hb : DE X B Γ b rInt j) (hm : mg "max" = none) (hg : glB sc "max" = true := by decide +kernel) (hs : starEach [a, b] X.env = (false, eval a X.env) :: starEach [b] X.env := by rfl) (hs2 : starEach [b] X.env = [(false, eval b X.env)] := by rfl)
    (hpl : (backTo pos (starEach [b] X.env)).any (·.1) = false := by rfl) : DE X B Γ (.Call (.Name "max" p) [a, b] [] pos) rInt (max i j) :=
  pe_weak (pe_callB (call_max2 c.calm) (gl_of c.sc hg) (by rw [c.mg]; exact hm) (by decide +kernel) (da_cons ha (da_cons hb da_nil hs2) hs) (by decide) (by decide) hs hpl) fun σ H Q ⟨F, en, q⟩ => ⟨F, en, fun us F1 H1 e1 h1 => by
    obtain ⟨u, v, rfl, h2, h3⟩ := h1.two
    refine ⟨i, j, by rw [show u = V.int i from h2, show v = V.int j from h3], q _ F1 H1 e1 ?_⟩
    show V.int _ = V.int _
    congr 1
    split <;> omega⟩
theorem c_min2 (c : XC P w K mg base k N sc vs ls X) {i j : Int} (ha : DE X B Γ a rInt i) (hb : DE X B Γ b rInt j) (hm : mg "min" = none) (hg : glB sc "min" = true := by decide +kernel) (hs : starEach [a, b] X.env = (false, eval a X.env) :: starEach [b] X.env := by rfl) (hs2 : starEach [b] X.env = [(false, eval b X.env)] := by rfl)
    (hpl : (backTo pos (starEach [b] X.env)).any (·.1) = false := by rfl) : DE X B Γ (.Call (.Name "min" p) [a, b] [] pos) rInt (min i j) :=
  pe_weak (pe_callB (call_min2 c.calm) (gl_of c.sc hg) (by rw [c.mg]; exact hm) (by decide +kernel) (da_cons ha (da_cons hb da_nil hs2) hs) (by decide) (by decide) hs hpl) fun σ H Q ⟨F, en, q⟩ => ⟨F, en, fun us F1 H1 e1 h1 => by
    obtain ⟨u, v, rfl, h2, h3⟩ := h1.two
    refine ⟨i, j, by rw [show u = V.int i from h2, show v = V.int j from h3], q _ F1 H1 e1 ?_⟩
    show V.int _ = V.int _
    congr 1
    split <;> omega⟩
theorem rl_bl {us : List V} {bs : List Bool} (h : Rl (fun v a => v = V.bl a) us bs) : us = bs.map V.bl := Rl.map_eq (fun _ _ z => z) h
theorem rl_int {us : List V} {bs : List Int} (h : Rl (fun v a => v = V.int a) us bs) : us = bs.map V.int := Rl.map_eq (fun _ _ z => z) h
theorem rl_str {us : List V} {bs : List Txt} {F : Hp} (h : Rl (rTxt.rel F) us bs) : us = (bs.map tx).map V.str := by
  rw [List.map_map]
  exact Rl.map_eq (fun _ _ z => z.1) h
theorem c_all (c : XC P w K mg base k N sc vs ls X) {xs : List Bool} (ha : DE X B Γ e (rList rBool) xs) (hm : mg "all" = none) (hg : glB sc "all" = true := by decide +kernel) (he : starEach [e] X.env = [(false, eval e X.env)] := by rfl) : DE X B Γ (.Call (.Name "all" p) [e] [] pos) rBool (xs.all id) :=
  c_bi1 c (cr_all c.calm) hm (by decide +kernel) ha (fun σ H Q ⟨F, en, q⟩ => ⟨F, en, fun v F1 H1 e1 ⟨p, us, h1, h2, h3⟩ => ⟨p, xs, by rw [h1], by rw [← rl_bl h3]; exact SqL.of (e1.i _ _ h2), q _ F1 H1 e1 rfl⟩⟩) hg (by decide) (by decide) he
theorem c_any (c : XC P w K mg base k N sc vs ls X) {xs : List Bool} (ha : DE X B Γ e (rList rBool) xs) (hm : mg "any" = none) (hg : glB sc "any" = true := by decide +kernel) (he : starEach [e] X.env = [(false, eval e X.env)] := by rfl) : DE X B Γ (.Call (.Name "any" p) [e] [] pos) rBool (xs.any id) :=
  c_bi1 c (cr_any c.calm) hm (by decide +kernel) ha (fun σ H Q ⟨F, en, q⟩ => ⟨F, en, fun v F1 H1 e1 ⟨p, us, h1, h2, h3⟩ => ⟨p, xs, by rw [h1], by rw [← rl_bl h3]; exact SqL.of (e1.i _ _ h2), q _ F1 H1 e1 rfl⟩⟩) hg (by decide) (by decide) he
theorem c_sum (c : XC P w K mg base k N sc vs ls X) {xs : List Int} (ha : DE X B Γ e (rList rInt) xs) (hm : mg "sum" = none) (hg : glB sc "sum" = true := by decide +kernel) (he : starEach [e] X.env = [(false, eval e X.env)] := by rfl) : DE X B Γ (.Call (.Name "sum" p) [e] [] pos) rInt xs.sum :=
  c_bi1 c (cr_sum c.calm) hm (by decide +kernel) ha (fun σ H Q ⟨F, en, q⟩ => ⟨F, en, fun v F1 H1 e1 ⟨p, us, h1, h2, h3⟩ => ⟨p, xs, by rw [h1], by rw [← rl_int h3]; exact SqL.of (e1.i _ _ h2), q _ F1 H1 e1 rfl⟩⟩) hg (by decide) (by decide) he
/-! order of lists of whole numbers -/
def ltL : List Int → List Int → Bool
  | _, [] => false
  | [], _ :: _ => true
  | x :: xs, y :: ys => if x = y then ltL xs ys else decide (x < y)
theorem firstLt_ltL (xs ys : List Int) : ∀ (n i : Nat), min xs.length ys.length = i + n → SeqAt.firstLt (fun j => decide (xs.getD j 0 = ys.getD j 0)) (fun j => decide (xs.getD j 0 < ys.getD j 0)) (decide (xs.length < ys.length)) ((List.range n).map (i + ·)) = ltL (xs.drop i) (ys.drop i)
  | 0, i, h => by
    show decide (xs.length < ys.length) = _
    by_cases hx : xs.length ≤ i
    · rw [List.drop_eq_nil_of_le hx]
      by_cases hy : ys.length ≤ i
      · rw [List.drop_eq_nil_of_le hy]
        show _ = false
        exact decide_eq_false (by omega)
      · rw [List.drop_eq_getElem_cons (by omega)]
        show _ = true
        exact decide_eq_true (by omega)
    · have hy : ys.length ≤ i := by omega
      rw [List.drop_eq_nil_of_le hy]
      have : ltL (xs.drop i) [] = false := by cases xs.drop i <;> rfl
      rw [this]
      exact decide_eq_false (by omega)
  | n + 1, i, h => by
    have hx : i < xs.length := by omega
    have hy : i < ys.length := by omega
    rw [List.drop_eq_getElem_cons hx, List.drop_eq_getElem_cons hy]
    have e : (List.range (n + 1)).map (i + ·) = i :: (List.range n).map (i + 1 + ·) := by
      rw [List.range_succ_eq_map, List.map_cons, List.map_map]
      congr 1
      refine List.map_congr_left fun a _ => ?_
      show i + (a + 1) = i + 1 + a
      omega
    rw [e]
    have gx : xs.getD i 0 = xs[i] := by simp [List.getD, hx]
    have gy : ys.getD i 0 = ys[i] := by simp [List.getD, hy]
    show (if (decide (xs.getD i 0 = ys.getD i 0)) = true then _ else decide (xs.getD i 0 < ys.getD i 0)) = (if xs[i] = ys[i] then _ else _)
    rw [gx, gy]
    by_cases q : xs[i] = ys[i]
    · rw [if_pos (decide_eq_true q), if_pos q]
      exact firstLt_ltL xs ys n (i + 1) (by omega)
    · rw [if_neg (by rw [decide_eq_false q]; decide), if_neg q]
theorem firstGt_ltL (xs ys : List Int) : SeqAt.firstLt (fun j => decide (xs.getD j 0 = ys.getD j 0)) (fun j => decide (ys.getD j 0 < xs.getD j 0)) (decide (ys.length < xs.length)) (List.range (min xs.length ys.length)) = ltL ys xs := by
  have h := firstLt_ltL ys xs (min xs.length ys.length) 0 (by omega)
  simp only [Nat.zero_add, List.map_id', List.drop_zero] at h
  rw [← h]
  congr 1
  funext j
  exact decide_eq_decide.mpr ⟨Eq.symm, Eq.symm⟩
theorem firstLt_ltL0 (xs ys : List Int) : SeqAt.firstLt (fun j => decide (xs.getD j 0 = ys.getD j 0)) (fun j => decide (xs.getD j 0 < ys.getD j 0)) (decide (xs.length < ys.length)) (List.range (min xs.length ys.length)) = ltL xs ys := by
  have h := firstLt_ltL xs ys (min xs.length ys.length) 0 (by omega)
  simpa only [Nat.zero_add, List.map_id', List.drop_zero] using h
def rCmpL (K : PySem.W.Frag) (f : List Int → List Int → Bool) : R2 := fun x y H Q => ∃ (a b : Addr) (ns ms : List Int), x = .ref a ∧ y = .ref b ∧ SqL K H a (ns.map V.int) ∧ SqL K H b (ms.map V.int) ∧ Q (.bl (f ns ms)) H
theorem op_ltL (hu : X.A.units < cLine) : OpR X (compareOp .Lt) (rCmpL X.K ltL) := by
  intro pins s σ H x y v u Q I rx ry h
  obtain ⟨a, b, ns, ms, rfl, rfl, ha, hb, q⟩ := h
  cases rx
  cases ry
  obtain ⟨its, r1, p1, _⟩ := I.list ha
  obtain ⟨its2, r2, p2, _⟩ := I.list hb
  have i1 : IntsAre its ns := Vals.ints r1
  have i2 : IntsAre its2 ms := Vals.ints r2
  have e1 : its.toArray.size = ns.length := by rw [List.size_toArray]; exact i1.length
  have e2 : its2.toArray.size = ms.length := by rw [List.size_toArray]; exact i2.length
  have at1 : ∀ j (h1 : j < its.toArray.size), ∃ t, its.toArray[j] = .int (ns.getD j 0) t := fun j h1 => PyProof.Rows.IntsAre.int_at i1 _ _ (by simp at h1; simp [h1])
  have at2 : ∀ j (h1 : j < its2.toArray.size), ∃ t, its2.toArray[j] = .int (ms.getD j 0) t := fun j h1 => PyProof.Rows.IntsAre.int_at i2 _ _ (by simp at h1; simp [h1])
  have R := SeqAt.RcLt.lists (A := X.A) (s := s) (e := fun j => decide (ns.getD j 0 = ms.getD j 0)) (r := fun j => decide (ns.getD j 0 < ms.getD j 0)) p1.isList p2.isList hu (fun j h1 h2 => by
    obtain ⟨t, et⟩ := at1 j h1
    obtain ⟨t', et'⟩ := at2 j h2
    rw [et, et']
    have z : (ns.getD j 0 == ms.getD j 0) = decide (ns.getD j 0 = ms.getD j 0) := by
      by_cases q : ns.getD j 0 = ms.getD j 0
      · rw [decide_eq_true q]; exact beq_iff_eq.mpr q
      · rw [decide_eq_false q]; exact beq_eq_false_iff_ne.mpr q
    rw [← z]
    exact SeqAt.EqAt.int_int _ _ _ _) (fun j h1 h2 _ => by
    obtain ⟨t, et⟩ := at1 j h1
    obtain ⟨t', et'⟩ := at2 j h2
    rw [et, et']
    exact fun _ _ _ _ h => PyProof.Rows.lt_int h)
  rw [e1, e2, firstLt_ltL0] at R
  have z : wpAny (model X.prog X.w) X.A (compareOp .Lt (.ref a) (.ref b)) (EP X pins σ Q) X.xe s := R X.prog X.w X.xe (EP X pins σ Q) ⟨.bl _, H, I, rfl, q⟩
  exact z
theorem op_gtL (hu : X.A.units < cLine) : OpR X (compareOp .Gt) (rCmpL X.K fun xs ys => ltL ys xs) := by
  intro pins s σ H x y v u Q I rx ry h
  obtain ⟨a, b, ns, ms, rfl, rfl, ha, hb, q⟩ := h
  cases rx
  cases ry
  obtain ⟨its, r1, p1, _⟩ := I.list ha
  obtain ⟨its2, r2, p2, _⟩ := I.list hb
  have i1 : IntsAre its ns := Vals.ints r1
  have i2 : IntsAre its2 ms := Vals.ints r2
  have e1 : its.toArray.size = ns.length := by rw [List.size_toArray]; exact i1.length
  have e2 : its2.toArray.size = ms.length := by rw [List.size_toArray]; exact i2.length
  have at1 : ∀ j (h1 : j < its.toArray.size), ∃ t, its.toArray[j] = .int (ns.getD j 0) t := fun j h1 => PyProof.Rows.IntsAre.int_at i1 _ _ (by simp at h1; simp [h1])
  have at2 : ∀ j (h1 : j < its2.toArray.size), ∃ t, its2.toArray[j] = .int (ms.getD j 0) t := fun j h1 => PyProof.Rows.IntsAre.int_at i2 _ _ (by simp at h1; simp [h1])
  have R := SeqAt.RcOp.lists_gt (A := X.A) (s := s) (e := fun j => decide (ns.getD j 0 = ms.getD j 0)) (r := fun j => decide (ms.getD j 0 < ns.getD j 0)) p1.isList p2.isList hu (fun j h1 h2 => by
    obtain ⟨t, et⟩ := at1 j h1
    obtain ⟨t', et'⟩ := at2 j h2
    rw [et, et']
    have z : (ns.getD j 0 == ms.getD j 0) = decide (ns.getD j 0 = ms.getD j 0) := by
      by_cases q : ns.getD j 0 = ms.getD j 0
      · rw [decide_eq_true q]; exact beq_iff_eq.mpr q
      · rw [decide_eq_false q]; exact beq_eq_false_iff_ne.mpr q
    rw [← z]
    exact SeqAt.EqAt.int_int _ _ _ _) (fun j h1 h2 _ => by
    obtain ⟨t, et⟩ := at1 j h1
    obtain ⟨t', et'⟩ := at2 j h2
    rw [et, et']
    exact fun _ _ _ _ h => PyProof.Rows.gt_int h)
  rw [e1, e2] at R
  have z : wpAny (model X.prog X.w) X.A (compareOp .Gt (.ref a) (.ref b)) (EP X pins σ Q) X.xe s := R X.prog X.w X.xe (EP X pins σ Q) ⟨.bl _, H, I, rfl, by
    have := firstGt_ltL ns ms
    rw [show (decide (ns.length > ms.length)) = decide (ms.length < ns.length) from rfl, this]
    exact q⟩
  exact z
theorem c_ltL (c : XC P w K mg base k N sc vs ls X) {xs ys : List Int} (ha : DE X B Γ a (rList rInt) xs) (hb : DE X B Γ b (rList rInt) ys) : DC X B Γ (.Compare a [.Lt] [b] pos) (ltL xs ys) :=
  dc_cmp (ra := rList rInt) (rb := rList rInt) (op_ltL c.room.units0) (fun F H u v s ⟨p, us, h1, h2, h3⟩ ⟨p', us', h1', h2', h3'⟩ Q q => ⟨p, p', xs, ys, h1, h1', by rw [← rl_int h3]; exact SqL.of (s _ _ h2), by rw [← rl_int h3']; exact SqL.of (s _ _ h2'), q _ F H (Ext.refl s) rfl⟩) (nomark _) ha hb
theorem c_gtL (c : XC P w K mg base k N sc vs ls X) {xs ys : List Int} (ha : DE X B Γ a (rList rInt) xs) (hb : DE X B Γ b (rList rInt) ys) : DC X B Γ (.Compare a [.Gt] [b] pos) (ltL ys xs) :=
  dc_cmp (ra := rList rInt) (rb := rList rInt) (op_gtL c.room.units0) (fun F H u v s ⟨p, us, h1, h2, h3⟩ ⟨p', us', h1', h2', h3'⟩ Q q => ⟨p, p', xs, ys, h1, h1', by rw [← rl_int h3]; exact SqL.of (s _ _ h2), by rw [← rl_int h3']; exact SqL.of (s _ _ h2'), q _ F H (Ext.refl s) rfl⟩) (nomark _) ha hb
end
end DL
namespace DL
open PySem L2 PySem.Spec PyProof.Rows

/-! ### instances -/
def rObj {α : Type} (cls : α → Addr) (names : List Str) (flds : α → Ctx) : Rp α :=
  ⟨fun F v a => ∃ (x dx : Addr) (fs : List (Str × V)), v = .ref x ∧ F x = some (.ins (cls a) dx fs) ∧ fs.map Prod.fst = names ∧ SlsOk F (fs.map Prod.snd) (flds a),
   fun e ⟨x, dx, fs, h1, h2, h3, h4⟩ => ⟨x, dx, fs, h1, e _ _ h2, h3, SlsOk.mono e h4⟩⟩
/-- an instance in the making: at x, its own dict at dx -/
def oObj (C : Addr) (names : List Str) (sls : Ctx) : Own (Addr × Addr) :=
  ⟨fun F H v a fp => v = .ref a.1 ∧ fp = (fun b => b = a.1) ∧ ∃ fs : List (Str × V), H a.1 = some (.ins C a.2 fs) ∧ fs.map Prod.fst = names ∧ SlsOk F (fs.map Prod.snd) sls,
   fun {F F' H H' v a fp} e k ⟨h1, h2, fs, h3, h4, h5⟩ => ⟨h1, h2, fs, by rw [k a.1 (by rw [h2])]; exact h3, h4, SlsOk.mono e h5⟩⟩
theorem look_at : ∀ {fs : List (Str × V)} {names : List Str} {i : Nat} {f : Str}, fs.map Prod.fst = names → names[i]? = some f → (names.take i).contains f = false → ∃ v, (fs.map Prod.snd)[i]? = some v ∧ fs.lookup f = some v
  | [], names, i, f, h1, h2, _ => by subst h1; simp at h2
  | (g, v) :: fs, names, 0, f, h1, h2, _ => by
    subst h1
    have e : g = f := by simpa using h2
    subst e
    exact ⟨v, rfl, by simp [List.lookup]⟩
  | (g, v) :: fs, names, i + 1, f, h1, h2, h3 => by
    subst h1
    simp only [List.map_cons, List.take_succ_cons, List.contains_cons, Bool.or_eq_false_iff] at h3
    obtain ⟨u, q1, q2⟩ := look_at (fs := fs) (i := i) (f := f) rfl (by simpa using h2) h3.2
    refine ⟨u, by simpa using q1, ?_⟩
    rw [List.lookup_cons, h3.1]
    exact q2
theorem look_no : ∀ {fs : List (Str × V)} {names : List Str} {f : Str}, fs.map Prod.fst = names → names.contains f = false → fs.lookup f = none
  | [], _, _, _, _ => rfl
  | (g, v) :: fs, names, f, h1, h3 => by
    subst h1
    simp only [List.map_cons, List.contains_cons, Bool.or_eq_false_iff] at h3
    rw [List.lookup_cons, h3.1]
    exact look_no (fs := fs) rfl h3.2
theorem putF_new : ∀ {fs : List (Str × V)} {names : List Str} {f : Str} {v : V}, fs.map Prod.fst = names → names.contains f = false → putF f v fs = fs ++ [(f, v)]
  | [], _, _, _, _, _ => rfl
  | (g, u) :: fs, names, f, v, h1, h3 => by
    subst h1
    simp only [List.map_cons, List.contains_cons, Bool.or_eq_false_iff] at h3
    have ne : ¬ g = f := fun z => by rw [z] at h3; simp at h3
    show (if g = f then _ else _) = _
    rw [if_neg ne, putF_new (fs := fs) rfl h3.2]
    rfl
theorem slsOk_app {F : Hp} : ∀ {us ws : List V} {Δ Θ : Ctx}, SlsOk F us Δ → SlsOk F ws Θ → SlsOk F (us ++ ws) (Δ ++ Θ)
  | [], _, [], _, _, y => y
  | v :: us, ws, s :: Δ, Θ, x, y => ⟨x.1, slsOk_app x.2 y⟩
  | [], _, _ :: _, _, x, _ => x.elim
  | _ :: _, _, [], _, x, _ => x.elim
/-- what a class must have -/
def FMe (P : Program) (w : World) (K : PySem.W.Frag) (mg : Str → Option Value) (base : Heap) (j : Nat) (C : Addr) (m : Str) (ps : List Str) (sp : Sp) : Prop :=
  ∃ fa fd, FnOk P w K mg base CX0 j fa fd ps sp ∧ Meth K C m fa ∧ Binds K fd ps [] ∧ Cls K C
def FMk (P : Program) (w : World) (K : PySem.W.Frag) (mg : Str → Option Value) (base : Heap) (j : Nat) (x : Str) (C : Addr) (ps : List Str) (sp : Sp) : Prop :=
  ∃ fa fd, FnOk P w K mg base CX0 j fa fd ps sp ∧ mg x = some (.ref C) ∧ Mk K C fa ∧ Binds K fd ps []
/-- __init__ of the class at C -/
def SpI {ι : Type} (C : Addr) (args : ι → Ctx) (pre : ι → Prop) (names : List Str) (flds : ι → Ctx) : Sp := fun vs H Q _ => ∃ F i x dx us, vs = .ref x :: us ∧ Same F H ∧ F x = none ∧ H x = some (.ins C dx []) ∧ SlsOk F us (args i) ∧ pre i ∧
  ∀ (F' H' : Hp) (fs : List (Str × V)), Same F F' → (∀ b o, b ≠ x → H b = some o → H' b = some o) → Same F' H' → F' x = none → (∀ b, F b = none → H b ≠ none → F' b = none) → H' x = some (.ins C dx fs) → fs.map Prod.fst = names → SlsOk F' (fs.map Prod.snd) (flds i) → Q .non H'
/-- the facts of a class for isinstance -/
structure ClsI (K : PySem.W.Frag) (C : Addr) : Prop where
  cl : Cls K C
  ha : PySem.W.findIn K (.ref C) "__class__" = some (some (.builtin "object.__class__"))
  hn : PySem.W.specialIn K (.builtin "object.__class__") "__get__" = some (some (.builtin "getset_descriptor.__get__"))
  htk : PySem.W.takesIn K (.builtin "object.__class__") = some true
  hm : PySem.W.mroIn K C (.type "object") = some true
section
variable {P : Program} {w : World} {K : PySem.W.Frag} {mg : Str → Option Value} {base : Heap} {k j : Nat} {N : List Str} {sc : Scope} {vs ls : List Nat} {X : Cx} {α β γ ι ρ : Type} {B : Bs} {Γ Γ' : Ctx} {e a b : Expr} {es : List Expr} {D : Ends} {rest ss : List Stmt} {p pos apos : Pos} {x f m : Str} {cls : α → Addr} {names : List Str} {flds : α → Ctx} {ps : List Str}
theorem c_fld (c : XC P w K mg base k N sc vs ls X) (i : Nat) {o : α} {r : Rp β} {v : β} (he : DE X B Γ e (rObj cls names flds) o) (ha : At (flds o) i (.val r v)) (hc : Cls K (cls o)) (hn : NoAttr K (cls o) f) (h1 : names[i]? = some f := by rfl) (h2 : (names.take i).contains f = false := by decide +kernel)
    (hb : attributeBase e f X.env (eval e X.env) = eval e X.env := by rfl) : DE X B Γ (.Attribute e f pos) r v :=
  pe_weak (pe_fld he hb) fun σ H Q ⟨F, en, q⟩ => ⟨F, en, fun u F1 H1 e1 ⟨y, dx, fs, g1, g2, g3, g4⟩ => by
    obtain ⟨z, q1, q2⟩ := look_at g3 h1 h2
    obtain ⟨z', q3, q4⟩ := g4.at_ ha.get
    have ez : z' = z := Option.some.inj (q3.symm.trans q1)
    subst ez
    exact ⟨y, cls o, dx, fs, z', g1, e1.i _ _ g2, by rw [c.K]; exact hc, by rw [c.K]; exact hn, q2, q z' F1 H1 e1 q4⟩⟩
/-- o.m(e, ..) -/
theorem c_meth (c : XC P w K mg base k N sc vs ls X) {pl : Sem Bool} {o : α} {rr : Rp ρ} {args : ι → Ctx} {pre : ι → Prop} {fn : ι → ρ} {Δ : Ctx} (i : ι) (h : FMe P w K mg base j (cls o) m ps (SpF args pre rr fn)) (he : DE X B Γ e (rObj cls names flds) o)
    (hΔ : args i = .val (rObj cls names flds) o :: Δ) (ha : DA X B Γ (a :: es) Δ) (hp : pre i) (hj : j ≤ k := by decide) (hnm : names.contains m = false := by decide +kernel)
    (hst : starEach (a :: es) X.env = (false, eval a X.env) :: starEach es X.env := by rfl) (hpl : (backTo pos (starEach es X.env)).any Prod.fst = false := by rfl)
    (ht : eval (.Call (.Attribute e m apos) (a :: es) [] pos) X.env = (do
      let ov ← eval e X.env
      standAt apos.atName
      let (f, first) ← holding [ov] (getMethod ov m pl)
      callWith pos f first (backTo pos (starEach (a :: es) X.env)) (backToKw pos (keywordEach [] X.env))) := by rfl) : DE X B Γ (.Call (.Attribute e m apos) (a :: es) [] pos) rr (fn i) := by
  obtain ⟨fa, fd, G, h1, h2, h3⟩ := h
  have G' : FnOk X.prog X.w X.K X.mg X.base CX0 j fa fd ps (SpF args pre rr fn) := by rw [c.p, c.w, c.K, c.mg, c.b]; exact G
  refine pe_weak (pe_meth (pl := pl) he (by rw [c.K]; exact h3) (by rw [c.K]; exact h1) G' (c.room.mono hj) (by rw [c.K]; exact h2) .nil pass0 ha hst hpl ht) fun σ H Q ⟨F, en, q⟩ => ⟨F, en, fun u F1 H1 e1 h4 => ?_⟩
  obtain ⟨y, dx, fs, g1, g2, g3, g4⟩ := id h4
  refine ⟨y, dx, fs, g1, e1.i _ _ g2, look_no g3 hnm, F1, en.ext e1, fun us F2 H2 e2 h5 => ?_⟩
  show SpF args pre rr fn (u :: (us ++ [])) H2 Q E0
  rw [List.append_nil]
  exact ⟨F2, i, e2.i, by rw [hΔ]; exact ⟨(rObj cls names flds).mono e2.f h4, h5⟩, hp, fun v F3 H3 e3 h6 => q v F3 H3 (e1.trans (e2.trans e3)) h6⟩
/-- o.m() -/
theorem c_meth0 (c : XC P w K mg base k N sc vs ls X) {pl : Sem Bool} {o : α} {rr : Rp ρ} {args : ι → Ctx} {pre : ι → Prop} {fn : ι → ρ} (i : ι) (h : FMe P w K mg base j (cls o) m ps (SpF args pre rr fn)) (he : DE X B Γ e (rObj cls names flds) o)
    (hΔ : args i = [.val (rObj cls names flds) o]) (hp : pre i) (hj : j ≤ k := by decide) (hnm : names.contains m = false := by decide +kernel)
    (ht : eval (.Call (.Attribute e m apos) [] [] pos) X.env = (do
      let ov ← eval e X.env
      standAt apos.atName
      let (f, first) ← holding [ov] (getMethod ov m pl)
      callWith pos f first (backTo pos (starEach [] X.env)) (backToKw pos (keywordEach [] X.env))) := by rfl) : DE X B Γ (.Call (.Attribute e m apos) [] [] pos) rr (fn i) := by
  obtain ⟨fa, fd, G, h1, h2, h3⟩ := h
  have G' : FnOk X.prog X.w X.K X.mg X.base CX0 j fa fd ps (SpF args pre rr fn) := by rw [c.p, c.w, c.K, c.mg, c.b]; exact G
  refine pe_weak (pe_meth0 (pl := pl) he (by rw [c.K]; exact h3) (by rw [c.K]; exact h1) G' (c.room.mono hj) (by rw [c.K]; exact h2) .nil pass0 ht) fun σ H Q ⟨F, en, q⟩ => ⟨F, en, fun u F1 H1 e1 h4 => ?_⟩
  obtain ⟨y, dx, fs, g1, g2, g3, g4⟩ := id h4
  refine ⟨y, dx, fs, g1, e1.i _ _ g2, look_no g3 hnm, ?_⟩
  show SpF args pre rr fn (u :: ([] ++ [])) H1 Q E0
  exact ⟨F1, i, e1.i, by rw [hΔ]; exact ⟨h4, trivial⟩, hp, fun v F3 H3 e3 h6 => q v F3 H3 (e1.trans e3) h6⟩
theorem c_methM0 (c : XC P w K mg base k N sc vs ls X) {pl : Sem Bool} {o : α} {r : Rp ρ} {args : ι → Ctx} {pre : ι → Prop} {fn : ι → List ρ} (i : ι) (h : FMe P w K mg base j (cls o) m ps (SpM args pre r fn)) (he : DE X B Γ e (rObj cls names flds) o)
    (hΔ : args i = [.val (rObj cls names flds) o]) (hp : pre i) (hj : j ≤ k := by decide) (hnm : names.contains m = false := by decide +kernel)
    (ht : eval (.Call (.Attribute e m apos) [] [] pos) X.env = (do
      let ov ← eval e X.env
      standAt apos.atName
      let (f, first) ← holding [ov] (getMethod ov m pl)
      callWith pos f first (backTo pos (starEach [] X.env)) (backToKw pos (keywordEach [] X.env))) := by rfl) : DM X B Γ (.Call (.Attribute e m apos) [] [] pos) r (fn i) := by
  obtain ⟨fa, fd, G, h1, h2, h3⟩ := h
  have G' : FnOk X.prog X.w X.K X.mg X.base CX0 j fa fd ps (SpM args pre r fn) := by rw [c.p, c.w, c.K, c.mg, c.b]; exact G
  refine pe_weak (pe_meth0 (pl := pl) he (by rw [c.K]; exact h3) (by rw [c.K]; exact h1) G' (c.room.mono hj) (by rw [c.K]; exact h2) .nil pass0 ht) fun σ H Q ⟨F, en, q⟩ => ⟨F, en, fun u F1 H1 e1 h4 => ?_⟩
  obtain ⟨y, dx, fs, g1, g2, g3, g4⟩ := id h4
  refine ⟨y, dx, fs, g1, e1.i _ _ g2, look_no g3 hnm, ?_⟩
  show SpM args pre r fn (u :: ([] ++ [])) H1 Q E0
  exact ⟨F1, i, e1.i, by rw [hΔ]; exact ⟨h4, trivial⟩, hp, fun p us F3 H3 e3 h6 h7 h8 h9 => q p us F3 H3 (e1.trans e3) h6 (e1.h.free h7) h8 h9⟩
/-- C(e, ..) -/
theorem c_make (c : XC P w K mg base k N sc vs ls X) {C : Addr} {args : ι → Ctx} {pre : ι → Prop} {fl : ι → Ctx} {o : α} (i : ι) (h : FMk P w K mg base j x C ps (SpI C args pre names fl)) (ha : DA X B Γ (a :: es) (args i)) (hp : pre i) (hC : cls o = C) (hf : flds o = fl i) (hj : j + 1 ≤ k := by decide) (hg : glB sc x = true := by decide +kernel)
    (hdb : (x == ("__debug__" : Str)) = false := by decide) (he : starEach (a :: es) X.env = (false, eval a X.env) :: starEach es X.env := by rfl) (hpl : (backTo pos (starEach es X.env)).any Prod.fst = false := by rfl) :
    DE X B Γ (.Call (.Name x p) (a :: es) [] pos) (rObj cls names flds) o := by
  obtain ⟨fa, fd, G, h1, h2, h3⟩ := h
  have G' : FnOk X.prog X.w X.K X.mg X.base CX0 j fa fd ps (SpI C args pre names fl) := by rw [c.p, c.w, c.K, c.mg, c.b]; exact G
  refine pe_weak (pe_make (by rw [c.K]; exact h2) G' (c.room.mono hj) (gl_of c.sc hg) (by rw [c.mg]; exact h1) (by rw [c.K]; exact h3) .nil pass0 ha hdb he hpl) fun σ H Q ⟨F, en, q⟩ => ⟨F, en, fun us F1 H1 e1 h5 => ?_⟩
  intro y dy n1 n2 ne
  rw [List.append_nil]
  have s1 : Same H1 (upd (upd H1 dy (.own y)) y (.ins C dy [])) := fun b u z => by rw [upd_ne (ne_of_none z n1), upd_ne (ne_of_none z n2)]; exact z
  have f1 : F1 y = none := e1.i.free n1
  refine ⟨F1, i, y, dy, us, rfl, e1.i.trans s1, f1, upd_same, h5, hp, fun F' H' fs g1 g2 g3 g4 g5 g6 g7 g8 => ⟨rfl, ?_⟩⟩
  have g2' : Same H1 H' := fun b u z => g2 b u (ne_of_none z n1) (s1 b u z)
  have ex : Ext F1 H1 F' H' := ⟨g1, g2', g3, fun b hb hh => g5 b hb (by
    cases z : H1 b with
    | none => exact absurd z hh
    | some u => rw [s1 b u z]; intro w; cases w)⟩
  have ex2 := ex.frzNew g4 n1 g6
  exact q (.ref y) _ H' (e1.trans ex2) ⟨y, dy, fs, rfl, by rw [hC]; exact upd_same, g7, by rw [hf]; exact SlsOk.mono (same_new g4) g8⟩
/-- self.f = e -/
theorem c_setF (c : XC P w K mg base k N sc vs ls X) (i : Nat) {C : Addr} {sls : Ctx} {xd : Addr × Addr} {r : Rp β} {v : β} {p1 p2 : Pos} (h : At Γ i (.own (oObj C names sls) xd)) (he : DE X B Γ e r v) (hc : Cls K C) (hn : NoAttr K C f)
    (t : To Γ i (.own (oObj C (names ++ [f]) (sls ++ [.val r v])) xd) Γ') (hr : SD X B Γ' rest D) (hnm : names.contains f = false := by decide +kernel) (hz : decide (names.length < 1000) = true := by decide +kernel) (hN : N[i]? = some x := by rfl) (hv : vs.contains i = true := by rfl)
    (hd : (x == ("__debug__" : Str)) = false := by decide) (hcd : (x == ("__classdict__" : Str)) = false := by decide) (hs : swapsWith e (some (.Attribute (.Name x p1) f p2)) pos.line X.env = pure false := by rfl) :
    SD X B Γ (.Assign [.Attribute (.Name x p1) f p2] e pos :: rest) D := by
  have hN' : X.N[i]? = some x := by rw [c.N]; exact hN
  refine sd_cons (ps_fld (pe_var hN' (c.vis i x hN' hv) hd hcd) he hs) (fun D' l σ H ⟨F, en⟩ => ⟨F, en, fun u F1 H1 e1 h1 => ?_⟩) hr
  obtain ⟨fp, en1⟩ := en.ext e1
  obtain ⟨⟨s, hs, rfl, hfp, fs, q3, q4, q5⟩, hown⟩ := en1.ok i _ h.get
  refine ⟨.ref xd.1, hs, xd.1, C, xd.2, fs, rfl, q3, by rw [c.K]; exact hc, by rw [c.K]; exact hn, by have := congrArg List.length q4; simp at this; rw [this]; exact of_decide_eq_true hz, l.nx _ _ ?_⟩
  have hx := hown xd.1 (by rw [hfp])
  refine ⟨F1, _, en1.putG (fi := fun b => b = xd.1) t rfl (fun j hj => rfl) ⟨en1.base.f, fun b o z => ?_, fun b o z => ?_, en1.base.d⟩ (fun b o z => ?_) (Same.refl F1) (fun j b hj z => ?_) ?_ (fun j b hj z w => ?_)⟩
  · rw [upd_ne (ne_of_none z hx.2.2)]; exact en1.base.h b o z
  · rw [upd_ne (ne_of_none z hx.1)]; exact en1.same b o z
  · rw [upd_ne (ne_of_none z hx.1)]; exact en1.same b o z
  · have nb : b ≠ xd.1 := fun w => en1.apart j i hj b z (by rw [hfp]; exact w)
    exact ⟨by rw [upd_ne nb], (en1.own_at z).1⟩
  · refine ⟨⟨.ref xd.1, hs, rfl, rfl, putF f u fs, upd_same, ?_, ?_⟩, fun b hb => ?_⟩
    · rw [putF_new q4 hnm, List.map_append, q4]; rfl
    · rw [putF_new q4 hnm, List.map_append]
      exact slsOk_app q5 ⟨h1, trivial⟩
    · subst hb
      exact ⟨hx.1, (by rw [upd_same]; intro w; cases w), hx.2.2⟩
  · subst w
    exact en1.apart j i hj xd.1 z (by rw [hfp])
end
end DL
namespace DL
open PySem L2 PySem.Spec PyProof.Rows

/-! ### defs: __init__, methods -/
def rAny : Rp Unit := ⟨fun _ _ _ => True, fun _ _ => trivial⟩
def FTk (K : PySem.W.Frag) (mg : Str → Option Value) (x q : Str) (C : Addr) (st : Stmt) (ps : List Str) : Prop :=
  ∃ fa fd, Fun K "__init__" q st fa fd ∧ mg x = some (.ref C) ∧ Mk K C fa ∧ Binds K fd ps []
def FTm (K : PySem.W.Frag) (m q : Str) (C : Addr) (st : Stmt) (ps : List Str) : Prop :=
  ∃ fa fd, Fun K m q st fa fd ∧ Meth K C m fa ∧ Binds K fd ps [] ∧ Cls K C
section
variable {P : Program} {w : World} {K : PySem.W.Frag} {mg : Str → Option Value} {base : Heap} {k : Nat} {N : List Str} {vs : List Nat} {ι ρ : Type} {args : ι → Ctx} {pre : ι → Prop} {ps : List Str} {x q m : Str} {st : Stmt} {C : Addr}
theorem meF {rr : Rp ρ} {f : ι → ρ} (Γ0 : ι → Ctx) (T : FTm K m q C st ps) (S : FnScope N ps (defScope st)) (hv : locB N (defScope st) vs = true) (hl : ∀ i, (args i).length = ps.length) (hΓ : ∀ i, args i ++ List.replicate (N.length - ps.length) .un = Γ0 i)
    (body : ∀ (X : Cx) (B : Bs) (D : Ends) (i : ι), XC P w K mg base k N (defScope st) vs vs X → pre i → RtOk B rr (f i) D → (∀ σ H, D.nx σ H → D.rt .non H) → SD X B (Γ0 i) (defBody st) { D with nx := fun _ H => D.rt .non H }) :
    FMe P w K mg base (k + 1) C m ps (SpF args pre rr f) := by
  obtain ⟨fa, fd, F, hm, hb, hc⟩ := T
  refine ⟨fa, fd, fun_ok F S (fun us H Q E ⟨F0, i, _, h, _⟩ => by rw [h.length, hl]) (fun cdv A outer s H us Q E hr ⟨F0, i, s0, h, hp, hk⟩ => ?_), hm, hb, hc⟩
  refine ⟨_, body _ ⟨F0, H, F0⟩ { nx := fun _ H' => Q .non H', rt := Q } i (xc_of S hv hr) hp hk (fun _ _ z => z), Le.refl _, F0, env_start s0 h (hl i) ?_ (hΓ i)⟩
  have := congrArg List.length S.pre; rw [List.length_take] at this; omega
theorem meM {r : Rp ρ} {f : ι → List ρ} (Γ0 : ι → Ctx) (T : FTm K m q C st ps) (S : FnScope N ps (defScope st)) (hv : locB N (defScope st) vs = true) (hl : ∀ i, (args i).length = ps.length) (hΓ : ∀ i, args i ++ List.replicate (N.length - ps.length) .un = Γ0 i)
    (body : ∀ (X : Cx) (B : Bs) (D : Ends) (i : ι), XC P w K mg base k N (defScope st) vs vs X → pre i → RtM B r (f i) D → SD X B (Γ0 i) (defBody st) D) :
    FMe P w K mg base (k + 1) C m ps (SpM args pre r f) := by
  obtain ⟨fa, fd, F, hm, hb, hc⟩ := T
  refine ⟨fa, fd, fun_ok F S (fun us H Q E ⟨F0, i, _, h, _⟩ => by rw [h.length, hl]) (fun cdv A outer s H us Q E hr ⟨F0, i, s0, h, hp, hk⟩ => ?_), hm, hb, hc⟩
  refine ⟨_, body _ ⟨F0, H, F0⟩ { nx := fun _ H' => Q .non H', rt := Q } i (xc_of S hv hr) hp hk, Le.refl _, F0, env_start s0 h (hl i) ?_ (hΓ i)⟩
  have := congrArg List.length S.pre; rw [List.length_take] at this; omega
theorem fnI {names : List Str} {fl : ι → Ctx} (Γ0 : ι → Addr × Addr → Ctx) (T : FTk K mg x q C st ps) (S : FnScope N ps (defScope st)) (hv : locB N (defScope st) vs = true) (hl : ∀ i, (args i).length + 1 = ps.length) (hΓ : ∀ i xd, .own (oObj C [] []) xd :: args i ++ List.replicate (N.length - ps.length) .un = Γ0 i xd)
    (body : ∀ (X : Cx) (B : Bs) (D : Ends) (i : ι) (xd : Addr × Addr), XC P w K mg base k N (defScope st) vs vs X → pre i → (∀ σ H' Γ', EnvP B (.own (oObj C names (fl i)) xd :: Γ') σ H' → D.nx σ H') → SD X B (Γ0 i xd) (defBody st) D) :
    FMk P w K mg base (k + 1) x C ps (SpI C args pre names fl) := by
  obtain ⟨fa, fd, F, hm, hk, hb⟩ := T
  refine ⟨fa, fd, fun_ok F S (fun us H Q E ⟨F0, i, x, dx, us', e, _, _, _, h, _⟩ => by rw [e, List.length_cons, h.length, hl]) (fun cdv A outer s H us Q E hr ⟨F0, i, y, dy, us', e, s0, hy, hH, h, hp, kq⟩ => ?_), hm, hk, hb⟩
  subst e
  have hN : ps.length ≤ N.length := by have := congrArg List.length S.pre; rw [List.length_take] at this; omega
  let H0 : Hp := fun b => if b = y then none else H b
  have h0y : H0 y = none := if_pos rfl
  have h0 : ∀ b, b ≠ y → H0 b = H b := fun b hb => if_neg hb
  refine ⟨_, body _ ⟨F0, H0, F0⟩ { nx := fun _ H' => Q .non H', rt := Q } i (y, dy) (xc_of S hv hr) hp (fun σ H' Γ' ⟨F', fp, en⟩ => ?_), Le.refl _, F0, ?_⟩
  · obtain ⟨⟨v, _, _, hfp, fs, g1, g2, g3⟩, hown⟩ := en.ok 0 _ rfl
    have hx := hown y (by rw [hfp])
    refine kq F' H' fs en.base.f (fun b o hb z => en.base.h b o (by show H0 b = _; rw [h0 b hb]; exact z)) en.same hx.1 (fun b hb hh => ?_) g1 g2 g3
    by_cases hby : b = y
    · rw [hby]; exact hx.1
    · exact en.base.d b hb (by show H0 b ≠ none; rw [h0 b hby]; exact hh)
  · have s00 : Same F0 H0 := fun b u z => by
      have hb : b ≠ y := fun w => by rw [w, hy] at z; cases z
      rw [h0 b hb]; exact s0 b u z
    obtain ⟨fp, en⟩ := env_start (N := N) (ps := ps) (us := .ref y :: us') (Δ := .val rAny () :: args i) (Γ0 := .val rAny () :: args i ++ List.replicate (N.length - ps.length) .un) (F := F0) (H := H0) s00 ⟨trivial, h⟩ (by rw [List.length_cons, hl]) hN rfl
    rw [← hΓ]
    have t : To (.val rAny () :: (args i ++ List.replicate (N.length - ps.length) .un)) 0 (.own (oObj C [] []) (y, dy)) (.own (oObj C [] []) (y, dy) :: (args i ++ List.replicate (N.length - ps.length) .un)) := .z
    have s0H : Same H0 H := fun b u z => by
      have hb : b ≠ y := fun w => by rw [w, h0y] at z; cases z
      rw [← h0 b hb]; exact z
    have hz : ∀ j b, fp j b → False := fun j b z => by
      cases q : (Sl.val rAny () :: args i ++ List.replicate (N.length - ps.length) Sl.un)[j]? with
      | none => exact en.out j q b z
      | some s =>
        have w := en.ok j s q
        cases s with
        | un => exact w b z
        | val r a => exact w.1 b z
        | own o a =>
          have hm := List.mem_of_getElem? q
          have : ∀ {us : List V} {Δ : Ctx}, SlsOk F0 us Δ → Sl.own o a ∉ Δ := fun {us Δ} h => by
            induction Δ generalizing us with
            | nil => simp
            | cons s Δ ih =>
              cases us with
              | nil => exact h.elim
              | cons v us =>
                intro z
                rcases List.mem_cons.mp z with z | z
                · subst z; exact h.1
                · exact ih h.2 z
          rcases List.mem_append.mp hm with hm | hm
          · rcases List.mem_cons.mp hm with hm | hm
            · cases hm
            · exact this h hm
          · have := List.eq_of_mem_replicate hm
            cases this
    refine ⟨_, en.putG (fi := fun b => b = y) t rfl (fun j hj => rfl) ⟨Same.refl F0, s0H, s0, fun b hb _ => hb⟩ s0 (Same.refl F0) (fun j b hj z => (hz j b z).elim) ?_ (fun j b hj z w => hz j b z)⟩
    have hs : (L2.start N (.ref y :: us'))[0]? = some (some (.ref y)) := by unfold L2.start; simp
    rw [hs]
    exact ⟨⟨_, rfl, rfl, rfl, [], hH, rfl, trivial⟩, fun b hb => by subst hb; exact ⟨hy, (by rw [hH]; intro w; cases w), h0y⟩⟩
end
/-! ### equality of data -/
structure Eqd {α : Type} [DecidableEq α] (r : Rp α) (d : Nat) where
  enc : α → PyData
  dp : ∀ K F v a, r.rel F v a → Dp K F v (enc a)
  sh : ∀ F v a, r.rel F v a → (enc a).canLay0 = true
  dep : ∀ a, (enc a).depth ≤ d
  eq : ∀ a b, PyData.eqv (enc a) (enc b) = decide (a = b)
def eqInt : Eqd rInt 0 := ⟨.int, fun K F v a h => by rw [show v = V.int a from h]; exact .int a, fun _ _ _ _ => rfl, fun _ => Nat.le_refl _, fun a b => by
  show (a == b) = _
  by_cases h : a = b
  · subst h; simp
  · simp [h]⟩
def eqBool : Eqd rBool 0 := ⟨.bool, fun K F v a h => by rw [show v = V.bl a from h]; exact .bl a, fun _ _ _ _ => rfl, fun _ => Nat.le_refl _, fun a b => by cases a <;> cases b <;> rfl⟩
theorem strOk_tx {t : Txt} (h : okT t = true) : PyData.strOk (tx t) = true := by
  unfold PyData.strOk
  show t.toArray.all _ = true
  rw [List.all_toArray]
  exact h
def eqTxt : Eqd rTxt 0 := ⟨fun t => .str (tx t), fun K F v a h => by rw [h.1]; exact .str _, fun F v a h => strOk_tx h.2, fun _ => Nat.le_refl _, fun a b => by
  show (tx a == tx b) = _
  by_cases h : a = b
  · subst h; simp
  · have : ¬ tx a = tx b := fun z => h (tx_inj z)
    simp [h, this]⟩
section
variable {α β : Type} [DecidableEq α] [DecidableEq β]
theorem dpAll {r : Rp α} {d : Nat} (E : Eqd r d) {K : PySem.W.Frag} {F : Hp} : ∀ {us : List V} {as : List α}, Rl (r.rel F) us as → DpAll K F us (as.map E.enc)
  | [], [], _ => .nil
  | v :: us, a :: as, h => .cons (E.dp K F v a h.1) (dpAll E h.2)
  | [], _ :: _, h => h.elim
  | _ :: _, [], h => h.elim
theorem shAll {r : Rp α} {d : Nat} (E : Eqd r d) {F : Hp} : ∀ {us : List V} {as : List α}, Rl (r.rel F) us as → PyData.canLayAll0 (as.map E.enc) = true
  | [], [], _ => rfl
  | v :: us, a :: as, h => by
    show ((E.enc a).canLay0 && PyData.canLayAll0 (as.map E.enc)) = true
    rw [E.sh F v a h.1, shAll E h.2]; rfl
  | [], _ :: _, h => h.elim
  | _ :: _, [], h => h.elim
theorem depAll {r : Rp α} {d : Nat} (E : Eqd r d) : ∀ as : List α, PyData.depthAll (as.map E.enc) ≤ d
  | [] => Nat.zero_le _
  | a :: as => Nat.max_le.mpr ⟨E.dep a, depAll E as⟩
theorem eqAll {r : Rp α} {d : Nat} (E : Eqd r d) : ∀ as bs : List α, PyData.eqvAll (as.map E.enc) (bs.map E.enc) = decide (as = bs)
  | [], [] => rfl
  | [], _ :: _ => rfl
  | _ :: _, [] => rfl
  | a :: as, b :: bs => by
    show (PyData.eqv (E.enc a) (E.enc b) && PyData.eqvAll (as.map E.enc) (bs.map E.enc)) = _
    rw [E.eq, eqAll E as bs]
    by_cases h : a = b
    · subst h
      by_cases h2 : as = bs
      · subst h2; simp
      · simp [h2]
    · simp [h]
def eqList {r : Rp α} {d : Nat} (E : Eqd r d) : Eqd (rList r) (d + 1) := ⟨fun as => .list (as.map E.enc), fun K F v a ⟨p, us, h1, h2, h3⟩ => by rw [h1]; exact .lst (SqL.of h2) (dpAll E h3), fun F v a ⟨p, us, h1, h2, h3⟩ => shAll E h3, fun a => Nat.succ_le_succ (depAll E a), fun a b => eqAll E a b⟩
def eqTup {r : Rp α} {d : Nat} (E : Eqd r d) : Eqd (rTup r) (d + 1) := ⟨fun as => .tuple (as.map E.enc), fun K F v a ⟨p, us, h1, h2, h3⟩ => by rw [h1]; exact .tup (SqT.of h2) (dpAll E h3), fun F v a ⟨p, us, h1, h2, h3⟩ => shAll E h3, fun a => Nat.succ_le_succ (depAll E a), fun a b => eqAll E a b⟩
def eqPair {r : Rp α} {s : Rp β} {d d' : Nat} (E : Eqd r d) (E' : Eqd s d') : Eqd (rPair r s) (max d d' + 1) := ⟨fun z => .tuple [E.enc z.1, E'.enc z.2],
  fun K F v a ⟨p, u, u', h1, h2, h3, h4⟩ => by rw [h1]; exact .tup (SqT.of h2) (.cons (E.dp K F u _ h3) (.cons (E'.dp K F u' _ h4) .nil)),
  fun F v a ⟨p, u, u', h1, h2, h3, h4⟩ => by
    show ((E.enc a.1).canLay0 && ((E'.enc a.2).canLay0 && true)) = true
    rw [E.sh F u _ h3, E'.sh F u' _ h4]; rfl,
  fun a => by
    show max (PyData.depth (E.enc a.1)) (max (PyData.depth (E'.enc a.2)) 0) + 1 ≤ _
    have := E.dep a.1
    have := E'.dep a.2
    omega,
  fun a b => by
    show (PyData.eqv (E.enc a.1) (E.enc b.1) && (PyData.eqv (E'.enc a.2) (E'.enc b.2) && true)) = _
    rw [E.eq, E'.eq]
    obtain ⟨a1, a2⟩ := a
    obtain ⟨b1, b2⟩ := b
    by_cases h : a1 = b1
    · subst h
      by_cases h2 : a2 = b2
      · subst h2; simp
      · simp [h2]
    · simp [h]⟩
end
section
variable {P : Program} {w : World} {K : PySem.W.Frag} {mg : Str → Option Value} {base : Heap} {k j : Nat} {N : List Str} {sc : Scope} {vs ls : List Nat} {X : Cx} {α β γ ι ρ : Type} {B : Bs} {Γ Γ' : Ctx} {e a b : Expr} {es : List Expr} {D : Ends} {rest ss : List Stmt} {p pos apos : Pos} {x f m : Str}
theorem shaped_of [DecidableEq α] {r : Rp α} {d : Nat} (E : Eqd r d) (hd : d ≤ 64) {F : Hp} {v : V} {z : α} (h : r.rel F v z) : SeqAt.shaped (E.enc z) = true := by
  unfold SeqAt.shaped
  rw [E.sh F v z h, decide_eq_true (Nat.le_trans (E.dep z) hd)]
  rfl
theorem c_eqD (c : XC P w K mg base k N sc vs ls X) [DecidableEq α] {r : Rp α} {d : Nat} (E : Eqd r d) {y z : α} (ha : DE X B Γ a r y) (hb : DE X B Γ b r z) (hd : d ≤ 64 := by decide) : DC X B Γ (.Compare a [.Eq] [b] pos) (decide (y = z)) :=
  dc_cmp (ra := r) (rb := r) (op_eqD c.room.units) (fun F H u v s h1 h2 Q q => ⟨E.enc y, E.enc z, E.dp _ H u y (r.mono s h1), E.dp _ H v z (r.mono s h2), shaped_of E hd h1, shaped_of E hd h2, q _ F H (Ext.refl s) (by show V.bl _ = V.bl _; rw [E.eq])⟩) (nomark _) ha hb
theorem c_neD (c : XC P w K mg base k N sc vs ls X) [DecidableEq α] {r : Rp α} {d : Nat} (E : Eqd r d) {y z : α} (ha : DE X B Γ a r y) (hb : DE X B Γ b r z) (hd : d ≤ 64 := by decide) : DC X B Γ (.Compare a [.NotEq] [b] pos) (!decide (y = z)) :=
  dc_cmp (ra := r) (rb := r) (op_neD c.room.units) (fun F H u v s h1 h2 Q q => ⟨E.enc y, E.enc z, E.dp _ H u y (r.mono s h1), E.dp _ H v z (r.mono s h2), shaped_of E hd h1, shaped_of E hd h2, q _ F H (Ext.refl s) (by show V.bl _ = V.bl _; rw [E.eq])⟩) (nomark _) ha hb
end
end DL
namespace DL
open PySem L2 PySem.Spec PyProof.Rows
section
variable {P : Program} {w : World} {K : PySem.W.Frag} {mg : Str → Option Value} {base : Heap} {k j : Nat} {N : List Str} {sc : Scope} {vs ls : List Nat} {X : Cx} {α β γ ι ρ : Type} {B : Bs} {Γ Γ' : Ctx} {e a b : Expr} {es : List Expr} {D : Ends} {rest ss : List Stmt} {p pos apos : Pos} {x f m : Str}
/-! ### isinstance -/
/-- a value's type -/
def TyR (K : PySem.W.Frag) {α : Type} (r : Rp α) (a : α) (t : Value) : Prop := ∀ F v, r.rel F v a → TyX K F v t
theorem ty_int {i : Int} : TyR K rInt i (.type "int") := fun F v h => by rw [show v = V.int i from h]; exact .base (.int i)
theorem ty_bool {i : Bool} : TyR K rBool i (.type "bool") := fun F v h => by rw [show v = V.bl i from h]; exact .base (.bl i)
theorem ty_txt {i : Txt} : TyR K rTxt i (.type "str") := fun F v h => by rw [h.1]; exact .base (.str _)
theorem ty_non {i : Unit} : TyR K rNon i (.type "NoneType") := fun F v h => by rw [show v = V.non from h]; exact .base .non
theorem ty_list {r : Rp α} {i : List α} : TyR K (rList r) i (.type "list") := fun F v ⟨p, us, h1, h2, _⟩ => by rw [h1]; exact .base (.lst h2)
theorem ty_tup {r : Rp α} {i : List α} : TyR K (rTup r) i (.type "tuple") := fun F v ⟨p, us, h1, h2, _⟩ => by rw [h1]; exact .base (.tup h2)
theorem ty_pair {r : Rp α} {s : Rp β} {i : α × β} : TyR K (rPair r s) i (.type "tuple") := fun F v ⟨p, u, u', h1, h2, _⟩ => by rw [h1]; exact .base (.tup h2)
theorem ty_obj {cls : α → Addr} {names : List Str} {flds : α → Ctx} {o : α} (h : ClsI K (cls o)) : TyR K (rObj cls names flds) o (.ref (cls o)) := fun F v ⟨y, dx, fs, h1, h2, _⟩ => by rw [h1]; exact .base (.ins h2 h.cl h.ha h.hn h.htk h.hm)
/-- isinstance(e, T), T a built-in type's name -/
theorem c_isi (c : XC P w K mg base k N sc vs ls X) {r : Rp α} {y : α} {t : Value} {T : Str} {T' : String} {b : Bool} {p2 : Pos} (he : DE X B Γ e r y) (ht : TyR K r y t) (hk : PySem.W.kitOne K t (.type T') = some b) (hm : mg "isinstance" = none) (hmT : mg T = none)
    (hbT : bootBuiltins T = some (.type T') := by decide +kernel) (hg : glB sc "isinstance" = true := by decide +kernel) (hgT : glB sc T = true := by decide +kernel) (hn : T ≠ "__name__" := by decide) (hd : (T == ("__debug__" : Str)) = false := by decide)
    (hs : starEach [e, .Name T p2] X.env = (false, eval e X.env) :: starEach [.Name T p2] X.env := by rfl) : DE X B Γ (.Call (.Name "isinstance" p) [e, .Name T p2] [] pos) rBool b :=
  pe_weak (pe_callB call_isi (gl_of c.sc hg) (by rw [c.mg]; exact hm) (by decide +kernel) (pa_cons he (pa_cons (pe_bltn (v := .ty T') (gl_of c.sc hgT) (by rw [c.mg]; exact hmT) hbT rfl hn hd) pa_nil) hs) (by decide) (by decide) hs) fun σ H Q ⟨F, en, q⟩ => ⟨F, en, fun v F1 H1 e1 h1 =>
    ⟨v, .ty T', t, .type T', b, rfl, .ty T', by rw [c.K]; exact ht H1 v (r.mono e1.i h1), by rw [c.K]; exact hk, q _ F1 H1 e1 rfl⟩⟩
/-- isinstance(e, C), C an own class -/
theorem c_isiC (c : XC P w K mg base k N sc vs ls X) {r : Rp α} {y : α} {t : Value} {T : Str} {C : Addr} {b : Bool} {p2 : Pos} (he : DE X B Γ e r y) (ht : TyR K r y t) (hk : PySem.W.kitOne K t (.ref C) = some b) (hm : mg "isinstance" = none) (hmT : mg T = some (.ref C))
    (hg : glB sc "isinstance" = true := by decide +kernel) (hgT : glB sc T = true := by decide +kernel) (hd : (T == ("__debug__" : Str)) = false := by decide)
    (hs : starEach [e, .Name T p2] X.env = (false, eval e X.env) :: starEach [.Name T p2] X.env := by rfl) : DE X B Γ (.Call (.Name "isinstance" p) [e, .Name T p2] [] pos) rBool b :=
  pe_weak (pe_callB call_isi (gl_of c.sc hg) (by rw [c.mg]; exact hm) (by decide +kernel) (pa_cons he (pa_cons (pe_glob (v := .ref C) (gl_of c.sc hgT) (by rw [c.mg]; exact hmT) rfl hd) pa_nil) hs) (by decide) (by decide) hs) fun σ H Q ⟨F, en, q⟩ => ⟨F, en, fun v F1 H1 e1 h1 =>
    ⟨v, .ref C, t, .ref C, b, rfl, .own C, by rw [c.K]; exact ht H1 v (r.mono e1.i h1), by rw [c.K]; exact hk, q _ F1 H1 e1 rfl⟩⟩
/-- a module's constant -/
theorem c_gint (c : XC P w K mg base k N sc vs ls X) {i : Int} {u : Value} (hm : mg x = some u) (hu : ∃ t, u = .int i t) (hg : glB sc x = true := by decide +kernel) (hd : (x == ("__debug__" : Str)) = false := by decide) : DE X B Γ (.Name x pos) rInt i :=
  pe_weak (pe_glob (v := .int i) (gl_of c.sc hg) (by rw [c.mg]; exact hm) hu hd) fun σ H Q ⟨F, en, q⟩ => q _ F H (Ext.refl en.same) rfl
theorem c_gstr (c : XC P w K mg base k N sc vs ls X) {s : Str} {t : Txt} {u : Value} (hm : mg x = some u) (hu : ∃ t, u = .str s t) (hs : s = tx t) (ok : okT t = true) (hg : glB sc x = true := by decide +kernel) (hd : (x == ("__debug__" : Str)) = false := by decide) : DE X B Γ (.Name x pos) rTxt t :=
  pe_weak (pe_glob (v := .str s) (gl_of c.sc hg) (by rw [c.mg]; exact hm) hu hd) fun σ H Q ⟨F, en, q⟩ => q _ F H (Ext.refl en.same) ⟨by rw [hs], ok⟩
/-- a < b < c -/
theorem de_chain {op op' : CmpOp} {r2 r2' : R2} {cc : Expr} {ra : Rp α} {rb : Rp β} {rc : Rp γ} {z z' : Bool} {x : α} {y : β} {y' : γ} (ho : OpR X (compareOp op) r2) (ho' : OpR X (compareOp op') r2')
    (hr : ∀ F H u v, Same F H → ra.rel F u x → rb.rel F v y → ∀ Q : VK, (∀ F' H', Ext F H F' H' → Q (.bl z) H') → r2 u v H Q) (hr' : z = true → ∀ F H u v, Same F H → rb.rel F u y → rc.rel F v y' → ∀ Q : VK, (∀ F' H', Ext F H F' H' → Q (.bl z') H') → r2' u v H Q)
    (ha : DE X B Γ a ra x) (hb : DE X B Γ b rb y) (hc : DE X B Γ cc rc y') (hm : lastMarks [op, op'] [b, cc] = false) : DE X B Γ (.Compare a [op, op'] [b, cc] pos) rBool (z && z') := by
  refine pe_weak (pe_chain ho ho' ha hb hc hm) fun σ H Q ⟨F, en, q⟩ => ⟨F, en, fun u F1 H1 e1 h1 => ⟨F1, en.ext e1, fun v F2 H2 e2 h2 => hr F2 H2 u v e2.i (ra.mono e2.f h1) h2 _ fun F3 H3 e3 => ⟨z, rfl, ?_⟩⟩⟩
  cases z with
  | true =>
    rw [if_pos rfl]
    exact ⟨F3, en.ext (e1.trans (e2.trans e3)), fun v' F4 H4 e4 h4 => hr' rfl F4 H4 v v' e4.i (rb.mono (e3.f.trans e4.f) h2) h4 _ fun F5 H5 e5 => q _ F5 H5 (e1.trans (e2.trans (e3.trans (e4.trans e5)))) rfl⟩
  | false =>
    rw [if_neg (by decide)]
    exact q _ F3 H3 (e1.trans (e2.trans e3)) rfl
theorem dt_chain {op op' : CmpOp} {r2 r2' : R2} {cc : Expr} {ra : Rp α} {rb : Rp β} {rc : Rp γ} {z z' : Bool} {x : α} {y : β} {y' : γ} (ho : OpR X (compareOp op) r2) (ho' : OpR X (compareOp op') r2')
    (hr : ∀ F H u v, Same F H → ra.rel F u x → rb.rel F v y → ∀ Q : VK, (∀ F' H', Ext F H F' H' → Q (.bl z) H') → r2 u v H Q) (hr' : z = true → ∀ F H u v, Same F H → rb.rel F u y → rc.rel F v y' → ∀ Q : VK, (∀ F' H', Ext F H F' H' → Q (.bl z') H') → r2' u v H Q)
    (ha : DE X B Γ a ra x) (hb : DE X B Γ b rb y) (hc : DE X B Γ cc rc y') (hm : lastMarks [op, op'] [b, cc] = false) : DT X B Γ (.Compare a [op, op'] [b, cc] pos) (z && z') := by
  refine pt_weak (pt_chain ho ho' ha hb hc hm) fun σ H Q ⟨F, en, q⟩ => ⟨F, en, fun u F1 H1 e1 h1 => ⟨F1, en.ext e1, fun v F2 H2 e2 h2 => hr F2 H2 u v e2.i (ra.mono e2.f h1) h2 _ fun F3 H3 e3 => ⟨z, rfl, ?_⟩⟩⟩
  cases z with
  | true =>
    rw [if_pos rfl]
    exact ⟨F3, en.ext (e1.trans (e2.trans e3)), fun v' F4 H4 e4 h4 => hr' rfl F4 H4 v v' e4.i (rb.mono (e3.f.trans e4.f) h2) h4 _ fun F5 H5 e5 => ⟨z', rfl, q F5 H5 (e1.trans (e2.trans (e3.trans (e4.trans e5))))⟩⟩
  | false =>
    rw [if_neg (by decide)]
    exact ⟨false, rfl, q F3 H3 (e1.trans (e2.trans e3))⟩
theorem dc_leLe {x y z : Int} {cc : Expr} (ha : DE X B Γ a rInt x) (hb : DE X B Γ b rInt y) (hc : DE X B Γ cc rInt z) (hm : lastMarks [.LtE, .LtE] [b, cc] = false := by with_unfolding_all rfl) : DC X B Γ (.Compare a [.LtE, .LtE] [b, cc] pos) (decide (x ≤ y) && decide (y ≤ z)) :=
  ⟨de_chain op_le op_le (fun F H u v s h1 h2 Q q => ⟨x, y, h1, h2, q F H (Ext.refl s)⟩) (fun _ F H u v s h1 h2 Q q => ⟨y, z, h1, h2, q F H (Ext.refl s)⟩) ha hb hc hm,
   dt_chain op_le op_le (fun F H u v s h1 h2 Q q => ⟨x, y, h1, h2, q F H (Ext.refl s)⟩) (fun _ F H u v s h1 h2 Q q => ⟨y, z, h1, h2, q F H (Ext.refl s)⟩) ha hb hc hm⟩
theorem dc_leLt {x y z : Int} {cc : Expr} (ha : DE X B Γ a rInt x) (hb : DE X B Γ b rInt y) (hc : DE X B Γ cc rInt z) (hm : lastMarks [.LtE, .Lt] [b, cc] = false := by with_unfolding_all rfl) : DC X B Γ (.Compare a [.LtE, .Lt] [b, cc] pos) (decide (x ≤ y) && decide (y < z)) :=
  ⟨de_chain op_le op_lt (fun F H u v s h1 h2 Q q => ⟨x, y, h1, h2, q F H (Ext.refl s)⟩) (fun _ F H u v s h1 h2 Q q => ⟨y, z, h1, h2, q F H (Ext.refl s)⟩) ha hb hc hm,
   dt_chain op_le op_lt (fun F H u v s h1 h2 Q q => ⟨x, y, h1, h2, q F H (Ext.refl s)⟩) (fun _ F H u v s h1 h2 Q q => ⟨y, z, h1, h2, q F H (Ext.refl s)⟩) ha hb hc hm⟩

/-! ### changes of own lists -/
theorem EnvF.setL {σ : L2.St} {F H : Hp} {fp : Nat → Addr → Prop} {i : Nat} {r : Rp α} {as as' : List α} (h : EnvF B Γ σ F H fp) (t : To Γ i (.own (oList r) as') Γ') (at_ : At Γ i (.own (oList r) as)) :
    ∃ p us, σ[i]? = some (some (.ref p)) ∧ H p = some (.lst us) ∧ Rl (r.rel F) us as ∧ ∀ us', Rl (r.rel F) us' as' → EnvF B Γ' σ F (upd H p (.lst us')) (fun j => if j = i then (fun b => b = p) else fp j) := by
  obtain ⟨⟨v, hv, p, us, e, h2, h3, h4⟩, hn⟩ := h.ok i _ at_.get
  subst e
  refine ⟨p, us, hv, h3, h4, fun us' h5 => ?_⟩
  have hx := hn p (by rw [h2])
  refine h.putG (fi := fun b => b = p) t rfl (fun j hj => rfl) ⟨h.base.f, fun b o z => ?_, fun b o z => ?_, h.base.d⟩ (fun b o z => ?_) (Same.refl F) (fun j b hj z => ?_) ?_ (fun j b hj z w => ?_)
  · rw [upd_ne (ne_of_none z hx.2.2)]; exact h.base.h b o z
  · rw [upd_ne (ne_of_none z hx.1)]; exact h.same b o z
  · rw [upd_ne (ne_of_none z hx.1)]; exact h.same b o z
  · have nb : b ≠ p := fun w => h.apart j i hj b z (by rw [h2]; exact w)
    exact ⟨by rw [upd_ne nb], (h.own_at z).1⟩
  · exact ⟨⟨.ref p, hv, p, us', rfl, rfl, upd_same, h5⟩, fun b hb => by subst hb; exact ⟨hx.1, (by rw [upd_same]; intro w; cases w), hx.2.2⟩⟩
  · exact h.apart j i hj b z (by rw [h2]; exact w)
/-- a statement that is the call of an own list's method -/
theorem sd_mut {i : Nat} {r : Rp α} {as as' : List α} {te : TE} (he : PE X e te) (hs : swapsWith e none pos.line X.env = pure false) (at_ : At Γ i (.own (oList r) as)) (t : To Γ i (.own (oList r) as') Γ')
    (hte : ∀ σ F H Q, Env B Γ σ F H → (∀ F1 H1 p us us' v, Env B Γ σ F1 H1 → σ[i]? = some (some (.ref p)) → H1 p = some (.lst us) → Rl (r.rel F1) us as → Rl (r.rel F1) us' as' → Q v (upd H1 p (.lst us'))) → te σ H Q)
    (hr : SD X B Γ' rest D) : SD X B Γ (.Expr e pos :: rest) D :=
  sd_cons (ps_expr he hs) (fun D' l σ H ⟨F, en⟩ => hte σ F H _ en fun F1 H1 p us us' v ⟨fp, en1⟩ hp hu h1 h2 => by
    obtain ⟨p', us0, g1, g2, g3, g4⟩ := en1.setL t at_
    have ep : p' = p := by rw [g1] at hp; cases hp; rfl
    subst ep
    exact l.nx _ _ ⟨F1, _, g4 us' h2⟩) hr
theorem c_append (c : XC P w K mg base k N sc vs ls X) (i : Nat) {r : Rp α} {as : List α} {y : α} {p1 : Pos} (at_ : At Γ i (.own (oList r) as)) (he : DE X B Γ e r y) (t : To Γ i (.own (oList r) (as ++ [y])) Γ') (hr : SD X B Γ' rest D) (hz : as.length ≤ 1000000) (hN : N[i]? = some x := by rfl) (hv : vs.contains i = true := by rfl)
    (hd : (x == ("__debug__" : Str)) = false := by decide) (hcd : (x == ("__classdict__" : Str)) = false := by decide)
    (hbase : attributeBase (.Name x p1) "append" X.env (eval (.Name x p1) X.env) = eval (.Name x p1) X.env := by rfl)
    (hfew : ((backTo p (starEach [e] X.env)).all (fun x => !x.1) && (backToKw p (keywordEach [] X.env)).all (fun x => x.1.isSome) && decide ([e].length + ([] : List Keyword).length + (if ([] : List Keyword).isEmpty then 0 else 1) < 30)) = true := by rfl)
    (hline : (apos.endLine == p.line) = true := by rfl) (hs : starEach [e] X.env = (false, eval e X.env) :: starEach [] X.env := by rfl) (hsw : swapsWith (.Call (.Attribute (.Name x p1) "append" apos) [e] [] p) none pos.line X.env = pure false := by rfl) :
    SD X B Γ (.Expr (.Call (.Attribute (.Name x p1) "append" apos) [e] [] p) pos :: rest) D := by
  have hN' : X.N[i]? = some x := by rw [c.N]; exact hN
  refine sd_mut (pe_bm PySem.F.plainAttrs_list PySem.F.slot_list_append PySem.F.type_list_append mt_append (pe_var hN' (c.vis i x hN' hv) hd hcd) (pa_cons he pa_nil hs) hbase hfew hline hs (by rfl)) hsw at_ t (fun σ F H Q en q => ?_) hr
  obtain ⟨fp, en0⟩ := id en
  obtain ⟨⟨v, hv, p, us, rfl, h2, h3, h4⟩, hn⟩ := en0.ok i _ at_.get
  refine ⟨_, hv, .inl ⟨rfl, us, SqL.of h3⟩, F, en, fun u F1 H1 e1 h1 => ?_⟩
  have h3' : H1 p = some (.lst us) := e1.h _ _ h3
  have h4' : Rl (r.rel F1) us as := Rl.imp (fun _ _ => r.mono e1.f) h4
  exact ⟨p, us, u, rfl, rfl, h3', by rw [h4.length]; exact Nat.lt_of_le_of_lt hz (by decide), q F1 H1 p us (us ++ [u]) _ (en.ext e1) hv h3' h4' (Rl.append h4' (Rl.one h1))⟩
/-- an expression for nothing -/
theorem sd_drop {r : Rp α} {y : α} (he : DE X B Γ e r y) (hr : SD X B Γ rest D) (hs : swapsWith e none pos.line X.env = pure false := by rfl) : SD X B Γ (.Expr e pos :: rest) D :=
  sd_cons (ps_expr he hs) (fun D' l σ H ⟨F, en⟩ => ⟨F, en, fun u F1 H1 e1 h1 => l.nx _ _ ⟨F1, en.ext e1⟩⟩) hr
/-- e.append(y) of a new list, for nothing -/
theorem sd_appendN {r : Rp α} {as : List α} {s : Rp β} {z : β} (he : DM X B Γ e r as) (ha : DE X B Γ a s z) (hr : SD X B Γ rest D) (hz : as.length ≤ 1000000)
    (hbase : attributeBase e "append" X.env (eval e X.env) = eval e X.env := by rfl)
    (hfew : ((backTo p (starEach [a] X.env)).all (fun x => !x.1) && (backToKw p (keywordEach [] X.env)).all (fun x => x.1.isSome) && decide ([a].length + ([] : List Keyword).length + (if ([] : List Keyword).isEmpty then 0 else 1) < 30)) = true := by rfl)
    (hline : (apos.endLine == p.line) = true := by rfl) (hs : starEach [a] X.env = (false, eval a X.env) :: starEach [] X.env := by rfl) (hsw : swapsWith (.Call (.Attribute e "append" apos) [a] [] p) none pos.line X.env = pure false := by rfl) :
    SD X B Γ (.Expr (.Call (.Attribute e "append" apos) [a] [] p) pos :: rest) D := by
  refine sd_cons (ps_expr (pe_bm PySem.F.plainAttrs_list PySem.F.slot_list_append PySem.F.type_list_append mt_append he (pa_cons ha pa_nil hs) hbase hfew hline hs (by rfl)) hsw) (fun D' l σ H ⟨F, en⟩ => ⟨F, en, fun p us F1 H1 e1 h1 h2 h3 h4 => ?_⟩) hr
  refine ⟨.inl ⟨rfl, us, SqL.of h3⟩, F1, en.ext e1, fun u F2 H2 e2 h5 => ?_⟩
  refine ⟨p, us, u, rfl, rfl, e2.h _ _ h3, by rw [h4.length]; exact Nat.lt_of_le_of_lt hz (by decide), l.nx _ _ ?_⟩
  obtain ⟨fp, en0⟩ := id en
  have en2 := en0.ext (e1.trans e2)
  have hp2 : F2 p = none := e2.d p h1 (by rw [h3]; intro w; cases w)
  have hpB : B.H p = none := en.base.h.free h2
  refine ⟨F2, fp, en2.side hp2 hpB fun j z => (en0.own_at z).2.1 h2⟩
end
end DL
namespace DL
open PySem L2 PySem.Spec PyProof.Rows
section
variable {P : Program} {w : World} {K : PySem.W.Frag} {mg : Str → Option Value} {base : Heap} {k j : Nat} {N : List Str} {sc : Scope} {vs ls : List Nat} {X : Cx} {β ρ : Type} {B : Bs} {Γ Γ' : Ctx} {D : Ends} {rest ss : List Stmt} {p pos apos : Pos} {x q f m : Str} {ps : List Str} {st : Stmt} {C : Addr}
abbrev SpF1 {α1 : Type} {ρ : Type} (r1 : Rp α1) (pre : α1 → Prop) (rr : Rp ρ) (f : α1 → ρ) : Sp := SpF (fun i : α1 => [.val r1 i]) (fun i => pre (i)) rr (fun i => f (i))
theorem c_callF1 (c : XC P w K mg base k N sc vs ls X) {α1 : Type} {r1 : Rp α1} {pre : α1 → Prop} {rr : Rp ρ} {f : α1 → ρ} {e1 : Expr} {x1 : α1} (h : FN P w K mg base CX0 j x ps (SpF1 r1 pre rr f)) (h1 : DE X B Γ e1 r1 x1) (hp : pre x1) (hj : j ≤ k := by decide) (hg : glB sc x = true := by decide +kernel)
    (hdb : (x == ("__debug__" : Str)) = false := by decide) (s1 : starEach [e1] X.env = (false, eval e1 X.env) :: starEach [] X.env := by rfl) (hpl : (backTo pos (starEach [] X.env)).any (·.1) = false := by rfl) :
    DE X B Γ (.Call (.Name x p) [e1] [] pos) rr (f x1) := c_call c h x1 (da_cons h1 da_nil s1) hp hj hg hdb s1 hpl
abbrev SpM1 {α1 : Type} {ρ : Type} (r1 : Rp α1) (pre : α1 → Prop) (rr : Rp ρ) (f : α1 → List ρ) : Sp := SpM (fun i : α1 => [.val r1 i]) (fun i => pre (i)) rr (fun i => f (i))
theorem c_callM1 (c : XC P w K mg base k N sc vs ls X) {α1 : Type} {r1 : Rp α1} {pre : α1 → Prop} {rr : Rp ρ} {f : α1 → List ρ} {e1 : Expr} {x1 : α1} (h : FN P w K mg base CX0 j x ps (SpM1 r1 pre rr f)) (h1 : DE X B Γ e1 r1 x1) (hp : pre x1) (hj : j ≤ k := by decide) (hg : glB sc x = true := by decide +kernel)
    (hdb : (x == ("__debug__" : Str)) = false := by decide) (s1 : starEach [e1] X.env = (false, eval e1 X.env) :: starEach [] X.env := by rfl) (hpl : (backTo pos (starEach [] X.env)).any (·.1) = false := by rfl) :
    DM X B Γ (.Call (.Name x p) [e1] [] pos) rr (f x1) := c_callM c h x1 (da_cons h1 da_nil s1) hp hj hg hdb s1 hpl
abbrev SpN1 {α1 : Type} {ρ : Type} (r1 : Rp α1) (pre : α1 → Prop) (rr : Rp ρ) (f : α1 → ρ) : Sp := SpN (fun i : α1 => [.val r1 i]) (fun i => pre (i)) rr (fun i => f (i))
theorem c_callN1 (c : XC P w K mg base k N sc vs ls X) {α1 : Type} {r1 : Rp α1} {pre : α1 → Prop} {rr : Rp ρ} {f : α1 → ρ} {e1 : Expr} {x1 : α1} (h : FN P w K mg base CX0 j x ps (SpN1 r1 pre rr f)) (h1 : DE X B Γ e1 r1 x1) (hp : pre x1) (hj : j ≤ k := by decide) (hg : glB sc x = true := by decide +kernel)
    (hdb : (x == ("__debug__" : Str)) = false := by decide) (s1 : starEach [e1] X.env = (false, eval e1 X.env) :: starEach [] X.env := by rfl) (hpl : (backTo pos (starEach [] X.env)).any (·.1) = false := by rfl) :
    DN X B Γ (.Call (.Name x p) [e1] [] pos) rr (f x1) := c_callN c h x1 (da_cons h1 da_nil s1) hp hj hg hdb s1 hpl
theorem fnF1 {α1 : Type} {r1 : Rp α1} {pre : α1 → Prop} {rr : Rp ρ} {f : α1 → ρ} (T : FT K mg x q st ps) (S : FnScope N ps (defScope st)) (hv : locB N (defScope st) vs = true) (Γu : Ctx) (hl : ps.length = 1 := by rfl) (hu : List.replicate (N.length - ps.length) .un = Γu := by rfl)
    (body : ∀ (X : Cx) (B : Bs) (D : Ends) (x1 : α1), XC P w K mg base k N (defScope st) vs vs X → pre x1 → RtOk B rr (f x1) D → (∀ σ H, D.nx σ H → D.rt .non H) → SD X B (.val r1 x1 :: Γu) (defBody st) { D with nx := fun _ H => D.rt .non H }) : FN P w K mg base CX0 (k + 1) x ps (SpF1 r1 pre rr f) :=
  fnF (fun i => .val r1 i :: Γu) T S hv (fun _ => hl.symm) (fun i => by rw [hu]; rfl) (fun X B D i c hp hD hn => body X B D (i) c hp hD hn)
theorem meF1 {α1 : Type} {r1 : Rp α1} {pre : α1 → Prop} {rr : Rp ρ} {f : α1 → ρ} (T : FTm K m q C st ps) (S : FnScope N ps (defScope st)) (hv : locB N (defScope st) vs = true) (Γu : Ctx) (hl : ps.length = 1 := by rfl) (hu : List.replicate (N.length - ps.length) .un = Γu := by rfl)
    (body : ∀ (X : Cx) (B : Bs) (D : Ends) (x1 : α1), XC P w K mg base k N (defScope st) vs vs X → pre x1 → RtOk B rr (f x1) D → (∀ σ H, D.nx σ H → D.rt .non H) → SD X B (.val r1 x1 :: Γu) (defBody st) { D with nx := fun _ H => D.rt .non H }) : FMe P w K mg base (k + 1) C m ps (SpF1 r1 pre rr f) :=
  meF (fun i => .val r1 i :: Γu) T S hv (fun _ => hl.symm) (fun i => by rw [hu]; rfl) (fun X B D i c hp hD hn => body X B D (i) c hp hD hn)
theorem fnM1 {α1 : Type} {r1 : Rp α1} {pre : α1 → Prop} {rr : Rp ρ} {f : α1 → List ρ} (T : FT K mg x q st ps) (S : FnScope N ps (defScope st)) (hv : locB N (defScope st) vs = true) (Γu : Ctx) (hl : ps.length = 1 := by rfl) (hu : List.replicate (N.length - ps.length) .un = Γu := by rfl)
    (body : ∀ (X : Cx) (B : Bs) (D : Ends) (x1 : α1), XC P w K mg base k N (defScope st) vs vs X → pre x1 → RtM B rr (f x1) D → SD X B (.val r1 x1 :: Γu) (defBody st) D) : FN P w K mg base CX0 (k + 1) x ps (SpM1 r1 pre rr f) :=
  fnM (fun i => .val r1 i :: Γu) T S hv (fun _ => hl.symm) (fun i => by rw [hu]; rfl) (fun X B D i c hp hD => body X B D (i) c hp hD)
theorem meM1 {α1 : Type} {r1 : Rp α1} {pre : α1 → Prop} {rr : Rp ρ} {f : α1 → List ρ} (T : FTm K m q C st ps) (S : FnScope N ps (defScope st)) (hv : locB N (defScope st) vs = true) (Γu : Ctx) (hl : ps.length = 1 := by rfl) (hu : List.replicate (N.length - ps.length) .un = Γu := by rfl)
    (body : ∀ (X : Cx) (B : Bs) (D : Ends) (x1 : α1), XC P w K mg base k N (defScope st) vs vs X → pre x1 → RtM B rr (f x1) D → SD X B (.val r1 x1 :: Γu) (defBody st) D) : FMe P w K mg base (k + 1) C m ps (SpM1 r1 pre rr f) :=
  meM (fun i => .val r1 i :: Γu) T S hv (fun _ => hl.symm) (fun i => by rw [hu]; rfl) (fun X B D i c hp hD => body X B D (i) c hp hD)
theorem fnN1 {α1 : Type} {r1 : Rp α1} {pre : α1 → Prop} {rr : Rp ρ} {f : α1 → ρ} (T : FT K mg x q st ps) (S : FnScope N ps (defScope st)) (hv : locB N (defScope st) vs = true) (Γu : Ctx) (hl : ps.length = 1 := by rfl) (hu : List.replicate (N.length - ps.length) .un = Γu := by rfl)
    (body : ∀ (X : Cx) (B : Bs) (D : Ends) (x1 : α1), XC P w K mg base k N (defScope st) vs vs X → pre x1 → RtN B rr (f x1) D → SD X B (.val r1 x1 :: Γu) (defBody st) D) : FN P w K mg base CX0 (k + 1) x ps (SpN1 r1 pre rr f) :=
  fnN (fun i => .val r1 i :: Γu) T S hv (fun _ => hl.symm) (fun i => by rw [hu]; rfl) (fun X B D i c hp hD => body X B D (i) c hp hD)
abbrev SpI1 {α1 : Type} (C : Addr) (r1 : Rp α1) (pre : α1 → Prop) (names : List Str) (fl : α1 → Ctx) : Sp := SpI C (fun i : α1 => [.val r1 i]) (fun i => pre (i)) names (fun i => fl (i))
theorem fnI1 {α1 : Type} {r1 : Rp α1} {pre : α1 → Prop} {names : List Str} {fl : α1 → Ctx} (T : FTk K mg x q C st ps) (S : FnScope N ps (defScope st)) (hv : locB N (defScope st) vs = true) (Γu : Ctx) (hl : ps.length = 2 := by rfl) (hu : List.replicate (N.length - ps.length) .un = Γu := by rfl)
    (body : ∀ (X : Cx) (B : Bs) (D : Ends) (x1 : α1) (xd : Addr × Addr), XC P w K mg base k N (defScope st) vs vs X → pre x1 → (∀ σ H' Γ', EnvP B (.own (oObj C names (fl x1)) xd :: Γ') σ H' → D.nx σ H') → SD X B (.own (oObj C [] []) xd :: .val r1 x1 :: Γu) (defBody st) D) : FMk P w K mg base (k + 1) x C ps (SpI1 C r1 pre names fl) :=
  fnI (fun i xd => .own (oObj C [] []) xd :: .val r1 i :: Γu) T S hv (fun _ => hl.symm) (fun i xd => by rw [hu]; rfl) (fun X B D i xd c hp hD => body X B D (i) xd c hp hD)
theorem c_make1 (c : XC P w K mg base k N sc vs ls X) {α1 : Type} {r1 : Rp α1} {pre : α1 → Prop} {names : List Str} {fl : α1 → Ctx} {cls : β → Addr} {flds : β → Ctx} {e1 : Expr} {x1 : α1} (o : β) (h : FMk P w K mg base j x C ps (SpI1 C r1 pre names fl)) (h1 : DE X B Γ e1 r1 x1) (hp : pre x1) (hC : cls o = C := by rfl) (hf : flds o = fl x1 := by rfl) (hj : j + 1 ≤ k := by decide) (hg : glB sc x = true := by decide +kernel)
    (hdb : (x == ("__debug__" : Str)) = false := by decide) (s1 : starEach [e1] X.env = (false, eval e1 X.env) :: starEach [] X.env := by rfl) (hpl : (backTo pos (starEach [] X.env)).any (·.1) = false := by rfl) :
    DE X B Γ (.Call (.Name x p) [e1] [] pos) (rObj cls names flds) o := c_make c x1 h (da_cons h1 da_nil s1) hp hC hf hj hg hdb s1 hpl
theorem c_methF1 (c : XC P w K mg base k N sc vs ls X) {pl : Sem Bool} {α1 : Type} {cls : α1 → Addr} {names : List Str} {flds : α1 → Ctx} {pre : α1 → Prop} {rr : Rp ρ} {f : α1 → ρ} {e1 : Expr} {x1 : α1} (h : FMe P w K mg base j (cls x1) m ps (SpF1 (rObj cls names flds) pre rr f)) (h1 : DE X B Γ e1 (rObj cls names flds) x1) (hp : pre x1) (hj : j ≤ k := by decide) (hnm : names.contains m = false := by decide +kernel)
    (ht : eval (.Call (.Attribute e1 m apos) [] [] pos) X.env = (do
      let ov ← eval e1 X.env
      standAt apos.atName
      let (f, first) ← holding [ov] (getMethod ov m pl)
      callWith pos f first (backTo pos (starEach [] X.env)) (backToKw pos (keywordEach [] X.env))) := by rfl) : DE X B Γ (.Call (.Attribute e1 m apos) [] [] pos) rr (f x1) := c_meth0 c x1 h h1 rfl hp hj hnm ht
theorem c_methM1 (c : XC P w K mg base k N sc vs ls X) {pl : Sem Bool} {α1 : Type} {cls : α1 → Addr} {names : List Str} {flds : α1 → Ctx} {pre : α1 → Prop} {rr : Rp ρ} {f : α1 → List ρ} {e1 : Expr} {x1 : α1} (h : FMe P w K mg base j (cls x1) m ps (SpM1 (rObj cls names flds) pre rr f)) (h1 : DE X B Γ e1 (rObj cls names flds) x1) (hp : pre x1) (hj : j ≤ k := by decide) (hnm : names.contains m = false := by decide +kernel)
    (ht : eval (.Call (.Attribute e1 m apos) [] [] pos) X.env = (do
      let ov ← eval e1 X.env
      standAt apos.atName
      let (f, first) ← holding [ov] (getMethod ov m pl)
      callWith pos f first (backTo pos (starEach [] X.env)) (backToKw pos (keywordEach [] X.env))) := by rfl) : DM X B Γ (.Call (.Attribute e1 m apos) [] [] pos) rr (f x1) := c_methM0 c x1 h h1 rfl hp hj hnm ht
abbrev SpF2 {α1 α2 : Type} {ρ : Type} (r1 : Rp α1) (r2 : Rp α2) (pre : α1 → α2 → Prop) (rr : Rp ρ) (f : α1 → α2 → ρ) : Sp := SpF (fun i : α1 × α2 => [.val r1 (i.1), .val r2 (i.2)]) (fun i => pre (i.1) (i.2)) rr (fun i => f (i.1) (i.2))
theorem c_callF2 (c : XC P w K mg base k N sc vs ls X) {α1 α2 : Type} {r1 : Rp α1} {r2 : Rp α2} {pre : α1 → α2 → Prop} {rr : Rp ρ} {f : α1 → α2 → ρ} {e1 e2 : Expr} {x1 : α1} {x2 : α2} (h : FN P w K mg base CX0 j x ps (SpF2 r1 r2 pre rr f)) (h1 : DE X B Γ e1 r1 x1) (h2 : DE X B Γ e2 r2 x2) (hp : pre x1 x2) (hj : j ≤ k := by decide) (hg : glB sc x = true := by decide +kernel)
    (hdb : (x == ("__debug__" : Str)) = false := by decide) (s1 : starEach [e1, e2] X.env = (false, eval e1 X.env) :: starEach [e2] X.env := by rfl) (s2 : starEach [e2] X.env = (false, eval e2 X.env) :: starEach [] X.env := by rfl) (hpl : (backTo pos (starEach [e2] X.env)).any (·.1) = false := by rfl) :
    DE X B Γ (.Call (.Name x p) [e1, e2] [] pos) rr (f x1 x2) := c_call c h (x1, x2) (da_cons h1 (da_cons h2 da_nil s2) s1) hp hj hg hdb s1 hpl
abbrev SpM2 {α1 α2 : Type} {ρ : Type} (r1 : Rp α1) (r2 : Rp α2) (pre : α1 → α2 → Prop) (rr : Rp ρ) (f : α1 → α2 → List ρ) : Sp := SpM (fun i : α1 × α2 => [.val r1 (i.1), .val r2 (i.2)]) (fun i => pre (i.1) (i.2)) rr (fun i => f (i.1) (i.2))
theorem c_callM2 (c : XC P w K mg base k N sc vs ls X) {α1 α2 : Type} {r1 : Rp α1} {r2 : Rp α2} {pre : α1 → α2 → Prop} {rr : Rp ρ} {f : α1 → α2 → List ρ} {e1 e2 : Expr} {x1 : α1} {x2 : α2} (h : FN P w K mg base CX0 j x ps (SpM2 r1 r2 pre rr f)) (h1 : DE X B Γ e1 r1 x1) (h2 : DE X B Γ e2 r2 x2) (hp : pre x1 x2) (hj : j ≤ k := by decide) (hg : glB sc x = true := by decide +kernel)
    (hdb : (x == ("__debug__" : Str)) = false := by decide) (s1 : starEach [e1, e2] X.env = (false, eval e1 X.env) :: starEach [e2] X.env := by rfl) (s2 : starEach [e2] X.env = (false, eval e2 X.env) :: starEach [] X.env := by rfl) (hpl : (backTo pos (starEach [e2] X.env)).any (·.1) = false := by rfl) :
    DM X B Γ (.Call (.Name x p) [e1, e2] [] pos) rr (f x1 x2) := c_callM c h (x1, x2) (da_cons h1 (da_cons h2 da_nil s2) s1) hp hj hg hdb s1 hpl
abbrev SpN2 {α1 α2 : Type} {ρ : Type} (r1 : Rp α1) (r2 : Rp α2) (pre : α1 → α2 → Prop) (rr : Rp ρ) (f : α1 → α2 → ρ) : Sp := SpN (fun i : α1 × α2 => [.val r1 (i.1), .val r2 (i.2)]) (fun i => pre (i.1) (i.2)) rr (fun i => f (i.1) (i.2))
theorem c_callN2 (c : XC P w K mg base k N sc vs ls X) {α1 α2 : Type} {r1 : Rp α1} {r2 : Rp α2} {pre : α1 → α2 → Prop} {rr : Rp ρ} {f : α1 → α2 → ρ} {e1 e2 : Expr} {x1 : α1} {x2 : α2} (h : FN P w K mg base CX0 j x ps (SpN2 r1 r2 pre rr f)) (h1 : DE X B Γ e1 r1 x1) (h2 : DE X B Γ e2 r2 x2) (hp : pre x1 x2) (hj : j ≤ k := by decide) (hg : glB sc x = true := by decide +kernel)
    (hdb : (x == ("__debug__" : Str)) = false := by decide) (s1 : starEach [e1, e2] X.env = (false, eval e1 X.env) :: starEach [e2] X.env := by rfl) (s2 : starEach [e2] X.env = (false, eval e2 X.env) :: starEach [] X.env := by rfl) (hpl : (backTo pos (starEach [e2] X.env)).any (·.1) = false := by rfl) :
    DN X B Γ (.Call (.Name x p) [e1, e2] [] pos) rr (f x1 x2) := c_callN c h (x1, x2) (da_cons h1 (da_cons h2 da_nil s2) s1) hp hj hg hdb s1 hpl
theorem fnF2 {α1 α2 : Type} {r1 : Rp α1} {r2 : Rp α2} {pre : α1 → α2 → Prop} {rr : Rp ρ} {f : α1 → α2 → ρ} (T : FT K mg x q st ps) (S : FnScope N ps (defScope st)) (hv : locB N (defScope st) vs = true) (Γu : Ctx) (hl : ps.length = 2 := by rfl) (hu : List.replicate (N.length - ps.length) .un = Γu := by rfl)
    (body : ∀ (X : Cx) (B : Bs) (D : Ends) (x1 : α1) (x2 : α2), XC P w K mg base k N (defScope st) vs vs X → pre x1 x2 → RtOk B rr (f x1 x2) D → (∀ σ H, D.nx σ H → D.rt .non H) → SD X B (.val r1 x1 :: .val r2 x2 :: Γu) (defBody st) { D with nx := fun _ H => D.rt .non H }) : FN P w K mg base CX0 (k + 1) x ps (SpF2 r1 r2 pre rr f) :=
  fnF (fun i => .val r1 (i.1) :: .val r2 (i.2) :: Γu) T S hv (fun _ => hl.symm) (fun i => by rw [hu]; rfl) (fun X B D i c hp hD hn => body X B D (i.1) (i.2) c hp hD hn)
theorem meF2 {α1 α2 : Type} {r1 : Rp α1} {r2 : Rp α2} {pre : α1 → α2 → Prop} {rr : Rp ρ} {f : α1 → α2 → ρ} (T : FTm K m q C st ps) (S : FnScope N ps (defScope st)) (hv : locB N (defScope st) vs = true) (Γu : Ctx) (hl : ps.length = 2 := by rfl) (hu : List.replicate (N.length - ps.length) .un = Γu := by rfl)
    (body : ∀ (X : Cx) (B : Bs) (D : Ends) (x1 : α1) (x2 : α2), XC P w K mg base k N (defScope st) vs vs X → pre x1 x2 → RtOk B rr (f x1 x2) D → (∀ σ H, D.nx σ H → D.rt .non H) → SD X B (.val r1 x1 :: .val r2 x2 :: Γu) (defBody st) { D with nx := fun _ H => D.rt .non H }) : FMe P w K mg base (k + 1) C m ps (SpF2 r1 r2 pre rr f) :=
  meF (fun i => .val r1 (i.1) :: .val r2 (i.2) :: Γu) T S hv (fun _ => hl.symm) (fun i => by rw [hu]; rfl) (fun X B D i c hp hD hn => body X B D (i.1) (i.2) c hp hD hn)
theorem fnM2 {α1 α2 : Type} {r1 : Rp α1} {r2 : Rp α2} {pre : α1 → α2 → Prop} {rr : Rp ρ} {f : α1 → α2 → List ρ} (T : FT K mg x q st ps) (S : FnScope N ps (defScope st)) (hv : locB N (defScope st) vs = true) (Γu : Ctx) (hl : ps.length = 2 := by rfl) (hu : List.replicate (N.length - ps.length) .un = Γu := by rfl)
    (body : ∀ (X : Cx) (B : Bs) (D : Ends) (x1 : α1) (x2 : α2), XC P w K mg base k N (defScope st) vs vs X → pre x1 x2 → RtM B rr (f x1 x2) D → SD X B (.val r1 x1 :: .val r2 x2 :: Γu) (defBody st) D) : FN P w K mg base CX0 (k + 1) x ps (SpM2 r1 r2 pre rr f) :=
  fnM (fun i => .val r1 (i.1) :: .val r2 (i.2) :: Γu) T S hv (fun _ => hl.symm) (fun i => by rw [hu]; rfl) (fun X B D i c hp hD => body X B D (i.1) (i.2) c hp hD)
theorem meM2 {α1 α2 : Type} {r1 : Rp α1} {r2 : Rp α2} {pre : α1 → α2 → Prop} {rr : Rp ρ} {f : α1 → α2 → List ρ} (T : FTm K m q C st ps) (S : FnScope N ps (defScope st)) (hv : locB N (defScope st) vs = true) (Γu : Ctx) (hl : ps.length = 2 := by rfl) (hu : List.replicate (N.length - ps.length) .un = Γu := by rfl)
    (body : ∀ (X : Cx) (B : Bs) (D : Ends) (x1 : α1) (x2 : α2), XC P w K mg base k N (defScope st) vs vs X → pre x1 x2 → RtM B rr (f x1 x2) D → SD X B (.val r1 x1 :: .val r2 x2 :: Γu) (defBody st) D) : FMe P w K mg base (k + 1) C m ps (SpM2 r1 r2 pre rr f) :=
  meM (fun i => .val r1 (i.1) :: .val r2 (i.2) :: Γu) T S hv (fun _ => hl.symm) (fun i => by rw [hu]; rfl) (fun X B D i c hp hD => body X B D (i.1) (i.2) c hp hD)
theorem fnN2 {α1 α2 : Type} {r1 : Rp α1} {r2 : Rp α2} {pre : α1 → α2 → Prop} {rr : Rp ρ} {f : α1 → α2 → ρ} (T : FT K mg x q st ps) (S : FnScope N ps (defScope st)) (hv : locB N (defScope st) vs = true) (Γu : Ctx) (hl : ps.length = 2 := by rfl) (hu : List.replicate (N.length - ps.length) .un = Γu := by rfl)
    (body : ∀ (X : Cx) (B : Bs) (D : Ends) (x1 : α1) (x2 : α2), XC P w K mg base k N (defScope st) vs vs X → pre x1 x2 → RtN B rr (f x1 x2) D → SD X B (.val r1 x1 :: .val r2 x2 :: Γu) (defBody st) D) : FN P w K mg base CX0 (k + 1) x ps (SpN2 r1 r2 pre rr f) :=
  fnN (fun i => .val r1 (i.1) :: .val r2 (i.2) :: Γu) T S hv (fun _ => hl.symm) (fun i => by rw [hu]; rfl) (fun X B D i c hp hD => body X B D (i.1) (i.2) c hp hD)
abbrev SpI2 {α1 α2 : Type} (C : Addr) (r1 : Rp α1) (r2 : Rp α2) (pre : α1 → α2 → Prop) (names : List Str) (fl : α1 → α2 → Ctx) : Sp := SpI C (fun i : α1 × α2 => [.val r1 (i.1), .val r2 (i.2)]) (fun i => pre (i.1) (i.2)) names (fun i => fl (i.1) (i.2))
theorem fnI2 {α1 α2 : Type} {r1 : Rp α1} {r2 : Rp α2} {pre : α1 → α2 → Prop} {names : List Str} {fl : α1 → α2 → Ctx} (T : FTk K mg x q C st ps) (S : FnScope N ps (defScope st)) (hv : locB N (defScope st) vs = true) (Γu : Ctx) (hl : ps.length = 3 := by rfl) (hu : List.replicate (N.length - ps.length) .un = Γu := by rfl)
    (body : ∀ (X : Cx) (B : Bs) (D : Ends) (x1 : α1) (x2 : α2) (xd : Addr × Addr), XC P w K mg base k N (defScope st) vs vs X → pre x1 x2 → (∀ σ H' Γ', EnvP B (.own (oObj C names (fl x1 x2)) xd :: Γ') σ H' → D.nx σ H') → SD X B (.own (oObj C [] []) xd :: .val r1 x1 :: .val r2 x2 :: Γu) (defBody st) D) : FMk P w K mg base (k + 1) x C ps (SpI2 C r1 r2 pre names fl) :=
  fnI (fun i xd => .own (oObj C [] []) xd :: .val r1 (i.1) :: .val r2 (i.2) :: Γu) T S hv (fun _ => hl.symm) (fun i xd => by rw [hu]; rfl) (fun X B D i xd c hp hD => body X B D (i.1) (i.2) xd c hp hD)
theorem c_make2 (c : XC P w K mg base k N sc vs ls X) {α1 α2 : Type} {r1 : Rp α1} {r2 : Rp α2} {pre : α1 → α2 → Prop} {names : List Str} {fl : α1 → α2 → Ctx} {cls : β → Addr} {flds : β → Ctx} {e1 e2 : Expr} {x1 : α1} {x2 : α2} (o : β) (h : FMk P w K mg base j x C ps (SpI2 C r1 r2 pre names fl)) (h1 : DE X B Γ e1 r1 x1) (h2 : DE X B Γ e2 r2 x2) (hp : pre x1 x2) (hC : cls o = C := by rfl) (hf : flds o = fl x1 x2 := by rfl) (hj : j + 1 ≤ k := by decide) (hg : glB sc x = true := by decide +kernel)
    (hdb : (x == ("__debug__" : Str)) = false := by decide) (s1 : starEach [e1, e2] X.env = (false, eval e1 X.env) :: starEach [e2] X.env := by rfl) (s2 : starEach [e2] X.env = (false, eval e2 X.env) :: starEach [] X.env := by rfl) (hpl : (backTo pos (starEach [e2] X.env)).any (·.1) = false := by rfl) :
    DE X B Γ (.Call (.Name x p) [e1, e2] [] pos) (rObj cls names flds) o := c_make c (x1, x2) h (da_cons h1 (da_cons h2 da_nil s2) s1) hp hC hf hj hg hdb s1 hpl
theorem c_methF2 (c : XC P w K mg base k N sc vs ls X) {pl : Sem Bool} {α1 α2 : Type} {cls : α1 → Addr} {names : List Str} {flds : α1 → Ctx} {r2 : Rp α2} {pre : α1 → α2 → Prop} {rr : Rp ρ} {f : α1 → α2 → ρ} {e1 e2 : Expr} {x1 : α1} {x2 : α2} (h : FMe P w K mg base j (cls x1) m ps (SpF2 (rObj cls names flds) r2 pre rr f)) (h1 : DE X B Γ e1 (rObj cls names flds) x1) (h2 : DE X B Γ e2 r2 x2) (hp : pre x1 x2) (hj : j ≤ k := by decide) (hnm : names.contains m = false := by decide +kernel)
    (s2 : starEach [e2] X.env = (false, eval e2 X.env) :: starEach [] X.env := by rfl) (hpl : (backTo pos (starEach [] X.env)).any (·.1) = false := by rfl)
    (ht : eval (.Call (.Attribute e1 m apos) [e2] [] pos) X.env = (do
      let ov ← eval e1 X.env
      standAt apos.atName
      let (f, first) ← holding [ov] (getMethod ov m pl)
      callWith pos f first (backTo pos (starEach [e2] X.env)) (backToKw pos (keywordEach [] X.env))) := by rfl) : DE X B Γ (.Call (.Attribute e1 m apos) [e2] [] pos) rr (f x1 x2) := c_meth c (x1, x2) h h1 rfl (da_cons h2 da_nil s2) hp hj hnm s2 hpl ht
abbrev SpF3 {α1 α2 α3 : Type} {ρ : Type} (r1 : Rp α1) (r2 : Rp α2) (r3 : Rp α3) (pre : α1 → α2 → α3 → Prop) (rr : Rp ρ) (f : α1 → α2 → α3 → ρ) : Sp := SpF (fun i : α1 × α2 × α3 => [.val r1 (i.1), .val r2 (i.2.1), .val r3 (i.2.2)]) (fun i => pre (i.1) (i.2.1) (i.2.2)) rr (fun i => f (i.1) (i.2.1) (i.2.2))
theorem c_callF3 (c : XC P w K mg base k N sc vs ls X) {α1 α2 α3 : Type} {r1 : Rp α1} {r2 : Rp α2} {r3 : Rp α3} {pre : α1 → α2 → α3 → Prop} {rr : Rp ρ} {f : α1 → α2 → α3 → ρ} {e1 e2 e3 : Expr} {x1 : α1} {x2 : α2} {x3 : α3} (h : FN P w K mg base CX0 j x ps (SpF3 r1 r2 r3 pre rr f)) (h1 : DE X B Γ e1 r1 x1) (h2 : DE X B Γ e2 r2 x2) (h3 : DE X B Γ e3 r3 x3) (hp : pre x1 x2 x3) (hj : j ≤ k := by decide) (hg : glB sc x = true := by decide +kernel)
    (hdb : (x == ("__debug__" : Str)) = false := by decide) (s1 : starEach [e1, e2, e3] X.env = (false, eval e1 X.env) :: starEach [e2, e3] X.env := by rfl) (s2 : starEach [e2, e3] X.env = (false, eval e2 X.env) :: starEach [e3] X.env := by rfl) (s3 : starEach [e3] X.env = (false, eval e3 X.env) :: starEach [] X.env := by rfl) (hpl : (backTo pos (starEach [e2, e3] X.env)).any (·.1) = false := by rfl) :
    DE X B Γ (.Call (.Name x p) [e1, e2, e3] [] pos) rr (f x1 x2 x3) := c_call c h (x1, x2, x3) (da_cons h1 (da_cons h2 (da_cons h3 da_nil s3) s2) s1) hp hj hg hdb s1 hpl
abbrev SpM3 {α1 α2 α3 : Type} {ρ : Type} (r1 : Rp α1) (r2 : Rp α2) (r3 : Rp α3) (pre : α1 → α2 → α3 → Prop) (rr : Rp ρ) (f : α1 → α2 → α3 → List ρ) : Sp := SpM (fun i : α1 × α2 × α3 => [.val r1 (i.1), .val r2 (i.2.1), .val r3 (i.2.2)]) (fun i => pre (i.1) (i.2.1) (i.2.2)) rr (fun i => f (i.1) (i.2.1) (i.2.2))
theorem c_callM3 (c : XC P w K mg base k N sc vs ls X) {α1 α2 α3 : Type} {r1 : Rp α1} {r2 : Rp α2} {r3 : Rp α3} {pre : α1 → α2 → α3 → Prop} {rr : Rp ρ} {f : α1 → α2 → α3 → List ρ} {e1 e2 e3 : Expr} {x1 : α1} {x2 : α2} {x3 : α3} (h : FN P w K mg base CX0 j x ps (SpM3 r1 r2 r3 pre rr f)) (h1 : DE X B Γ e1 r1 x1) (h2 : DE X B Γ e2 r2 x2) (h3 : DE X B Γ e3 r3 x3) (hp : pre x1 x2 x3) (hj : j ≤ k := by decide) (hg : glB sc x = true := by decide +kernel)
    (hdb : (x == ("__debug__" : Str)) = false := by decide) (s1 : starEach [e1, e2, e3] X.env = (false, eval e1 X.env) :: starEach [e2, e3] X.env := by rfl) (s2 : starEach [e2, e3] X.env = (false, eval e2 X.env) :: starEach [e3] X.env := by rfl) (s3 : starEach [e3] X.env = (false, eval e3 X.env) :: starEach [] X.env := by rfl) (hpl : (backTo pos (starEach [e2, e3] X.env)).any (·.1) = false := by rfl) :
    DM X B Γ (.Call (.Name x p) [e1, e2, e3] [] pos) rr (f x1 x2 x3) := c_callM c h (x1, x2, x3) (da_cons h1 (da_cons h2 (da_cons h3 da_nil s3) s2) s1) hp hj hg hdb s1 hpl
abbrev SpN3 {α1 α2 α3 : Type} {ρ : Type} (r1 : Rp α1) (r2 : Rp α2) (r3 : Rp α3) (pre : α1 → α2 → α3 → Prop) (rr : Rp ρ) (f : α1 → α2 → α3 → ρ) : Sp := SpN (fun i : α1 × α2 × α3 => [.val r1 (i.1), .val r2 (i.2.1), .val r3 (i.2.2)]) (fun i => pre (i.1) (i.2.1) (i.2.2)) rr (fun i => f (i.1) (i.2.1) (i.2.2))
theorem c_callN3 (c : XC P w K mg base k N sc vs ls X) {α1 α2 α3 : Type} {r1 : Rp α1} {r2 : Rp α2} {r3 : Rp α3} {pre : α1 → α2 → α3 → Prop} {rr : Rp ρ} {f : α1 → α2 → α3 → ρ} {e1 e2 e3 : Expr} {x1 : α1} {x2 : α2} {x3 : α3} (h : FN P w K mg base CX0 j x ps (SpN3 r1 r2 r3 pre rr f)) (h1 : DE X B Γ e1 r1 x1) (h2 : DE X B Γ e2 r2 x2) (h3 : DE X B Γ e3 r3 x3) (hp : pre x1 x2 x3) (hj : j ≤ k := by decide) (hg : glB sc x = true := by decide +kernel)
    (hdb : (x == ("__debug__" : Str)) = false := by decide) (s1 : starEach [e1, e2, e3] X.env = (false, eval e1 X.env) :: starEach [e2, e3] X.env := by rfl) (s2 : starEach [e2, e3] X.env = (false, eval e2 X.env) :: starEach [e3] X.env := by rfl) (s3 : starEach [e3] X.env = (false, eval e3 X.env) :: starEach [] X.env := by rfl) (hpl : (backTo pos (starEach [e2, e3] X.env)).any (·.1) = false := by rfl) :
    DN X B Γ (.Call (.Name x p) [e1, e2, e3] [] pos) rr (f x1 x2 x3) := c_callN c h (x1, x2, x3) (da_cons h1 (da_cons h2 (da_cons h3 da_nil s3) s2) s1) hp hj hg hdb s1 hpl
theorem fnF3 {α1 α2 α3 : Type} {r1 : Rp α1} {r2 : Rp α2} {r3 : Rp α3} {pre : α1 → α2 → α3 → Prop} {rr : Rp ρ} {f : α1 → α2 → α3 → ρ} (T : FT K mg x q st ps) (S : FnScope N ps (defScope st)) (hv : locB N (defScope st) vs = true) (Γu : Ctx) (hl : ps.length = 3 := by rfl) (hu : List.replicate (N.length - ps.length) .un = Γu := by rfl)
    (body : ∀ (X : Cx) (B : Bs) (D : Ends) (x1 : α1) (x2 : α2) (x3 : α3), XC P w K mg base k N (defScope st) vs vs X → pre x1 x2 x3 → RtOk B rr (f x1 x2 x3) D → (∀ σ H, D.nx σ H → D.rt .non H) → SD X B (.val r1 x1 :: .val r2 x2 :: .val r3 x3 :: Γu) (defBody st) { D with nx := fun _ H => D.rt .non H }) : FN P w K mg base CX0 (k + 1) x ps (SpF3 r1 r2 r3 pre rr f) :=
  fnF (fun i => .val r1 (i.1) :: .val r2 (i.2.1) :: .val r3 (i.2.2) :: Γu) T S hv (fun _ => hl.symm) (fun i => by rw [hu]; rfl) (fun X B D i c hp hD hn => body X B D (i.1) (i.2.1) (i.2.2) c hp hD hn)
theorem meF3 {α1 α2 α3 : Type} {r1 : Rp α1} {r2 : Rp α2} {r3 : Rp α3} {pre : α1 → α2 → α3 → Prop} {rr : Rp ρ} {f : α1 → α2 → α3 → ρ} (T : FTm K m q C st ps) (S : FnScope N ps (defScope st)) (hv : locB N (defScope st) vs = true) (Γu : Ctx) (hl : ps.length = 3 := by rfl) (hu : List.replicate (N.length - ps.length) .un = Γu := by rfl)
    (body : ∀ (X : Cx) (B : Bs) (D : Ends) (x1 : α1) (x2 : α2) (x3 : α3), XC P w K mg base k N (defScope st) vs vs X → pre x1 x2 x3 → RtOk B rr (f x1 x2 x3) D → (∀ σ H, D.nx σ H → D.rt .non H) → SD X B (.val r1 x1 :: .val r2 x2 :: .val r3 x3 :: Γu) (defBody st) { D with nx := fun _ H => D.rt .non H }) : FMe P w K mg base (k + 1) C m ps (SpF3 r1 r2 r3 pre rr f) :=
  meF (fun i => .val r1 (i.1) :: .val r2 (i.2.1) :: .val r3 (i.2.2) :: Γu) T S hv (fun _ => hl.symm) (fun i => by rw [hu]; rfl) (fun X B D i c hp hD hn => body X B D (i.1) (i.2.1) (i.2.2) c hp hD hn)
theorem fnM3 {α1 α2 α3 : Type} {r1 : Rp α1} {r2 : Rp α2} {r3 : Rp α3} {pre : α1 → α2 → α3 → Prop} {rr : Rp ρ} {f : α1 → α2 → α3 → List ρ} (T : FT K mg x q st ps) (S : FnScope N ps (defScope st)) (hv : locB N (defScope st) vs = true) (Γu : Ctx) (hl : ps.length = 3 := by rfl) (hu : List.replicate (N.length - ps.length) .un = Γu := by rfl)
    (body : ∀ (X : Cx) (B : Bs) (D : Ends) (x1 : α1) (x2 : α2) (x3 : α3), XC P w K mg base k N (defScope st) vs vs X → pre x1 x2 x3 → RtM B rr (f x1 x2 x3) D → SD X B (.val r1 x1 :: .val r2 x2 :: .val r3 x3 :: Γu) (defBody st) D) : FN P w K mg base CX0 (k + 1) x ps (SpM3 r1 r2 r3 pre rr f) :=
  fnM (fun i => .val r1 (i.1) :: .val r2 (i.2.1) :: .val r3 (i.2.2) :: Γu) T S hv (fun _ => hl.symm) (fun i => by rw [hu]; rfl) (fun X B D i c hp hD => body X B D (i.1) (i.2.1) (i.2.2) c hp hD)
theorem meM3 {α1 α2 α3 : Type} {r1 : Rp α1} {r2 : Rp α2} {r3 : Rp α3} {pre : α1 → α2 → α3 → Prop} {rr : Rp ρ} {f : α1 → α2 → α3 → List ρ} (T : FTm K m q C st ps) (S : FnScope N ps (defScope st)) (hv : locB N (defScope st) vs = true) (Γu : Ctx) (hl : ps.length = 3 := by rfl) (hu : List.replicate (N.length - ps.length) .un = Γu := by rfl)
    (body : ∀ (X : Cx) (B : Bs) (D : Ends) (x1 : α1) (x2 : α2) (x3 : α3), XC P w K mg base k N (defScope st) vs vs X → pre x1 x2 x3 → RtM B rr (f x1 x2 x3) D → SD X B (.val r1 x1 :: .val r2 x2 :: .val r3 x3 :: Γu) (defBody st) D) : FMe P w K mg base (k + 1) C m ps (SpM3 r1 r2 r3 pre rr f) :=
  meM (fun i => .val r1 (i.1) :: .val r2 (i.2.1) :: .val r3 (i.2.2) :: Γu) T S hv (fun _ => hl.symm) (fun i => by rw [hu]; rfl) (fun X B D i c hp hD => body X B D (i.1) (i.2.1) (i.2.2) c hp hD)
theorem fnN3 {α1 α2 α3 : Type} {r1 : Rp α1} {r2 : Rp α2} {r3 : Rp α3} {pre : α1 → α2 → α3 → Prop} {rr : Rp ρ} {f : α1 → α2 → α3 → ρ} (T : FT K mg x q st ps) (S : FnScope N ps (defScope st)) (hv : locB N (defScope st) vs = true) (Γu : Ctx) (hl : ps.length = 3 := by rfl) (hu : List.replicate (N.length - ps.length) .un = Γu := by rfl)
    (body : ∀ (X : Cx) (B : Bs) (D : Ends) (x1 : α1) (x2 : α2) (x3 : α3), XC P w K mg base k N (defScope st) vs vs X → pre x1 x2 x3 → RtN B rr (f x1 x2 x3) D → SD X B (.val r1 x1 :: .val r2 x2 :: .val r3 x3 :: Γu) (defBody st) D) : FN P w K mg base CX0 (k + 1) x ps (SpN3 r1 r2 r3 pre rr f) :=
  fnN (fun i => .val r1 (i.1) :: .val r2 (i.2.1) :: .val r3 (i.2.2) :: Γu) T S hv (fun _ => hl.symm) (fun i => by rw [hu]; rfl) (fun X B D i c hp hD => body X B D (i.1) (i.2.1) (i.2.2) c hp hD)
abbrev SpI3 {α1 α2 α3 : Type} (C : Addr) (r1 : Rp α1) (r2 : Rp α2) (r3 : Rp α3) (pre : α1 → α2 → α3 → Prop) (names : List Str) (fl : α1 → α2 → α3 → Ctx) : Sp := SpI C (fun i : α1 × α2 × α3 => [.val r1 (i.1), .val r2 (i.2.1), .val r3 (i.2.2)]) (fun i => pre (i.1) (i.2.1) (i.2.2)) names (fun i => fl (i.1) (i.2.1) (i.2.2))
theorem fnI3 {α1 α2 α3 : Type} {r1 : Rp α1} {r2 : Rp α2} {r3 : Rp α3} {pre : α1 → α2 → α3 → Prop} {names : List Str} {fl : α1 → α2 → α3 → Ctx} (T : FTk K mg x q C st ps) (S : FnScope N ps (defScope st)) (hv : locB N (defScope st) vs = true) (Γu : Ctx) (hl : ps.length = 4 := by rfl) (hu : List.replicate (N.length - ps.length) .un = Γu := by rfl)
    (body : ∀ (X : Cx) (B : Bs) (D : Ends) (x1 : α1) (x2 : α2) (x3 : α3) (xd : Addr × Addr), XC P w K mg base k N (defScope st) vs vs X → pre x1 x2 x3 → (∀ σ H' Γ', EnvP B (.own (oObj C names (fl x1 x2 x3)) xd :: Γ') σ H' → D.nx σ H') → SD X B (.own (oObj C [] []) xd :: .val r1 x1 :: .val r2 x2 :: .val r3 x3 :: Γu) (defBody st) D) : FMk P w K mg base (k + 1) x C ps (SpI3 C r1 r2 r3 pre names fl) :=
  fnI (fun i xd => .own (oObj C [] []) xd :: .val r1 (i.1) :: .val r2 (i.2.1) :: .val r3 (i.2.2) :: Γu) T S hv (fun _ => hl.symm) (fun i xd => by rw [hu]; rfl) (fun X B D i xd c hp hD => body X B D (i.1) (i.2.1) (i.2.2) xd c hp hD)
theorem c_make3 (c : XC P w K mg base k N sc vs ls X) {α1 α2 α3 : Type} {r1 : Rp α1} {r2 : Rp α2} {r3 : Rp α3} {pre : α1 → α2 → α3 → Prop} {names : List Str} {fl : α1 → α2 → α3 → Ctx} {cls : β → Addr} {flds : β → Ctx} {e1 e2 e3 : Expr} {x1 : α1} {x2 : α2} {x3 : α3} (o : β) (h : FMk P w K mg base j x C ps (SpI3 C r1 r2 r3 pre names fl)) (h1 : DE X B Γ e1 r1 x1) (h2 : DE X B Γ e2 r2 x2) (h3 : DE X B Γ e3 r3 x3) (hp : pre x1 x2 x3) (hC : cls o = C := by rfl) (hf : flds o = fl x1 x2 x3 := by rfl) (hj : j + 1 ≤ k := by decide) (hg : glB sc x = true := by decide +kernel)
    (hdb : (x == ("__debug__" : Str)) = false := by decide) (s1 : starEach [e1, e2, e3] X.env = (false, eval e1 X.env) :: starEach [e2, e3] X.env := by rfl) (s2 : starEach [e2, e3] X.env = (false, eval e2 X.env) :: starEach [e3] X.env := by rfl) (s3 : starEach [e3] X.env = (false, eval e3 X.env) :: starEach [] X.env := by rfl) (hpl : (backTo pos (starEach [e2, e3] X.env)).any (·.1) = false := by rfl) :
    DE X B Γ (.Call (.Name x p) [e1, e2, e3] [] pos) (rObj cls names flds) o := c_make c (x1, x2, x3) h (da_cons h1 (da_cons h2 (da_cons h3 da_nil s3) s2) s1) hp hC hf hj hg hdb s1 hpl
theorem c_methF3 (c : XC P w K mg base k N sc vs ls X) {pl : Sem Bool} {α1 α2 α3 : Type} {cls : α1 → Addr} {names : List Str} {flds : α1 → Ctx} {r2 : Rp α2} {r3 : Rp α3} {pre : α1 → α2 → α3 → Prop} {rr : Rp ρ} {f : α1 → α2 → α3 → ρ} {e1 e2 e3 : Expr} {x1 : α1} {x2 : α2} {x3 : α3} (h : FMe P w K mg base j (cls x1) m ps (SpF3 (rObj cls names flds) r2 r3 pre rr f)) (h1 : DE X B Γ e1 (rObj cls names flds) x1) (h2 : DE X B Γ e2 r2 x2) (h3 : DE X B Γ e3 r3 x3) (hp : pre x1 x2 x3) (hj : j ≤ k := by decide) (hnm : names.contains m = false := by decide +kernel)
    (s2 : starEach [e2, e3] X.env = (false, eval e2 X.env) :: starEach [e3] X.env := by rfl) (s3 : starEach [e3] X.env = (false, eval e3 X.env) :: starEach [] X.env := by rfl) (hpl : (backTo pos (starEach [e3] X.env)).any (·.1) = false := by rfl)
    (ht : eval (.Call (.Attribute e1 m apos) [e2, e3] [] pos) X.env = (do
      let ov ← eval e1 X.env
      standAt apos.atName
      let (f, first) ← holding [ov] (getMethod ov m pl)
      callWith pos f first (backTo pos (starEach [e2, e3] X.env)) (backToKw pos (keywordEach [] X.env))) := by rfl) : DE X B Γ (.Call (.Attribute e1 m apos) [e2, e3] [] pos) rr (f x1 x2 x3) := c_meth c (x1, x2, x3) h h1 rfl (da_cons h2 (da_cons h3 da_nil s3) s2) hp hj hnm s2 hpl ht
abbrev SpF4 {α1 α2 α3 α4 : Type} {ρ : Type} (r1 : Rp α1) (r2 : Rp α2) (r3 : Rp α3) (r4 : Rp α4) (pre : α1 → α2 → α3 → α4 → Prop) (rr : Rp ρ) (f : α1 → α2 → α3 → α4 → ρ) : Sp := SpF (fun i : α1 × α2 × α3 × α4 => [.val r1 (i.1), .val r2 (i.2.1), .val r3 (i.2.2.1), .val r4 (i.2.2.2)]) (fun i => pre (i.1) (i.2.1) (i.2.2.1) (i.2.2.2)) rr (fun i => f (i.1) (i.2.1) (i.2.2.1) (i.2.2.2))
theorem c_callF4 (c : XC P w K mg base k N sc vs ls X) {α1 α2 α3 α4 : Type} {r1 : Rp α1} {r2 : Rp α2} {r3 : Rp α3} {r4 : Rp α4} {pre : α1 → α2 → α3 → α4 → Prop} {rr : Rp ρ} {f : α1 → α2 → α3 → α4 → ρ} {e1 e2 e3 e4 : Expr} {x1 : α1} {x2 : α2} {x3 : α3} {x4 : α4} (h : FN P w K mg base CX0 j x ps (SpF4 r1 r2 r3 r4 pre rr f)) (h1 : DE X B Γ e1 r1 x1) (h2 : DE X B Γ e2 r2 x2) (h3 : DE X B Γ e3 r3 x3) (h4 : DE X B Γ e4 r4 x4) (hp : pre x1 x2 x3 x4) (hj : j ≤ k := by decide) (hg : glB sc x = true := by decide +kernel)
    (hdb : (x == ("__debug__" : Str)) = false := by decide) (s1 : starEach [e1, e2, e3, e4] X.env = (false, eval e1 X.env) :: starEach [e2, e3, e4] X.env := by rfl) (s2 : starEach [e2, e3, e4] X.env = (false, eval e2 X.env) :: starEach [e3, e4] X.env := by rfl) (s3 : starEach [e3, e4] X.env = (false, eval e3 X.env) :: starEach [e4] X.env := by rfl) (s4 : starEach [e4] X.env = (false, eval e4 X.env) :: starEach [] X.env := by rfl) (hpl : (backTo pos (starEach [e2, e3, e4] X.env)).any (·.1) = false := by rfl) :
    DE X B Γ (.Call (.Name x p) [e1, e2, e3, e4] [] pos) rr (f x1 x2 x3 x4) := c_call c h (x1, x2, x3, x4) (da_cons h1 (da_cons h2 (da_cons h3 (da_cons h4 da_nil s4) s3) s2) s1) hp hj hg hdb s1 hpl
abbrev SpM4 {α1 α2 α3 α4 : Type} {ρ : Type} (r1 : Rp α1) (r2 : Rp α2) (r3 : Rp α3) (r4 : Rp α4) (pre : α1 → α2 → α3 → α4 → Prop) (rr : Rp ρ) (f : α1 → α2 → α3 → α4 → List ρ) : Sp := SpM (fun i : α1 × α2 × α3 × α4 => [.val r1 (i.1), .val r2 (i.2.1), .val r3 (i.2.2.1), .val r4 (i.2.2.2)]) (fun i => pre (i.1) (i.2.1) (i.2.2.1) (i.2.2.2)) rr (fun i => f (i.1) (i.2.1) (i.2.2.1) (i.2.2.2))
theorem c_callM4 (c : XC P w K mg base k N sc vs ls X) {α1 α2 α3 α4 : Type} {r1 : Rp α1} {r2 : Rp α2} {r3 : Rp α3} {r4 : Rp α4} {pre : α1 → α2 → α3 → α4 → Prop} {rr : Rp ρ} {f : α1 → α2 → α3 → α4 → List ρ} {e1 e2 e3 e4 : Expr} {x1 : α1} {x2 : α2} {x3 : α3} {x4 : α4} (h : FN P w K mg base CX0 j x ps (SpM4 r1 r2 r3 r4 pre rr f)) (h1 : DE X B Γ e1 r1 x1) (h2 : DE X B Γ e2 r2 x2) (h3 : DE X B Γ e3 r3 x3) (h4 : DE X B Γ e4 r4 x4) (hp : pre x1 x2 x3 x4) (hj : j ≤ k := by decide) (hg : glB sc x = true := by decide +kernel)
    (hdb : (x == ("__debug__" : Str)) = false := by decide) (s1 : starEach [e1, e2, e3, e4] X.env = (false, eval e1 X.env) :: starEach [e2, e3, e4] X.env := by rfl) (s2 : starEach [e2, e3, e4] X.env = (false, eval e2 X.env) :: starEach [e3, e4] X.env := by rfl) (s3 : starEach [e3, e4] X.env = (false, eval e3 X.env) :: starEach [e4] X.env := by rfl) (s4 : starEach [e4] X.env = (false, eval e4 X.env) :: starEach [] X.env := by rfl) (hpl : (backTo pos (starEach [e2, e3, e4] X.env)).any (·.1) = false := by rfl) :
    DM X B Γ (.Call (.Name x p) [e1, e2, e3, e4] [] pos) rr (f x1 x2 x3 x4) := c_callM c h (x1, x2, x3, x4) (da_cons h1 (da_cons h2 (da_cons h3 (da_cons h4 da_nil s4) s3) s2) s1) hp hj hg hdb s1 hpl
abbrev SpN4 {α1 α2 α3 α4 : Type} {ρ : Type} (r1 : Rp α1) (r2 : Rp α2) (r3 : Rp α3) (r4 : Rp α4) (pre : α1 → α2 → α3 → α4 → Prop) (rr : Rp ρ) (f : α1 → α2 → α3 → α4 → ρ) : Sp := SpN (fun i : α1 × α2 × α3 × α4 => [.val r1 (i.1), .val r2 (i.2.1), .val r3 (i.2.2.1), .val r4 (i.2.2.2)]) (fun i => pre (i.1) (i.2.1) (i.2.2.1) (i.2.2.2)) rr (fun i => f (i.1) (i.2.1) (i.2.2.1) (i.2.2.2))
theorem c_callN4 (c : XC P w K mg base k N sc vs ls X) {α1 α2 α3 α4 : Type} {r1 : Rp α1} {r2 : Rp α2} {r3 : Rp α3} {r4 : Rp α4} {pre : α1 → α2 → α3 → α4 → Prop} {rr : Rp ρ} {f : α1 → α2 → α3 → α4 → ρ} {e1 e2 e3 e4 : Expr} {x1 : α1} {x2 : α2} {x3 : α3} {x4 : α4} (h : FN P w K mg base CX0 j x ps (SpN4 r1 r2 r3 r4 pre rr f)) (h1 : DE X B Γ e1 r1 x1) (h2 : DE X B Γ e2 r2 x2) (h3 : DE X B Γ e3 r3 x3) (h4 : DE X B Γ e4 r4 x4) (hp : pre x1 x2 x3 x4) (hj : j ≤ k := by decide) (hg : glB sc x = true := by decide +kernel)
    (hdb : (x == ("__debug__" : Str)) = false := by decide) (s1 : starEach [e1, e2, e3, e4] X.env = (false, eval e1 X.env) :: starEach [e2, e3, e4] X.env := by rfl) (s2 : starEach [e2, e3, e4] X.env = (false, eval e2 X.env) :: starEach [e3, e4] X.env := by rfl) (s3 : starEach [e3, e4] X.env = (false, eval e3 X.env) :: starEach [e4] X.env := by rfl) (s4 : starEach [e4] X.env = (false, eval e4 X.env) :: starEach [] X.env := by rfl) (hpl : (backTo pos (starEach [e2, e3, e4] X.env)).any (·.1) = false := by rfl) :
    DN X B Γ (.Call (.Name x p) [e1, e2, e3, e4] [] pos) rr (f x1 x2 x3 x4) := c_callN c h (x1, x2, x3, x4) (da_cons h1 (da_cons h2 (da_cons h3 (da_cons h4 da_nil s4) s3) s2) s1) hp hj hg hdb s1 hpl
theorem fnF4 {α1 α2 α3 α4 : Type} {r1 : Rp α1} {r2 : Rp α2} {r3 : Rp α3} {r4 : Rp α4} {pre : α1 → α2 → α3 → α4 → Prop} {rr : Rp ρ} {f : α1 → α2 → α3 → α4 → ρ} (T : FT K mg x q st ps) (S : FnScope N ps (defScope st)) (hv : locB N (defScope st) vs = true) (Γu : Ctx) (hl : ps.length = 4 := by rfl) (hu : List.replicate (N.length - ps.length) .un = Γu := by rfl)
    (body : ∀ (X : Cx) (B : Bs) (D : Ends) (x1 : α1) (x2 : α2) (x3 : α3) (x4 : α4), XC P w K mg base k N (defScope st) vs vs X → pre x1 x2 x3 x4 → RtOk B rr (f x1 x2 x3 x4) D → (∀ σ H, D.nx σ H → D.rt .non H) → SD X B (.val r1 x1 :: .val r2 x2 :: .val r3 x3 :: .val r4 x4 :: Γu) (defBody st) { D with nx := fun _ H => D.rt .non H }) : FN P w K mg base CX0 (k + 1) x ps (SpF4 r1 r2 r3 r4 pre rr f) :=
  fnF (fun i => .val r1 (i.1) :: .val r2 (i.2.1) :: .val r3 (i.2.2.1) :: .val r4 (i.2.2.2) :: Γu) T S hv (fun _ => hl.symm) (fun i => by rw [hu]; rfl) (fun X B D i c hp hD hn => body X B D (i.1) (i.2.1) (i.2.2.1) (i.2.2.2) c hp hD hn)
theorem meF4 {α1 α2 α3 α4 : Type} {r1 : Rp α1} {r2 : Rp α2} {r3 : Rp α3} {r4 : Rp α4} {pre : α1 → α2 → α3 → α4 → Prop} {rr : Rp ρ} {f : α1 → α2 → α3 → α4 → ρ} (T : FTm K m q C st ps) (S : FnScope N ps (defScope st)) (hv : locB N (defScope st) vs = true) (Γu : Ctx) (hl : ps.length = 4 := by rfl) (hu : List.replicate (N.length - ps.length) .un = Γu := by rfl)
    (body : ∀ (X : Cx) (B : Bs) (D : Ends) (x1 : α1) (x2 : α2) (x3 : α3) (x4 : α4), XC P w K mg base k N (defScope st) vs vs X → pre x1 x2 x3 x4 → RtOk B rr (f x1 x2 x3 x4) D → (∀ σ H, D.nx σ H → D.rt .non H) → SD X B (.val r1 x1 :: .val r2 x2 :: .val r3 x3 :: .val r4 x4 :: Γu) (defBody st) { D with nx := fun _ H => D.rt .non H }) : FMe P w K mg base (k + 1) C m ps (SpF4 r1 r2 r3 r4 pre rr f) :=
  meF (fun i => .val r1 (i.1) :: .val r2 (i.2.1) :: .val r3 (i.2.2.1) :: .val r4 (i.2.2.2) :: Γu) T S hv (fun _ => hl.symm) (fun i => by rw [hu]; rfl) (fun X B D i c hp hD hn => body X B D (i.1) (i.2.1) (i.2.2.1) (i.2.2.2) c hp hD hn)
theorem fnM4 {α1 α2 α3 α4 : Type} {r1 : Rp α1} {r2 : Rp α2} {r3 : Rp α3} {r4 : Rp α4} {pre : α1 → α2 → α3 → α4 → Prop} {rr : Rp ρ} {f : α1 → α2 → α3 → α4 → List ρ} (T : FT K mg x q st ps) (S : FnScope N ps (defScope st)) (hv : locB N (defScope st) vs = true) (Γu : Ctx) (hl : ps.length = 4 := by rfl) (hu : List.replicate (N.length - ps.length) .un = Γu := by rfl)
    (body : ∀ (X : Cx) (B : Bs) (D : Ends) (x1 : α1) (x2 : α2) (x3 : α3) (x4 : α4), XC P w K mg base k N (defScope st) vs vs X → pre x1 x2 x3 x4 → RtM B rr (f x1 x2 x3 x4) D → SD X B (.val r1 x1 :: .val r2 x2 :: .val r3 x3 :: .val r4 x4 :: Γu) (defBody st) D) : FN P w K mg base CX0 (k + 1) x ps (SpM4 r1 r2 r3 r4 pre rr f) :=
  fnM (fun i => .val r1 (i.1) :: .val r2 (i.2.1) :: .val r3 (i.2.2.1) :: .val r4 (i.2.2.2) :: Γu) T S hv (fun _ => hl.symm) (fun i => by rw [hu]; rfl) (fun X B D i c hp hD => body X B D (i.1) (i.2.1) (i.2.2.1) (i.2.2.2) c hp hD)
theorem meM4 {α1 α2 α3 α4 : Type} {r1 : Rp α1} {r2 : Rp α2} {r3 : Rp α3} {r4 : Rp α4} {pre : α1 → α2 → α3 → α4 → Prop} {rr : Rp ρ} {f : α1 → α2 → α3 → α4 → List ρ} (T : FTm K m q C st ps) (S : FnScope N ps (defScope st)) (hv : locB N (defScope st) vs = true) (Γu : Ctx) (hl : ps.length = 4 := by rfl) (hu : List.replicate (N.length - ps.length) .un = Γu := by rfl)
    (body : ∀ (X : Cx) (B : Bs) (D : Ends) (x1 : α1) (x2 : α2) (x3 : α3) (x4 : α4), XC P w K mg base k N (defScope st) vs vs X → pre x1 x2 x3 x4 → RtM B rr (f x1 x2 x3 x4) D → SD X B (.val r1 x1 :: .val r2 x2 :: .val r3 x3 :: .val r4 x4 :: Γu) (defBody st) D) : FMe P w K mg base (k + 1) C m ps (SpM4 r1 r2 r3 r4 pre rr f) :=
  meM (fun i => .val r1 (i.1) :: .val r2 (i.2.1) :: .val r3 (i.2.2.1) :: .val r4 (i.2.2.2) :: Γu) T S hv (fun _ => hl.symm) (fun i => by rw [hu]; rfl) (fun X B D i c hp hD => body X B D (i.1) (i.2.1) (i.2.2.1) (i.2.2.2) c hp hD)
theorem fnN4 {α1 α2 α3 α4 : Type} {r1 : Rp α1} {r2 : Rp α2} {r3 : Rp α3} {r4 : Rp α4} {pre : α1 → α2 → α3 → α4 → Prop} {rr : Rp ρ} {f : α1 → α2 → α3 → α4 → ρ} (T : FT K mg x q st ps) (S : FnScope N ps (defScope st)) (hv : locB N (defScope st) vs = true) (Γu : Ctx) (hl : ps.length = 4 := by rfl) (hu : List.replicate (N.length - ps.length) .un = Γu := by rfl)
    (body : ∀ (X : Cx) (B : Bs) (D : Ends) (x1 : α1) (x2 : α2) (x3 : α3) (x4 : α4), XC P w K mg base k N (defScope st) vs vs X → pre x1 x2 x3 x4 → RtN B rr (f x1 x2 x3 x4) D → SD X B (.val r1 x1 :: .val r2 x2 :: .val r3 x3 :: .val r4 x4 :: Γu) (defBody st) D) : FN P w K mg base CX0 (k + 1) x ps (SpN4 r1 r2 r3 r4 pre rr f) :=
  fnN (fun i => .val r1 (i.1) :: .val r2 (i.2.1) :: .val r3 (i.2.2.1) :: .val r4 (i.2.2.2) :: Γu) T S hv (fun _ => hl.symm) (fun i => by rw [hu]; rfl) (fun X B D i c hp hD => body X B D (i.1) (i.2.1) (i.2.2.1) (i.2.2.2) c hp hD)
abbrev SpI4 {α1 α2 α3 α4 : Type} (C : Addr) (r1 : Rp α1) (r2 : Rp α2) (r3 : Rp α3) (r4 : Rp α4) (pre : α1 → α2 → α3 → α4 → Prop) (names : List Str) (fl : α1 → α2 → α3 → α4 → Ctx) : Sp := SpI C (fun i : α1 × α2 × α3 × α4 => [.val r1 (i.1), .val r2 (i.2.1), .val r3 (i.2.2.1), .val r4 (i.2.2.2)]) (fun i => pre (i.1) (i.2.1) (i.2.2.1) (i.2.2.2)) names (fun i => fl (i.1) (i.2.1) (i.2.2.1) (i.2.2.2))
theorem fnI4 {α1 α2 α3 α4 : Type} {r1 : Rp α1} {r2 : Rp α2} {r3 : Rp α3} {r4 : Rp α4} {pre : α1 → α2 → α3 → α4 → Prop} {names : List Str} {fl : α1 → α2 → α3 → α4 → Ctx} (T : FTk K mg x q C st ps) (S : FnScope N ps (defScope st)) (hv : locB N (defScope st) vs = true) (Γu : Ctx) (hl : ps.length = 5 := by rfl) (hu : List.replicate (N.length - ps.length) .un = Γu := by rfl)
    (body : ∀ (X : Cx) (B : Bs) (D : Ends) (x1 : α1) (x2 : α2) (x3 : α3) (x4 : α4) (xd : Addr × Addr), XC P w K mg base k N (defScope st) vs vs X → pre x1 x2 x3 x4 → (∀ σ H' Γ', EnvP B (.own (oObj C names (fl x1 x2 x3 x4)) xd :: Γ') σ H' → D.nx σ H') → SD X B (.own (oObj C [] []) xd :: .val r1 x1 :: .val r2 x2 :: .val r3 x3 :: .val r4 x4 :: Γu) (defBody st) D) : FMk P w K mg base (k + 1) x C ps (SpI4 C r1 r2 r3 r4 pre names fl) :=
  fnI (fun i xd => .own (oObj C [] []) xd :: .val r1 (i.1) :: .val r2 (i.2.1) :: .val r3 (i.2.2.1) :: .val r4 (i.2.2.2) :: Γu) T S hv (fun _ => hl.symm) (fun i xd => by rw [hu]; rfl) (fun X B D i xd c hp hD => body X B D (i.1) (i.2.1) (i.2.2.1) (i.2.2.2) xd c hp hD)
theorem c_make4 (c : XC P w K mg base k N sc vs ls X) {α1 α2 α3 α4 : Type} {r1 : Rp α1} {r2 : Rp α2} {r3 : Rp α3} {r4 : Rp α4} {pre : α1 → α2 → α3 → α4 → Prop} {names : List Str} {fl : α1 → α2 → α3 → α4 → Ctx} {cls : β → Addr} {flds : β → Ctx} {e1 e2 e3 e4 : Expr} {x1 : α1} {x2 : α2} {x3 : α3} {x4 : α4} (o : β) (h : FMk P w K mg base j x C ps (SpI4 C r1 r2 r3 r4 pre names fl)) (h1 : DE X B Γ e1 r1 x1) (h2 : DE X B Γ e2 r2 x2) (h3 : DE X B Γ e3 r3 x3) (h4 : DE X B Γ e4 r4 x4) (hp : pre x1 x2 x3 x4) (hC : cls o = C := by rfl) (hf : flds o = fl x1 x2 x3 x4 := by rfl) (hj : j + 1 ≤ k := by decide) (hg : glB sc x = true := by decide +kernel)
    (hdb : (x == ("__debug__" : Str)) = false := by decide) (s1 : starEach [e1, e2, e3, e4] X.env = (false, eval e1 X.env) :: starEach [e2, e3, e4] X.env := by rfl) (s2 : starEach [e2, e3, e4] X.env = (false, eval e2 X.env) :: starEach [e3, e4] X.env := by rfl) (s3 : starEach [e3, e4] X.env = (false, eval e3 X.env) :: starEach [e4] X.env := by rfl) (s4 : starEach [e4] X.env = (false, eval e4 X.env) :: starEach [] X.env := by rfl) (hpl : (backTo pos (starEach [e2, e3, e4] X.env)).any (·.1) = false := by rfl) :
    DE X B Γ (.Call (.Name x p) [e1, e2, e3, e4] [] pos) (rObj cls names flds) o := c_make c (x1, x2, x3, x4) h (da_cons h1 (da_cons h2 (da_cons h3 (da_cons h4 da_nil s4) s3) s2) s1) hp hC hf hj hg hdb s1 hpl
theorem c_methF4 (c : XC P w K mg base k N sc vs ls X) {pl : Sem Bool} {α1 α2 α3 α4 : Type} {cls : α1 → Addr} {names : List Str} {flds : α1 → Ctx} {r2 : Rp α2} {r3 : Rp α3} {r4 : Rp α4} {pre : α1 → α2 → α3 → α4 → Prop} {rr : Rp ρ} {f : α1 → α2 → α3 → α4 → ρ} {e1 e2 e3 e4 : Expr} {x1 : α1} {x2 : α2} {x3 : α3} {x4 : α4} (h : FMe P w K mg base j (cls x1) m ps (SpF4 (rObj cls names flds) r2 r3 r4 pre rr f)) (h1 : DE X B Γ e1 (rObj cls names flds) x1) (h2 : DE X B Γ e2 r2 x2) (h3 : DE X B Γ e3 r3 x3) (h4 : DE X B Γ e4 r4 x4) (hp : pre x1 x2 x3 x4) (hj : j ≤ k := by decide) (hnm : names.contains m = false := by decide +kernel)
    (s2 : starEach [e2, e3, e4] X.env = (false, eval e2 X.env) :: starEach [e3, e4] X.env := by rfl) (s3 : starEach [e3, e4] X.env = (false, eval e3 X.env) :: starEach [e4] X.env := by rfl) (s4 : starEach [e4] X.env = (false, eval e4 X.env) :: starEach [] X.env := by rfl) (hpl : (backTo pos (starEach [e3, e4] X.env)).any (·.1) = false := by rfl)
    (ht : eval (.Call (.Attribute e1 m apos) [e2, e3, e4] [] pos) X.env = (do
      let ov ← eval e1 X.env
      standAt apos.atName
      let (f, first) ← holding [ov] (getMethod ov m pl)
      callWith pos f first (backTo pos (starEach [e2, e3, e4] X.env)) (backToKw pos (keywordEach [] X.env))) := by rfl) : DE X B Γ (.Call (.Attribute e1 m apos) [e2, e3, e4] [] pos) rr (f x1 x2 x3 x4) := c_meth c (x1, x2, x3, x4) h h1 rfl (da_cons h2 (da_cons h3 (da_cons h4 da_nil s4) s3) s2) hp hj hnm s2 hpl ht
abbrev SpF5 {α1 α2 α3 α4 α5 : Type} {ρ : Type} (r1 : Rp α1) (r2 : Rp α2) (r3 : Rp α3) (r4 : Rp α4) (r5 : Rp α5) (pre : α1 → α2 → α3 → α4 → α5 → Prop) (rr : Rp ρ) (f : α1 → α2 → α3 → α4 → α5 → ρ) : Sp := SpF (fun i : α1 × α2 × α3 × α4 × α5 => [.val r1 (i.1), .val r2 (i.2.1), .val r3 (i.2.2.1), .val r4 (i.2.2.2.1), .val r5 (i.2.2.2.2)]) (fun i => pre (i.1) (i.2.1) (i.2.2.1) (i.2.2.2.1) (i.2.2.2.2)) rr (fun i => f (i.1) (i.2.1) (i.2.2.1) (i.2.2.2.1) (i.2.2.2.2))
theorem c_callF5 (c : XC P w K mg base k N sc vs ls X) {α1 α2 α3 α4 α5 : Type} {r1 : Rp α1} {r2 : Rp α2} {r3 : Rp α3} {r4 : Rp α4} {r5 : Rp α5} {pre : α1 → α2 → α3 → α4 → α5 → Prop} {rr : Rp ρ} {f : α1 → α2 → α3 → α4 → α5 → ρ} {e1 e2 e3 e4 e5 : Expr} {x1 : α1} {x2 : α2} {x3 : α3} {x4 : α4} {x5 : α5} (h : FN P w K mg base CX0 j x ps (SpF5 r1 r2 r3 r4 r5 pre rr f)) (h1 : DE X B Γ e1 r1 x1) (h2 : DE X B Γ e2 r2 x2) (h3 : DE X B Γ e3 r3 x3) (h4 : DE X B Γ e4 r4 x4) (h5 : DE X B Γ e5 r5 x5) (hp : pre x1 x2 x3 x4 x5) (hj : j ≤ k := by decide) (hg : glB sc x = true := by decide +kernel)
    (hdb : (x == ("__debug__" : Str)) = false := by decide) (s1 : starEach [e1, e2, e3, e4, e5] X.env = (false, eval e1 X.env) :: starEach [e2, e3, e4, e5] X.env := by rfl) (s2 : starEach [e2, e3, e4, e5] X.env = (false, eval e2 X.env) :: starEach [e3, e4, e5] X.env := by rfl) (s3 : starEach [e3, e4, e5] X.env = (false, eval e3 X.env) :: starEach [e4, e5] X.env := by rfl) (s4 : starEach [e4, e5] X.env = (false, eval e4 X.env) :: starEach [e5] X.env := by rfl) (s5 : starEach [e5] X.env = (false, eval e5 X.env) :: starEach [] X.env := by rfl) (hpl : (backTo pos (starEach [e2, e3, e4, e5] X.env)).any (·.1) = false := by rfl) :
    DE X B Γ (.Call (.Name x p) [e1, e2, e3, e4, e5] [] pos) rr (f x1 x2 x3 x4 x5) := c_call c h (x1, x2, x3, x4, x5) (da_cons h1 (da_cons h2 (da_cons h3 (da_cons h4 (da_cons h5 da_nil s5) s4) s3) s2) s1) hp hj hg hdb s1 hpl
abbrev SpM5 {α1 α2 α3 α4 α5 : Type} {ρ : Type} (r1 : Rp α1) (r2 : Rp α2) (r3 : Rp α3) (r4 : Rp α4) (r5 : Rp α5) (pre : α1 → α2 → α3 → α4 → α5 → Prop) (rr : Rp ρ) (f : α1 → α2 → α3 → α4 → α5 → List ρ) : Sp := SpM (fun i : α1 × α2 × α3 × α4 × α5 => [.val r1 (i.1), .val r2 (i.2.1), .val r3 (i.2.2.1), .val r4 (i.2.2.2.1), .val r5 (i.2.2.2.2)]) (fun i => pre (i.1) (i.2.1) (i.2.2.1) (i.2.2.2.1) (i.2.2.2.2)) rr (fun i => f (i.1) (i.2.1) (i.2.2.1) (i.2.2.2.1) (i.2.2.2.2))
theorem c_callM5 (c : XC P w K mg base k N sc vs ls X) {α1 α2 α3 α4 α5 : Type} {r1 : Rp α1} {r2 : Rp α2} {r3 : Rp α3} {r4 : Rp α4} {r5 : Rp α5} {pre : α1 → α2 → α3 → α4 → α5 → Prop} {rr : Rp ρ} {f : α1 → α2 → α3 → α4 → α5 → List ρ} {e1 e2 e3 e4 e5 : Expr} {x1 : α1} {x2 : α2} {x3 : α3} {x4 : α4} {x5 : α5} (h : FN P w K mg base CX0 j x ps (SpM5 r1 r2 r3 r4 r5 pre rr f)) (h1 : DE X B Γ e1 r1 x1) (h2 : DE X B Γ e2 r2 x2) (h3 : DE X B Γ e3 r3 x3) (h4 : DE X B Γ e4 r4 x4) (h5 : DE X B Γ e5 r5 x5) (hp : pre x1 x2 x3 x4 x5) (hj : j ≤ k := by decide) (hg : glB sc x = true := by decide +kernel)
    (hdb : (x == ("__debug__" : Str)) = false := by decide) (s1 : starEach [e1, e2, e3, e4, e5] X.env = (false, eval e1 X.env) :: starEach [e2, e3, e4, e5] X.env := by rfl) (s2 : starEach [e2, e3, e4, e5] X.env = (false, eval e2 X.env) :: starEach [e3, e4, e5] X.env := by rfl) (s3 : starEach [e3, e4, e5] X.env = (false, eval e3 X.env) :: starEach [e4, e5] X.env := by rfl) (s4 : starEach [e4, e5] X.env = (false, eval e4 X.env) :: starEach [e5] X.env := by rfl) (s5 : starEach [e5] X.env = (false, eval e5 X.env) :: starEach [] X.env := by rfl) (hpl : (backTo pos (starEach [e2, e3, e4, e5] X.env)).any (·.1) = false := by rfl) :
    DM X B Γ (.Call (.Name x p) [e1, e2, e3, e4, e5] [] pos) rr (f x1 x2 x3 x4 x5) := c_callM c h (x1, x2, x3, x4, x5) (da_cons h1 (da_cons h2 (da_cons h3 (da_cons h4 (da_cons h5 da_nil s5) s4) s3) s2) s1) hp hj hg hdb s1 hpl
abbrev SpN5 {α1 α2 α3 α4 α5 : Type} {ρ : Type} (r1 : Rp α1) (r2 : Rp α2) (r3 : Rp α3) (r4 : Rp α4) (r5 : Rp α5) (pre : α1 → α2 → α3 → α4 → α5 → Prop) (rr : Rp ρ) (f : α1 → α2 → α3 → α4 → α5 → ρ) : Sp := SpN (fun i : α1 × α2 × α3 × α4 × α5 => [.val r1 (i.1), .val r2 (i.2.1), .val r3 (i.2.2.1), .val r4 (i.2.2.2.1), .val r5 (i.2.2.2.2)]) (fun i => pre (i.1) (i.2.1) (i.2.2.1) (i.2.2.2.1) (i.2.2.2.2)) rr (fun i => f (i.1) (i.2.1) (i.2.2.1) (i.2.2.2.1) (i.2.2.2.2))
theorem c_callN5 (c : XC P w K mg base k N sc vs ls X) {α1 α2 α3 α4 α5 : Type} {r1 : Rp α1} {r2 : Rp α2} {r3 : Rp α3} {r4 : Rp α4} {r5 : Rp α5} {pre : α1 → α2 → α3 → α4 → α5 → Prop} {rr : Rp ρ} {f : α1 → α2 → α3 → α4 → α5 → ρ} {e1 e2 e3 e4 e5 : Expr} {x1 : α1} {x2 : α2} {x3 : α3} {x4 : α4} {x5 : α5} (h : FN P w K mg base CX0 j x ps (SpN5 r1 r2 r3 r4 r5 pre rr f)) (h1 : DE X B Γ e1 r1 x1) (h2 : DE X B Γ e2 r2 x2) (h3 : DE X B Γ e3 r3 x3) (h4 : DE X B Γ e4 r4 x4) (h5 : DE X B Γ e5 r5 x5) (hp : pre x1 x2 x3 x4 x5) (hj : j ≤ k := by decide) (hg : glB sc x = true := by decide +kernel)
    (hdb : (x == ("__debug__" : Str)) = false := by decide) (s1 : starEach [e1, e2, e3, e4, e5] X.env = (false, eval e1 X.env) :: starEach [e2, e3, e4, e5] X.env := by rfl) (s2 : starEach [e2, e3, e4, e5] X.env = (false, eval e2 X.env) :: starEach [e3, e4, e5] X.env := by rfl) (s3 : starEach [e3, e4, e5] X.env = (false, eval e3 X.env) :: starEach [e4, e5] X.env := by rfl) (s4 : starEach [e4, e5] X.env = (false, eval e4 X.env) :: starEach [e5] X.env := by rfl) (s5 : starEach [e5] X.env = (false, eval e5 X.env) :: starEach [] X.env := by rfl) (hpl : (backTo pos (starEach [e2, e3, e4, e5] X.env)).any (·.1) = false := by rfl) :
    DN X B Γ (.Call (.Name x p) [e1, e2, e3, e4, e5] [] pos) rr (f x1 x2 x3 x4 x5) := c_callN c h (x1, x2, x3, x4, x5) (da_cons h1 (da_cons h2 (da_cons h3 (da_cons h4 (da_cons h5 da_nil s5) s4) s3) s2) s1) hp hj hg hdb s1 hpl
theorem fnF5 {α1 α2 α3 α4 α5 : Type} {r1 : Rp α1} {r2 : Rp α2} {r3 : Rp α3} {r4 : Rp α4} {r5 : Rp α5} {pre : α1 → α2 → α3 → α4 → α5 → Prop} {rr : Rp ρ} {f : α1 → α2 → α3 → α4 → α5 → ρ} (T : FT K mg x q st ps) (S : FnScope N ps (defScope st)) (hv : locB N (defScope st) vs = true) (Γu : Ctx) (hl : ps.length = 5 := by rfl) (hu : List.replicate (N.length - ps.length) .un = Γu := by rfl)
    (body : ∀ (X : Cx) (B : Bs) (D : Ends) (x1 : α1) (x2 : α2) (x3 : α3) (x4 : α4) (x5 : α5), XC P w K mg base k N (defScope st) vs vs X → pre x1 x2 x3 x4 x5 → RtOk B rr (f x1 x2 x3 x4 x5) D → (∀ σ H, D.nx σ H → D.rt .non H) → SD X B (.val r1 x1 :: .val r2 x2 :: .val r3 x3 :: .val r4 x4 :: .val r5 x5 :: Γu) (defBody st) { D with nx := fun _ H => D.rt .non H }) : FN P w K mg base CX0 (k + 1) x ps (SpF5 r1 r2 r3 r4 r5 pre rr f) :=
  fnF (fun i => .val r1 (i.1) :: .val r2 (i.2.1) :: .val r3 (i.2.2.1) :: .val r4 (i.2.2.2.1) :: .val r5 (i.2.2.2.2) :: Γu) T S hv (fun _ => hl.symm) (fun i => by rw [hu]; rfl) (fun X B D i c hp hD hn => body X B D (i.1) (i.2.1) (i.2.2.1) (i.2.2.2.1) (i.2.2.2.2) c hp hD hn)
theorem meF5 {α1 α2 α3 α4 α5 : Type} {r1 : Rp α1} {r2 : Rp α2} {r3 : Rp α3} {r4 : Rp α4} {r5 : Rp α5} {pre : α1 → α2 → α3 → α4 → α5 → Prop} {rr : Rp ρ} {f : α1 → α2 → α3 → α4 → α5 → ρ} (T : FTm K m q C st ps) (S : FnScope N ps (defScope st)) (hv : locB N (defScope st) vs = true) (Γu : Ctx) (hl : ps.length = 5 := by rfl) (hu : List.replicate (N.length - ps.length) .un = Γu := by rfl)
    (body : ∀ (X : Cx) (B : Bs) (D : Ends) (x1 : α1) (x2 : α2) (x3 : α3) (x4 : α4) (x5 : α5), XC P w K mg base k N (defScope st) vs vs X → pre x1 x2 x3 x4 x5 → RtOk B rr (f x1 x2 x3 x4 x5) D → (∀ σ H, D.nx σ H → D.rt .non H) → SD X B (.val r1 x1 :: .val r2 x2 :: .val r3 x3 :: .val r4 x4 :: .val r5 x5 :: Γu) (defBody st) { D with nx := fun _ H => D.rt .non H }) : FMe P w K mg base (k + 1) C m ps (SpF5 r1 r2 r3 r4 r5 pre rr f) :=
  meF (fun i => .val r1 (i.1) :: .val r2 (i.2.1) :: .val r3 (i.2.2.1) :: .val r4 (i.2.2.2.1) :: .val r5 (i.2.2.2.2) :: Γu) T S hv (fun _ => hl.symm) (fun i => by rw [hu]; rfl) (fun X B D i c hp hD hn => body X B D (i.1) (i.2.1) (i.2.2.1) (i.2.2.2.1) (i.2.2.2.2) c hp hD hn)
theorem fnM5 {α1 α2 α3 α4 α5 : Type} {r1 : Rp α1} {r2 : Rp α2} {r3 : Rp α3} {r4 : Rp α4} {r5 : Rp α5} {pre : α1 → α2 → α3 → α4 → α5 → Prop} {rr : Rp ρ} {f : α1 → α2 → α3 → α4 → α5 → List ρ} (T : FT K mg x q st ps) (S : FnScope N ps (defScope st)) (hv : locB N (defScope st) vs = true) (Γu : Ctx) (hl : ps.length = 5 := by rfl) (hu : List.replicate (N.length - ps.length) .un = Γu := by rfl)
    (body : ∀ (X : Cx) (B : Bs) (D : Ends) (x1 : α1) (x2 : α2) (x3 : α3) (x4 : α4) (x5 : α5), XC P w K mg base k N (defScope st) vs vs X → pre x1 x2 x3 x4 x5 → RtM B rr (f x1 x2 x3 x4 x5) D → SD X B (.val r1 x1 :: .val r2 x2 :: .val r3 x3 :: .val r4 x4 :: .val r5 x5 :: Γu) (defBody st) D) : FN P w K mg base CX0 (k + 1) x ps (SpM5 r1 r2 r3 r4 r5 pre rr f) :=
  fnM (fun i => .val r1 (i.1) :: .val r2 (i.2.1) :: .val r3 (i.2.2.1) :: .val r4 (i.2.2.2.1) :: .val r5 (i.2.2.2.2) :: Γu) T S hv (fun _ => hl.symm) (fun i => by rw [hu]; rfl) (fun X B D i c hp hD => body X B D (i.1) (i.2.1) (i.2.2.1) (i.2.2.2.1) (i.2.2.2.2) c hp hD)
theorem meM5 {α1 α2 α3 α4 α5 : Type} {r1 : Rp α1} {r2 : Rp α2} {r3 : Rp α3} {r4 : Rp α4} {r5 : Rp α5} {pre : α1 → α2 → α3 → α4 → α5 → Prop} {rr : Rp ρ} {f : α1 → α2 → α3 → α4 → α5 → List ρ} (T : FTm K m q C st ps) (S : FnScope N ps (defScope st)) (hv : locB N (defScope st) vs = true) (Γu : Ctx) (hl : ps.length = 5 := by rfl) (hu : List.replicate (N.length - ps.length) .un = Γu := by rfl)
    (body : ∀ (X : Cx) (B : Bs) (D : Ends) (x1 : α1) (x2 : α2) (x3 : α3) (x4 : α4) (x5 : α5), XC P w K mg base k N (defScope st) vs vs X → pre x1 x2 x3 x4 x5 → RtM B rr (f x1 x2 x3 x4 x5) D → SD X B (.val r1 x1 :: .val r2 x2 :: .val r3 x3 :: .val r4 x4 :: .val r5 x5 :: Γu) (defBody st) D) : FMe P w K mg base (k + 1) C m ps (SpM5 r1 r2 r3 r4 r5 pre rr f) :=
  meM (fun i => .val r1 (i.1) :: .val r2 (i.2.1) :: .val r3 (i.2.2.1) :: .val r4 (i.2.2.2.1) :: .val r5 (i.2.2.2.2) :: Γu) T S hv (fun _ => hl.symm) (fun i => by rw [hu]; rfl) (fun X B D i c hp hD => body X B D (i.1) (i.2.1) (i.2.2.1) (i.2.2.2.1) (i.2.2.2.2) c hp hD)
theorem fnN5 {α1 α2 α3 α4 α5 : Type} {r1 : Rp α1} {r2 : Rp α2} {r3 : Rp α3} {r4 : Rp α4} {r5 : Rp α5} {pre : α1 → α2 → α3 → α4 → α5 → Prop} {rr : Rp ρ} {f : α1 → α2 → α3 → α4 → α5 → ρ} (T : FT K mg x q st ps) (S : FnScope N ps (defScope st)) (hv : locB N (defScope st) vs = true) (Γu : Ctx) (hl : ps.length = 5 := by rfl) (hu : List.replicate (N.length - ps.length) .un = Γu := by rfl)
    (body : ∀ (X : Cx) (B : Bs) (D : Ends) (x1 : α1) (x2 : α2) (x3 : α3) (x4 : α4) (x5 : α5), XC P w K mg base k N (defScope st) vs vs X → pre x1 x2 x3 x4 x5 → RtN B rr (f x1 x2 x3 x4 x5) D → SD X B (.val r1 x1 :: .val r2 x2 :: .val r3 x3 :: .val r4 x4 :: .val r5 x5 :: Γu) (defBody st) D) : FN P w K mg base CX0 (k + 1) x ps (SpN5 r1 r2 r3 r4 r5 pre rr f) :=
  fnN (fun i => .val r1 (i.1) :: .val r2 (i.2.1) :: .val r3 (i.2.2.1) :: .val r4 (i.2.2.2.1) :: .val r5 (i.2.2.2.2) :: Γu) T S hv (fun _ => hl.symm) (fun i => by rw [hu]; rfl) (fun X B D i c hp hD => body X B D (i.1) (i.2.1) (i.2.2.1) (i.2.2.2.1) (i.2.2.2.2) c hp hD)
abbrev SpI5 {α1 α2 α3 α4 α5 : Type} (C : Addr) (r1 : Rp α1) (r2 : Rp α2) (r3 : Rp α3) (r4 : Rp α4) (r5 : Rp α5) (pre : α1 → α2 → α3 → α4 → α5 → Prop) (names : List Str) (fl : α1 → α2 → α3 → α4 → α5 → Ctx) : Sp := SpI C (fun i : α1 × α2 × α3 × α4 × α5 => [.val r1 (i.1), .val r2 (i.2.1), .val r3 (i.2.2.1), .val r4 (i.2.2.2.1), .val r5 (i.2.2.2.2)]) (fun i => pre (i.1) (i.2.1) (i.2.2.1) (i.2.2.2.1) (i.2.2.2.2)) names (fun i => fl (i.1) (i.2.1) (i.2.2.1) (i.2.2.2.1) (i.2.2.2.2))
theorem fnI5 {α1 α2 α3 α4 α5 : Type} {r1 : Rp α1} {r2 : Rp α2} {r3 : Rp α3} {r4 : Rp α4} {r5 : Rp α5} {pre : α1 → α2 → α3 → α4 → α5 → Prop} {names : List Str} {fl : α1 → α2 → α3 → α4 → α5 → Ctx} (T : FTk K mg x q C st ps) (S : FnScope N ps (defScope st)) (hv : locB N (defScope st) vs = true) (Γu : Ctx) (hl : ps.length = 6 := by rfl) (hu : List.replicate (N.length - ps.length) .un = Γu := by rfl)
    (body : ∀ (X : Cx) (B : Bs) (D : Ends) (x1 : α1) (x2 : α2) (x3 : α3) (x4 : α4) (x5 : α5) (xd : Addr × Addr), XC P w K mg base k N (defScope st) vs vs X → pre x1 x2 x3 x4 x5 → (∀ σ H' Γ', EnvP B (.own (oObj C names (fl x1 x2 x3 x4 x5)) xd :: Γ') σ H' → D.nx σ H') → SD X B (.own (oObj C [] []) xd :: .val r1 x1 :: .val r2 x2 :: .val r3 x3 :: .val r4 x4 :: .val r5 x5 :: Γu) (defBody st) D) : FMk P w K mg base (k + 1) x C ps (SpI5 C r1 r2 r3 r4 r5 pre names fl) :=
  fnI (fun i xd => .own (oObj C [] []) xd :: .val r1 (i.1) :: .val r2 (i.2.1) :: .val r3 (i.2.2.1) :: .val r4 (i.2.2.2.1) :: .val r5 (i.2.2.2.2) :: Γu) T S hv (fun _ => hl.symm) (fun i xd => by rw [hu]; rfl) (fun X B D i xd c hp hD => body X B D (i.1) (i.2.1) (i.2.2.1) (i.2.2.2.1) (i.2.2.2.2) xd c hp hD)
theorem c_make5 (c : XC P w K mg base k N sc vs ls X) {α1 α2 α3 α4 α5 : Type} {r1 : Rp α1} {r2 : Rp α2} {r3 : Rp α3} {r4 : Rp α4} {r5 : Rp α5} {pre : α1 → α2 → α3 → α4 → α5 → Prop} {names : List Str} {fl : α1 → α2 → α3 → α4 → α5 → Ctx} {cls : β → Addr} {flds : β → Ctx} {e1 e2 e3 e4 e5 : Expr} {x1 : α1} {x2 : α2} {x3 : α3} {x4 : α4} {x5 : α5} (o : β) (h : FMk P w K mg base j x C ps (SpI5 C r1 r2 r3 r4 r5 pre names fl)) (h1 : DE X B Γ e1 r1 x1) (h2 : DE X B Γ e2 r2 x2) (h3 : DE X B Γ e3 r3 x3) (h4 : DE X B Γ e4 r4 x4) (h5 : DE X B Γ e5 r5 x5) (hp : pre x1 x2 x3 x4 x5) (hC : cls o = C := by rfl) (hf : flds o = fl x1 x2 x3 x4 x5 := by rfl) (hj : j + 1 ≤ k := by decide) (hg : glB sc x = true := by decide +kernel)
    (hdb : (x == ("__debug__" : Str)) = false := by decide) (s1 : starEach [e1, e2, e3, e4, e5] X.env = (false, eval e1 X.env) :: starEach [e2, e3, e4, e5] X.env := by rfl) (s2 : starEach [e2, e3, e4, e5] X.env = (false, eval e2 X.env) :: starEach [e3, e4, e5] X.env := by rfl) (s3 : starEach [e3, e4, e5] X.env = (false, eval e3 X.env) :: starEach [e4, e5] X.env := by rfl) (s4 : starEach [e4, e5] X.env = (false, eval e4 X.env) :: starEach [e5] X.env := by rfl) (s5 : starEach [e5] X.env = (false, eval e5 X.env) :: starEach [] X.env := by rfl) (hpl : (backTo pos (starEach [e2, e3, e4, e5] X.env)).any (·.1) = false := by rfl) :
    DE X B Γ (.Call (.Name x p) [e1, e2, e3, e4, e5] [] pos) (rObj cls names flds) o := c_make c (x1, x2, x3, x4, x5) h (da_cons h1 (da_cons h2 (da_cons h3 (da_cons h4 (da_cons h5 da_nil s5) s4) s3) s2) s1) hp hC hf hj hg hdb s1 hpl
theorem c_methF5 (c : XC P w K mg base k N sc vs ls X) {pl : Sem Bool} {α1 α2 α3 α4 α5 : Type} {cls : α1 → Addr} {names : List Str} {flds : α1 → Ctx} {r2 : Rp α2} {r3 : Rp α3} {r4 : Rp α4} {r5 : Rp α5} {pre : α1 → α2 → α3 → α4 → α5 → Prop} {rr : Rp ρ} {f : α1 → α2 → α3 → α4 → α5 → ρ} {e1 e2 e3 e4 e5 : Expr} {x1 : α1} {x2 : α2} {x3 : α3} {x4 : α4} {x5 : α5} (h : FMe P w K mg base j (cls x1) m ps (SpF5 (rObj cls names flds) r2 r3 r4 r5 pre rr f)) (h1 : DE X B Γ e1 (rObj cls names flds) x1) (h2 : DE X B Γ e2 r2 x2) (h3 : DE X B Γ e3 r3 x3) (h4 : DE X B Γ e4 r4 x4) (h5 : DE X B Γ e5 r5 x5) (hp : pre x1 x2 x3 x4 x5) (hj : j ≤ k := by decide) (hnm : names.contains m = false := by decide +kernel)
    (s2 : starEach [e2, e3, e4, e5] X.env = (false, eval e2 X.env) :: starEach [e3, e4, e5] X.env := by rfl) (s3 : starEach [e3, e4, e5] X.env = (false, eval e3 X.env) :: starEach [e4, e5] X.env := by rfl) (s4 : starEach [e4, e5] X.env = (false, eval e4 X.env) :: starEach [e5] X.env := by rfl) (s5 : starEach [e5] X.env = (false, eval e5 X.env) :: starEach [] X.env := by rfl) (hpl : (backTo pos (starEach [e3, e4, e5] X.env)).any (·.1) = false := by rfl)
    (ht : eval (.Call (.Attribute e1 m apos) [e2, e3, e4, e5] [] pos) X.env = (do
      let ov ← eval e1 X.env
      standAt apos.atName
      let (f, first) ← holding [ov] (getMethod ov m pl)
      callWith pos f first (backTo pos (starEach [e2, e3, e4, e5] X.env)) (backToKw pos (keywordEach [] X.env))) := by rfl) : DE X B Γ (.Call (.Attribute e1 m apos) [e2, e3, e4, e5] [] pos) rr (f x1 x2 x3 x4 x5) := c_meth c (x1, x2, x3, x4, x5) h h1 rfl (da_cons h2 (da_cons h3 (da_cons h4 (da_cons h5 da_nil s5) s4) s3) s2) hp hj hnm s2 hpl ht
abbrev SpF6 {α1 α2 α3 α4 α5 α6 : Type} {ρ : Type} (r1 : Rp α1) (r2 : Rp α2) (r3 : Rp α3) (r4 : Rp α4) (r5 : Rp α5) (r6 : Rp α6) (pre : α1 → α2 → α3 → α4 → α5 → α6 → Prop) (rr : Rp ρ) (f : α1 → α2 → α3 → α4 → α5 → α6 → ρ) : Sp := SpF (fun i : α1 × α2 × α3 × α4 × α5 × α6 => [.val r1 (i.1), .val r2 (i.2.1), .val r3 (i.2.2.1), .val r4 (i.2.2.2.1), .val r5 (i.2.2.2.2.1), .val r6 (i.2.2.2.2.2)]) (fun i => pre (i.1) (i.2.1) (i.2.2.1) (i.2.2.2.1) (i.2.2.2.2.1) (i.2.2.2.2.2)) rr (fun i => f (i.1) (i.2.1) (i.2.2.1) (i.2.2.2.1) (i.2.2.2.2.1) (i.2.2.2.2.2))
theorem c_callF6 (c : XC P w K mg base k N sc vs ls X) {α1 α2 α3 α4 α5 α6 : Type} {r1 : Rp α1} {r2 : Rp α2} {r3 : Rp α3} {r4 : Rp α4} {r5 : Rp α5} {r6 : Rp α6} {pre : α1 → α2 → α3 → α4 → α5 → α6 → Prop} {rr : Rp ρ} {f : α1 → α2 → α3 → α4 → α5 → α6 → ρ} {e1 e2 e3 e4 e5 e6 : Expr} {x1 : α1} {x2 : α2} {x3 : α3} {x4 : α4} {x5 : α5} {x6 : α6} (h : FN P w K mg base CX0 j x ps (SpF6 r1 r2 r3 r4 r5 r6 pre rr f)) (h1 : DE X B Γ e1 r1 x1) (h2 : DE X B Γ e2 r2 x2) (h3 : DE X B Γ e3 r3 x3) (h4 : DE X B Γ e4 r4 x4) (h5 : DE X B Γ e5 r5 x5) (h6 : DE X B Γ e6 r6 x6) (hp : pre x1 x2 x3 x4 x5 x6) (hj : j ≤ k := by decide) (hg : glB sc x = true := by decide +kernel)
    (hdb : (x == ("__debug__" : Str)) = false := by decide) (s1 : starEach [e1, e2, e3, e4, e5, e6] X.env = (false, eval e1 X.env) :: starEach [e2, e3, e4, e5, e6] X.env := by rfl) (s2 : starEach [e2, e3, e4, e5, e6] X.env = (false, eval e2 X.env) :: starEach [e3, e4, e5, e6] X.env := by rfl) (s3 : starEach [e3, e4, e5, e6] X.env = (false, eval e3 X.env) :: starEach [e4, e5, e6] X.env := by rfl) (s4 : starEach [e4, e5, e6] X.env = (false, eval e4 X.env) :: starEach [e5, e6] X.env := by rfl) (s5 : starEach [e5, e6] X.env = (false, eval e5 X.env) :: starEach [e6] X.env := by rfl) (s6 : starEach [e6] X.env = (false, eval e6 X.env) :: starEach [] X.env := by rfl) (hpl : (backTo pos (starEach [e2, e3, e4, e5, e6] X.env)).any (·.1) = false := by rfl) :
    DE X B Γ (.Call (.Name x p) [e1, e2, e3, e4, e5, e6] [] pos) rr (f x1 x2 x3 x4 x5 x6) := c_call c h (x1, x2, x3, x4, x5, x6) (da_cons h1 (da_cons h2 (da_cons h3 (da_cons h4 (da_cons h5 (da_cons h6 da_nil s6) s5) s4) s3) s2) s1) hp hj hg hdb s1 hpl
abbrev SpM6 {α1 α2 α3 α4 α5 α6 : Type} {ρ : Type} (r1 : Rp α1) (r2 : Rp α2) (r3 : Rp α3) (r4 : Rp α4) (r5 : Rp α5) (r6 : Rp α6) (pre : α1 → α2 → α3 → α4 → α5 → α6 → Prop) (rr : Rp ρ) (f : α1 → α2 → α3 → α4 → α5 → α6 → List ρ) : Sp := SpM (fun i : α1 × α2 × α3 × α4 × α5 × α6 => [.val r1 (i.1), .val r2 (i.2.1), .val r3 (i.2.2.1), .val r4 (i.2.2.2.1), .val r5 (i.2.2.2.2.1), .val r6 (i.2.2.2.2.2)]) (fun i => pre (i.1) (i.2.1) (i.2.2.1) (i.2.2.2.1) (i.2.2.2.2.1) (i.2.2.2.2.2)) rr (fun i => f (i.1) (i.2.1) (i.2.2.1) (i.2.2.2.1) (i.2.2.2.2.1) (i.2.2.2.2.2))
theorem c_callM6 (c : XC P w K mg base k N sc vs ls X) {α1 α2 α3 α4 α5 α6 : Type} {r1 : Rp α1} {r2 : Rp α2} {r3 : Rp α3} {r4 : Rp α4} {r5 : Rp α5} {r6 : Rp α6} {pre : α1 → α2 → α3 → α4 → α5 → α6 → Prop} {rr : Rp ρ} {f : α1 → α2 → α3 → α4 → α5 → α6 → List ρ} {e1 e2 e3 e4 e5 e6 : Expr} {x1 : α1} {x2 : α2} {x3 : α3} {x4 : α4} {x5 : α5} {x6 : α6} (h : FN P w K mg base CX0 j x ps (SpM6 r1 r2 r3 r4 r5 r6 pre rr f)) (h1 : DE X B Γ e1 r1 x1) (h2 : DE X B Γ e2 r2 x2) (h3 : DE X B Γ e3 r3 x3) (h4 : DE X B Γ e4 r4 x4) (h5 : DE X B Γ e5 r5 x5) (h6 : DE X B Γ e6 r6 x6) (hp : pre x1 x2 x3 x4 x5 x6) (hj : j ≤ k := by decide) (hg : glB sc x = true := by decide +kernel)
    (hdb : (x == ("__debug__" : Str)) = false := by decide) (s1 : starEach [e1, e2, e3, e4, e5, e6] X.env = (false, eval e1 X.env) :: starEach [e2, e3, e4, e5, e6] X.env := by rfl) (s2 : starEach [e2, e3, e4, e5, e6] X.env = (false, eval e2 X.env) :: starEach [e3, e4, e5, e6] X.env := by rfl) (s3 : starEach [e3, e4, e5, e6] X.env = (false, eval e3 X.env) :: starEach [e4, e5, e6] X.env := by rfl) (s4 : starEach [e4, e5, e6] X.env = (false, eval e4 X.env) :: starEach [e5, e6] X.env := by rfl) (s5 : starEach [e5, e6] X.env = (false, eval e5 X.env) :: starEach [e6] X.env := by rfl) (s6 : starEach [e6] X.env = (false, eval e6 X.env) :: starEach [] X.env := by rfl) (hpl : (backTo pos (starEach [e2, e3, e4, e5, e6] X.env)).any (·.1) = false := by rfl) :
    DM X B Γ (.Call (.Name x p) [e1, e2, e3, e4, e5, e6] [] pos) rr (f x1 x2 x3 x4 x5 x6) := c_callM c h (x1, x2, x3, x4, x5, x6) (da_cons h1 (da_cons h2 (da_cons h3 (da_cons h4 (da_cons h5 (da_cons h6 da_nil s6) s5) s4) s3) s2) s1) hp hj hg hdb s1 hpl
abbrev SpN6 {α1 α2 α3 α4 α5 α6 : Type} {ρ : Type} (r1 : Rp α1) (r2 : Rp α2) (r3 : Rp α3) (r4 : Rp α4) (r5 : Rp α5) (r6 : Rp α6) (pre : α1 → α2 → α3 → α4 → α5 → α6 → Prop) (rr : Rp ρ) (f : α1 → α2 → α3 → α4 → α5 → α6 → ρ) : Sp := SpN (fun i : α1 × α2 × α3 × α4 × α5 × α6 => [.val r1 (i.1), .val r2 (i.2.1), .val r3 (i.2.2.1), .val r4 (i.2.2.2.1), .val r5 (i.2.2.2.2.1), .val r6 (i.2.2.2.2.2)]) (fun i => pre (i.1) (i.2.1) (i.2.2.1) (i.2.2.2.1) (i.2.2.2.2.1) (i.2.2.2.2.2)) rr (fun i => f (i.1) (i.2.1) (i.2.2.1) (i.2.2.2.1) (i.2.2.2.2.1) (i.2.2.2.2.2))
theorem c_callN6 (c : XC P w K mg base k N sc vs ls X) {α1 α2 α3 α4 α5 α6 : Type} {r1 : Rp α1} {r2 : Rp α2} {r3 : Rp α3} {r4 : Rp α4} {r5 : Rp α5} {r6 : Rp α6} {pre : α1 → α2 → α3 → α4 → α5 → α6 → Prop} {rr : Rp ρ} {f : α1 → α2 → α3 → α4 → α5 → α6 → ρ} {e1 e2 e3 e4 e5 e6 : Expr} {x1 : α1} {x2 : α2} {x3 : α3} {x4 : α4} {x5 : α5} {x6 : α6} (h : FN P w K mg base CX0 j x ps (SpN6 r1 r2 r3 r4 r5 r6 pre rr f)) (h1 : DE X B Γ e1 r1 x1) (h2 : DE X B Γ e2 r2 x2) (h3 : DE X B Γ e3 r3 x3) (h4 : DE X B Γ e4 r4 x4) (h5 : DE X B Γ e5 r5 x5) (h6 : DE X B Γ e6 r6 x6) (hp : pre x1 x2 x3 x4 x5 x6) (hj : j ≤ k := by decide) (hg : glB sc x = true := by decide +kernel)
    (hdb : (x == ("__debug__" : Str)) = false := by decide) (s1 : starEach [e1, e2, e3, e4, e5, e6] X.env = (false, eval e1 X.env) :: starEach [e2, e3, e4, e5, e6] X.env := by rfl) (s2 : starEach [e2, e3, e4, e5, e6] X.env = (false, eval e2 X.env) :: starEach [e3, e4, e5, e6] X.env := by rfl) (s3 : starEach [e3, e4, e5, e6] X.env = (false, eval e3 X.env) :: starEach [e4, e5, e6] X.env := by rfl) (s4 : starEach [e4, e5, e6] X.env = (false, eval e4 X.env) :: starEach [e5, e6] X.env := by rfl) (s5 : starEach [e5, e6] X.env = (false, eval e5 X.env) :: starEach [e6] X.env := by rfl) (s6 : starEach [e6] X.env = (false, eval e6 X.env) :: starEach [] X.env := by rfl) (hpl : (backTo pos (starEach [e2, e3, e4, e5, e6] X.env)).any (·.1) = false := by rfl) :
    DN X B Γ (.Call (.Name x p) [e1, e2, e3, e4, e5, e6] [] pos) rr (f x1 x2 x3 x4 x5 x6) := c_callN c h (x1, x2, x3, x4, x5, x6) (da_cons h1 (da_cons h2 (da_cons h3 (da_cons h4 (da_cons h5 (da_cons h6 da_nil s6) s5) s4) s3) s2) s1) hp hj hg hdb s1 hpl
theorem fnF6 {α1 α2 α3 α4 α5 α6 : Type} {r1 : Rp α1} {r2 : Rp α2} {r3 : Rp α3} {r4 : Rp α4} {r5 : Rp α5} {r6 : Rp α6} {pre : α1 → α2 → α3 → α4 → α5 → α6 → Prop} {rr : Rp ρ} {f : α1 → α2 → α3 → α4 → α5 → α6 → ρ} (T : FT K mg x q st ps) (S : FnScope N ps (defScope st)) (hv : locB N (defScope st) vs = true) (Γu : Ctx) (hl : ps.length = 6 := by rfl) (hu : List.replicate (N.length - ps.length) .un = Γu := by rfl)
    (body : ∀ (X : Cx) (B : Bs) (D : Ends) (x1 : α1) (x2 : α2) (x3 : α3) (x4 : α4) (x5 : α5) (x6 : α6), XC P w K mg base k N (defScope st) vs vs X → pre x1 x2 x3 x4 x5 x6 → RtOk B rr (f x1 x2 x3 x4 x5 x6) D → (∀ σ H, D.nx σ H → D.rt .non H) → SD X B (.val r1 x1 :: .val r2 x2 :: .val r3 x3 :: .val r4 x4 :: .val r5 x5 :: .val r6 x6 :: Γu) (defBody st) { D with nx := fun _ H => D.rt .non H }) : FN P w K mg base CX0 (k + 1) x ps (SpF6 r1 r2 r3 r4 r5 r6 pre rr f) :=
  fnF (fun i => .val r1 (i.1) :: .val r2 (i.2.1) :: .val r3 (i.2.2.1) :: .val r4 (i.2.2.2.1) :: .val r5 (i.2.2.2.2.1) :: .val r6 (i.2.2.2.2.2) :: Γu) T S hv (fun _ => hl.symm) (fun i => by rw [hu]; rfl) (fun X B D i c hp hD hn => body X B D (i.1) (i.2.1) (i.2.2.1) (i.2.2.2.1) (i.2.2.2.2.1) (i.2.2.2.2.2) c hp hD hn)
theorem meF6 {α1 α2 α3 α4 α5 α6 : Type} {r1 : Rp α1} {r2 : Rp α2} {r3 : Rp α3} {r4 : Rp α4} {r5 : Rp α5} {r6 : Rp α6} {pre : α1 → α2 → α3 → α4 → α5 → α6 → Prop} {rr : Rp ρ} {f : α1 → α2 → α3 → α4 → α5 → α6 → ρ} (T : FTm K m q C st ps) (S : FnScope N ps (defScope st)) (hv : locB N (defScope st) vs = true) (Γu : Ctx) (hl : ps.length = 6 := by rfl) (hu : List.replicate (N.length - ps.length) .un = Γu := by rfl)
    (body : ∀ (X : Cx) (B : Bs) (D : Ends) (x1 : α1) (x2 : α2) (x3 : α3) (x4 : α4) (x5 : α5) (x6 : α6), XC P w K mg base k N (defScope st) vs vs X → pre x1 x2 x3 x4 x5 x6 → RtOk B rr (f x1 x2 x3 x4 x5 x6) D → (∀ σ H, D.nx σ H → D.rt .non H) → SD X B (.val r1 x1 :: .val r2 x2 :: .val r3 x3 :: .val r4 x4 :: .val r5 x5 :: .val r6 x6 :: Γu) (defBody st) { D with nx := fun _ H => D.rt .non H }) : FMe P w K mg base (k + 1) C m ps (SpF6 r1 r2 r3 r4 r5 r6 pre rr f) :=
  meF (fun i => .val r1 (i.1) :: .val r2 (i.2.1) :: .val r3 (i.2.2.1) :: .val r4 (i.2.2.2.1) :: .val r5 (i.2.2.2.2.1) :: .val r6 (i.2.2.2.2.2) :: Γu) T S hv (fun _ => hl.symm) (fun i => by rw [hu]; rfl) (fun X B D i c hp hD hn => body X B D (i.1) (i.2.1) (i.2.2.1) (i.2.2.2.1) (i.2.2.2.2.1) (i.2.2.2.2.2) c hp hD hn)
theorem fnM6 {α1 α2 α3 α4 α5 α6 : Type} {r1 : Rp α1} {r2 : Rp α2} {r3 : Rp α3} {r4 : Rp α4} {r5 : Rp α5} {r6 : Rp α6} {pre : α1 → α2 → α3 → α4 → α5 → α6 → Prop} {rr : Rp ρ} {f : α1 → α2 → α3 → α4 → α5 → α6 → List ρ} (T : FT K mg x q st ps) (S : FnScope N ps (defScope st)) (hv : locB N (defScope st) vs = true) (Γu : Ctx) (hl : ps.length = 6 := by rfl) (hu : List.replicate (N.length - ps.length) .un = Γu := by rfl)
    (body : ∀ (X : Cx) (B : Bs) (D : Ends) (x1 : α1) (x2 : α2) (x3 : α3) (x4 : α4) (x5 : α5) (x6 : α6), XC P w K mg base k N (defScope st) vs vs X → pre x1 x2 x3 x4 x5 x6 → RtM B rr (f x1 x2 x3 x4 x5 x6) D → SD X B (.val r1 x1 :: .val r2 x2 :: .val r3 x3 :: .val r4 x4 :: .val r5 x5 :: .val r6 x6 :: Γu) (defBody st) D) : FN P w K mg base CX0 (k + 1) x ps (SpM6 r1 r2 r3 r4 r5 r6 pre rr f) :=
  fnM (fun i => .val r1 (i.1) :: .val r2 (i.2.1) :: .val r3 (i.2.2.1) :: .val r4 (i.2.2.2.1) :: .val r5 (i.2.2.2.2.1) :: .val r6 (i.2.2.2.2.2) :: Γu) T S hv (fun _ => hl.symm) (fun i => by rw [hu]; rfl) (fun X B D i c hp hD => body X B D (i.1) (i.2.1) (i.2.2.1) (i.2.2.2.1) (i.2.2.2.2.1) (i.2.2.2.2.2) c hp hD)
theorem meM6 {α1 α2 α3 α4 α5 α6 : Type} {r1 : Rp α1} {r2 : Rp α2} {r3 : Rp α3} {r4 : Rp α4} {r5 : Rp α5} {r6 : Rp α6} {pre : α1 → α2 → α3 → α4 → α5 → α6 → Prop} {rr : Rp ρ} {f : α1 → α2 → α3 → α4 → α5 → α6 → List ρ} (T : FTm K m q C st ps) (S : FnScope N ps (defScope st)) (hv : locB N (defScope st) vs = true) (Γu : Ctx) (hl : ps.length = 6 := by rfl) (hu : List.replicate (N.length - ps.length) .un = Γu := by rfl)
    (body : ∀ (X : Cx) (B : Bs) (D : Ends) (x1 : α1) (x2 : α2) (x3 : α3) (x4 : α4) (x5 : α5) (x6 : α6), XC P w K mg base k N (defScope st) vs vs X → pre x1 x2 x3 x4 x5 x6 → RtM B rr (f x1 x2 x3 x4 x5 x6) D → SD X B (.val r1 x1 :: .val r2 x2 :: .val r3 x3 :: .val r4 x4 :: .val r5 x5 :: .val r6 x6 :: Γu) (defBody st) D) : FMe P w K mg base (k + 1) C m ps (SpM6 r1 r2 r3 r4 r5 r6 pre rr f) :=
  meM (fun i => .val r1 (i.1) :: .val r2 (i.2.1) :: .val r3 (i.2.2.1) :: .val r4 (i.2.2.2.1) :: .val r5 (i.2.2.2.2.1) :: .val r6 (i.2.2.2.2.2) :: Γu) T S hv (fun _ => hl.symm) (fun i => by rw [hu]; rfl) (fun X B D i c hp hD => body X B D (i.1) (i.2.1) (i.2.2.1) (i.2.2.2.1) (i.2.2.2.2.1) (i.2.2.2.2.2) c hp hD)
theorem fnN6 {α1 α2 α3 α4 α5 α6 : Type} {r1 : Rp α1} {r2 : Rp α2} {r3 : Rp α3} {r4 : Rp α4} {r5 : Rp α5} {r6 : Rp α6} {pre : α1 → α2 → α3 → α4 → α5 → α6 → Prop} {rr : Rp ρ} {f : α1 → α2 → α3 → α4 → α5 → α6 → ρ} (T : FT K mg x q st ps) (S : FnScope N ps (defScope st)) (hv : locB N (defScope st) vs = true) (Γu : Ctx) (hl : ps.length = 6 := by rfl) (hu : List.replicate (N.length - ps.length) .un = Γu := by rfl)
    (body : ∀ (X : Cx) (B : Bs) (D : Ends) (x1 : α1) (x2 : α2) (x3 : α3) (x4 : α4) (x5 : α5) (x6 : α6), XC P w K mg base k N (defScope st) vs vs X → pre x1 x2 x3 x4 x5 x6 → RtN B rr (f x1 x2 x3 x4 x5 x6) D → SD X B (.val r1 x1 :: .val r2 x2 :: .val r3 x3 :: .val r4 x4 :: .val r5 x5 :: .val r6 x6 :: Γu) (defBody st) D) : FN P w K mg base CX0 (k + 1) x ps (SpN6 r1 r2 r3 r4 r5 r6 pre rr f) :=
  fnN (fun i => .val r1 (i.1) :: .val r2 (i.2.1) :: .val r3 (i.2.2.1) :: .val r4 (i.2.2.2.1) :: .val r5 (i.2.2.2.2.1) :: .val r6 (i.2.2.2.2.2) :: Γu) T S hv (fun _ => hl.symm) (fun i => by rw [hu]; rfl) (fun X B D i c hp hD => body X B D (i.1) (i.2.1) (i.2.2.1) (i.2.2.2.1) (i.2.2.2.2.1) (i.2.2.2.2.2) c hp hD)
abbrev SpI6 {α1 α2 α3 α4 α5 α6 : Type} (C : Addr) (r1 : Rp α1) (r2 : Rp α2) (r3 : Rp α3) (r4 : Rp α4) (r5 : Rp α5) (r6 : Rp α6) (pre : α1 → α2 → α3 → α4 → α5 → α6 → Prop) (names : List Str) (fl : α1 → α2 → α3 → α4 → α5 → α6 → Ctx) : Sp := SpI C (fun i : α1 × α2 × α3 × α4 × α5 × α6 => [.val r1 (i.1), .val r2 (i.2.1), .val r3 (i.2.2.1), .val r4 (i.2.2.2.1), .val r5 (i.2.2.2.2.1), .val r6 (i.2.2.2.2.2)]) (fun i => pre (i.1) (i.2.1) (i.2.2.1) (i.2.2.2.1) (i.2.2.2.2.1) (i.2.2.2.2.2)) names (fun i => fl (i.1) (i.2.1) (i.2.2.1) (i.2.2.2.1) (i.2.2.2.2.1) (i.2.2.2.2.2))
theorem fnI6 {α1 α2 α3 α4 α5 α6 : Type} {r1 : Rp α1} {r2 : Rp α2} {r3 : Rp α3} {r4 : Rp α4} {r5 : Rp α5} {r6 : Rp α6} {pre : α1 → α2 → α3 → α4 → α5 → α6 → Prop} {names : List Str} {fl : α1 → α2 → α3 → α4 → α5 → α6 → Ctx} (T : FTk K mg x q C st ps) (S : FnScope N ps (defScope st)) (hv : locB N (defScope st) vs = true) (Γu : Ctx) (hl : ps.length = 7 := by rfl) (hu : List.replicate (N.length - ps.length) .un = Γu := by rfl)
    (body : ∀ (X : Cx) (B : Bs) (D : Ends) (x1 : α1) (x2 : α2) (x3 : α3) (x4 : α4) (x5 : α5) (x6 : α6) (xd : Addr × Addr), XC P w K mg base k N (defScope st) vs vs X → pre x1 x2 x3 x4 x5 x6 → (∀ σ H' Γ', EnvP B (.own (oObj C names (fl x1 x2 x3 x4 x5 x6)) xd :: Γ') σ H' → D.nx σ H') → SD X B (.own (oObj C [] []) xd :: .val r1 x1 :: .val r2 x2 :: .val r3 x3 :: .val r4 x4 :: .val r5 x5 :: .val r6 x6 :: Γu) (defBody st) D) : FMk P w K mg base (k + 1) x C ps (SpI6 C r1 r2 r3 r4 r5 r6 pre names fl) :=
  fnI (fun i xd => .own (oObj C [] []) xd :: .val r1 (i.1) :: .val r2 (i.2.1) :: .val r3 (i.2.2.1) :: .val r4 (i.2.2.2.1) :: .val r5 (i.2.2.2.2.1) :: .val r6 (i.2.2.2.2.2) :: Γu) T S hv (fun _ => hl.symm) (fun i xd => by rw [hu]; rfl) (fun X B D i xd c hp hD => body X B D (i.1) (i.2.1) (i.2.2.1) (i.2.2.2.1) (i.2.2.2.2.1) (i.2.2.2.2.2) xd c hp hD)
theorem c_make6 (c : XC P w K mg base k N sc vs ls X) {α1 α2 α3 α4 α5 α6 : Type} {r1 : Rp α1} {r2 : Rp α2} {r3 : Rp α3} {r4 : Rp α4} {r5 : Rp α5} {r6 : Rp α6} {pre : α1 → α2 → α3 → α4 → α5 → α6 → Prop} {names : List Str} {fl : α1 → α2 → α3 → α4 → α5 → α6 → Ctx} {cls : β → Addr} {flds : β → Ctx} {e1 e2 e3 e4 e5 e6 : Expr} {x1 : α1} {x2 : α2} {x3 : α3} {x4 : α4} {x5 : α5} {x6 : α6} (o : β) (h : FMk P w K mg base j x C ps (SpI6 C r1 r2 r3 r4 r5 r6 pre names fl)) (h1 : DE X B Γ e1 r1 x1) (h2 : DE X B Γ e2 r2 x2) (h3 : DE X B Γ e3 r3 x3) (h4 : DE X B Γ e4 r4 x4) (h5 : DE X B Γ e5 r5 x5) (h6 : DE X B Γ e6 r6 x6) (hp : pre x1 x2 x3 x4 x5 x6) (hC : cls o = C := by rfl) (hf : flds o = fl x1 x2 x3 x4 x5 x6 := by rfl) (hj : j + 1 ≤ k := by decide) (hg : glB sc x = true := by decide +kernel)
    (hdb : (x == ("__debug__" : Str)) = false := by decide) (s1 : starEach [e1, e2, e3, e4, e5, e6] X.env = (false, eval e1 X.env) :: starEach [e2, e3, e4, e5, e6] X.env := by rfl) (s2 : starEach [e2, e3, e4, e5, e6] X.env = (false, eval e2 X.env) :: starEach [e3, e4, e5, e6] X.env := by rfl) (s3 : starEach [e3, e4, e5, e6] X.env = (false, eval e3 X.env) :: starEach [e4, e5, e6] X.env := by rfl) (s4 : starEach [e4, e5, e6] X.env = (false, eval e4 X.env) :: starEach [e5, e6] X.env := by rfl) (s5 : starEach [e5, e6] X.env = (false, eval e5 X.env) :: starEach [e6] X.env := by rfl) (s6 : starEach [e6] X.env = (false, eval e6 X.env) :: starEach [] X.env := by rfl) (hpl : (backTo pos (starEach [e2, e3, e4, e5, e6] X.env)).any (·.1) = false := by rfl) :
    DE X B Γ (.Call (.Name x p) [e1, e2, e3, e4, e5, e6] [] pos) (rObj cls names flds) o := c_make c (x1, x2, x3, x4, x5, x6) h (da_cons h1 (da_cons h2 (da_cons h3 (da_cons h4 (da_cons h5 (da_cons h6 da_nil s6) s5) s4) s3) s2) s1) hp hC hf hj hg hdb s1 hpl
theorem c_methF6 (c : XC P w K mg base k N sc vs ls X) {pl : Sem Bool} {α1 α2 α3 α4 α5 α6 : Type} {cls : α1 → Addr} {names : List Str} {flds : α1 → Ctx} {r2 : Rp α2} {r3 : Rp α3} {r4 : Rp α4} {r5 : Rp α5} {r6 : Rp α6} {pre : α1 → α2 → α3 → α4 → α5 → α6 → Prop} {rr : Rp ρ} {f : α1 → α2 → α3 → α4 → α5 → α6 → ρ} {e1 e2 e3 e4 e5 e6 : Expr} {x1 : α1} {x2 : α2} {x3 : α3} {x4 : α4} {x5 : α5} {x6 : α6} (h : FMe P w K mg base j (cls x1) m ps (SpF6 (rObj cls names flds) r2 r3 r4 r5 r6 pre rr f)) (h1 : DE X B Γ e1 (rObj cls names flds) x1) (h2 : DE X B Γ e2 r2 x2) (h3 : DE X B Γ e3 r3 x3) (h4 : DE X B Γ e4 r4 x4) (h5 : DE X B Γ e5 r5 x5) (h6 : DE X B Γ e6 r6 x6) (hp : pre x1 x2 x3 x4 x5 x6) (hj : j ≤ k := by decide) (hnm : names.contains m = false := by decide +kernel)
    (s2 : starEach [e2, e3, e4, e5, e6] X.env = (false, eval e2 X.env) :: starEach [e3, e4, e5, e6] X.env := by rfl) (s3 : starEach [e3, e4, e5, e6] X.env = (false, eval e3 X.env) :: starEach [e4, e5, e6] X.env := by rfl) (s4 : starEach [e4, e5, e6] X.env = (false, eval e4 X.env) :: starEach [e5, e6] X.env := by rfl) (s5 : starEach [e5, e6] X.env = (false, eval e5 X.env) :: starEach [e6] X.env := by rfl) (s6 : starEach [e6] X.env = (false, eval e6 X.env) :: starEach [] X.env := by rfl) (hpl : (backTo pos (starEach [e3, e4, e5, e6] X.env)).any (·.1) = false := by rfl)
    (ht : eval (.Call (.Attribute e1 m apos) [e2, e3, e4, e5, e6] [] pos) X.env = (do
      let ov ← eval e1 X.env
      standAt apos.atName
      let (f, first) ← holding [ov] (getMethod ov m pl)
      callWith pos f first (backTo pos (starEach [e2, e3, e4, e5, e6] X.env)) (backToKw pos (keywordEach [] X.env))) := by rfl) : DE X B Γ (.Call (.Attribute e1 m apos) [e2, e3, e4, e5, e6] [] pos) rr (f x1 x2 x3 x4 x5 x6) := c_meth c (x1, x2, x3, x4, x5, x6) h h1 rfl (da_cons h2 (da_cons h3 (da_cons h4 (da_cons h5 (da_cons h6 da_nil s6) s5) s4) s3) s2) hp hj hnm s2 hpl ht
abbrev SpF7 {α1 α2 α3 α4 α5 α6 α7 : Type} {ρ : Type} (r1 : Rp α1) (r2 : Rp α2) (r3 : Rp α3) (r4 : Rp α4) (r5 : Rp α5) (r6 : Rp α6) (r7 : Rp α7) (pre : α1 → α2 → α3 → α4 → α5 → α6 → α7 → Prop) (rr : Rp ρ) (f : α1 → α2 → α3 → α4 → α5 → α6 → α7 → ρ) : Sp := SpF (fun i : α1 × α2 × α3 × α4 × α5 × α6 × α7 => [.val r1 (i.1), .val r2 (i.2.1), .val r3 (i.2.2.1), .val r4 (i.2.2.2.1), .val r5 (i.2.2.2.2.1), .val r6 (i.2.2.2.2.2.1), .val r7 (i.2.2.2.2.2.2)]) (fun i => pre (i.1) (i.2.1) (i.2.2.1) (i.2.2.2.1) (i.2.2.2.2.1) (i.2.2.2.2.2.1) (i.2.2.2.2.2.2)) rr (fun i => f (i.1) (i.2.1) (i.2.2.1) (i.2.2.2.1) (i.2.2.2.2.1) (i.2.2.2.2.2.1) (i.2.2.2.2.2.2))
theorem c_callF7 (c : XC P w K mg base k N sc vs ls X) {α1 α2 α3 α4 α5 α6 α7 : Type} {r1 : Rp α1} {r2 : Rp α2} {r3 : Rp α3} {r4 : Rp α4} {r5 : Rp α5} {r6 : Rp α6} {r7 : Rp α7} {pre : α1 → α2 → α3 → α4 → α5 → α6 → α7 → Prop} {rr : Rp ρ} {f : α1 → α2 → α3 → α4 → α5 → α6 → α7 → ρ} {e1 e2 e3 e4 e5 e6 e7 : Expr} {x1 : α1} {x2 : α2} {x3 : α3} {x4 : α4} {x5 : α5} {x6 : α6} {x7 : α7} (h : FN P w K mg base CX0 j x ps (SpF7 r1 r2 r3 r4 r5 r6 r7 pre rr f)) (h1 : DE X B Γ e1 r1 x1) (h2 : DE X B Γ e2 r2 x2) (h3 : DE X B Γ e3 r3 x3) (h4 : DE X B Γ e4 r4 x4) (h5 : DE X B Γ e5 r5 x5) (h6 : DE X B Γ e6 r6 x6) (h7 : DE X B Γ e7 r7 x7) (hp : pre x1 x2 x3 x4 x5 x6 x7) (hj : j ≤ k := by decide) (hg : glB sc x = true := by decide +kernel)
    (hdb : (x == ("__debug__" : Str)) = false := by decide) (s1 : starEach [e1, e2, e3, e4, e5, e6, e7] X.env = (false, eval e1 X.env) :: starEach [e2, e3, e4, e5, e6, e7] X.env := by rfl) (s2 : starEach [e2, e3, e4, e5, e6, e7] X.env = (false, eval e2 X.env) :: starEach [e3, e4, e5, e6, e7] X.env := by rfl) (s3 : starEach [e3, e4, e5, e6, e7] X.env = (false, eval e3 X.env) :: starEach [e4, e5, e6, e7] X.env := by rfl) (s4 : starEach [e4, e5, e6, e7] X.env = (false, eval e4 X.env) :: starEach [e5, e6, e7] X.env := by rfl) (s5 : starEach [e5, e6, e7] X.env = (false, eval e5 X.env) :: starEach [e6, e7] X.env := by rfl) (s6 : starEach [e6, e7] X.env = (false, eval e6 X.env) :: starEach [e7] X.env := by rfl) (s7 : starEach [e7] X.env = (false, eval e7 X.env) :: starEach [] X.env := by rfl) (hpl : (backTo pos (starEach [e2, e3, e4, e5, e6, e7] X.env)).any (·.1) = false := by rfl) :
    DE X B Γ (.Call (.Name x p) [e1, e2, e3, e4, e5, e6, e7] [] pos) rr (f x1 x2 x3 x4 x5 x6 x7) := c_call c h (x1, x2, x3, x4, x5, x6, x7) (da_cons h1 (da_cons h2 (da_cons h3 (da_cons h4 (da_cons h5 (da_cons h6 (da_cons h7 da_nil s7) s6) s5) s4) s3) s2) s1) hp hj hg hdb s1 hpl
abbrev SpM7 {α1 α2 α3 α4 α5 α6 α7 : Type} {ρ : Type} (r1 : Rp α1) (r2 : Rp α2) (r3 : Rp α3) (r4 : Rp α4) (r5 : Rp α5) (r6 : Rp α6) (r7 : Rp α7) (pre : α1 → α2 → α3 → α4 → α5 → α6 → α7 → Prop) (rr : Rp ρ) (f : α1 → α2 → α3 → α4 → α5 → α6 → α7 → List ρ) : Sp := SpM (fun i : α1 × α2 × α3 × α4 × α5 × α6 × α7 => [.val r1 (i.1), .val r2 (i.2.1), .val r3 (i.2.2.1), .val r4 (i.2.2.2.1), .val r5 (i.2.2.2.2.1), .val r6 (i.2.2.2.2.2.1), .val r7 (i.2.2.2.2.2.2)]) (fun i => pre (i.1) (i.2.1) (i.2.2.1) (i.2.2.2.1) (i.2.2.2.2.1) (i.2.2.2.2.2.1) (i.2.2.2.2.2.2)) rr (fun i => f (i.1) (i.2.1) (i.2.2.1) (i.2.2.2.1) (i.2.2.2.2.1) (i.2.2.2.2.2.1) (i.2.2.2.2.2.2))
theorem c_callM7 (c : XC P w K mg base k N sc vs ls X) {α1 α2 α3 α4 α5 α6 α7 : Type} {r1 : Rp α1} {r2 : Rp α2} {r3 : Rp α3} {r4 : Rp α4} {r5 : Rp α5} {r6 : Rp α6} {r7 : Rp α7} {pre : α1 → α2 → α3 → α4 → α5 → α6 → α7 → Prop} {rr : Rp ρ} {f : α1 → α2 → α3 → α4 → α5 → α6 → α7 → List ρ} {e1 e2 e3 e4 e5 e6 e7 : Expr} {x1 : α1} {x2 : α2} {x3 : α3} {x4 : α4} {x5 : α5} {x6 : α6} {x7 : α7} (h : FN P w K mg base CX0 j x ps (SpM7 r1 r2 r3 r4 r5 r6 r7 pre rr f)) (h1 : DE X B Γ e1 r1 x1) (h2 : DE X B Γ e2 r2 x2) (h3 : DE X B Γ e3 r3 x3) (h4 : DE X B Γ e4 r4 x4) (h5 : DE X B Γ e5 r5 x5) (h6 : DE X B Γ e6 r6 x6) (h7 : DE X B Γ e7 r7 x7) (hp : pre x1 x2 x3 x4 x5 x6 x7) (hj : j ≤ k := by decide) (hg : glB sc x = true := by decide +kernel)
    (hdb : (x == ("__debug__" : Str)) = false := by decide) (s1 : starEach [e1, e2, e3, e4, e5, e6, e7] X.env = (false, eval e1 X.env) :: starEach [e2, e3, e4, e5, e6, e7] X.env := by rfl) (s2 : starEach [e2, e3, e4, e5, e6, e7] X.env = (false, eval e2 X.env) :: starEach [e3, e4, e5, e6, e7] X.env := by rfl) (s3 : starEach [e3, e4, e5, e6, e7] X.env = (false, eval e3 X.env) :: starEach [e4, e5, e6, e7] X.env := by rfl) (s4 : starEach [e4, e5, e6, e7] X.env = (false, eval e4 X.env) :: starEach [e5, e6, e7] X.env := by rfl) (s5 : starEach [e5, e6, e7] X.env = (false, eval e5 X.env) :: starEach [e6, e7] X.env := by rfl) (s6 : starEach [e6, e7] X.env = (false, eval e6 X.env) :: starEach [e7] X.env := by rfl) (s7 : starEach [e7] X.env = (false, eval e7 X.env) :: starEach [] X.env := by rfl) (hpl : (backTo pos (starEach [e2, e3, e4, e5, e6, e7] X.env)).any (·.1) = false := by rfl) :
    DM X B Γ (.Call (.Name x p) [e1, e2, e3, e4, e5, e6, e7] [] pos) rr (f x1 x2 x3 x4 x5 x6 x7) := c_callM c h (x1, x2, x3, x4, x5, x6, x7) (da_cons h1 (da_cons h2 (da_cons h3 (da_cons h4 (da_cons h5 (da_cons h6 (da_cons h7 da_nil s7) s6) s5) s4) s3) s2) s1) hp hj hg hdb s1 hpl
abbrev SpN7 {α1 α2 α3 α4 α5 α6 α7 : Type} {ρ : Type} (r1 : Rp α1) (r2 : Rp α2) (r3 : Rp α3) (r4 : Rp α4) (r5 : Rp α5) (r6 : Rp α6) (r7 : Rp α7) (pre : α1 → α2 → α3 → α4 → α5 → α6 → α7 → Prop) (rr : Rp ρ) (f : α1 → α2 → α3 → α4 → α5 → α6 → α7 → ρ) : Sp := SpN (fun i : α1 × α2 × α3 × α4 × α5 × α6 × α7 => [.val r1 (i.1), .val r2 (i.2.1), .val r3 (i.2.2.1), .val r4 (i.2.2.2.1), .val r5 (i.2.2.2.2.1), .val r6 (i.2.2.2.2.2.1), .val r7 (i.2.2.2.2.2.2)]) (fun i => pre (i.1) (i.2.1) (i.2.2.1) (i.2.2.2.1) (i.2.2.2.2.1) (i.2.2.2.2.2.1) (i.2.2.2.2.2.2)) rr (fun i => f (i.1) (i.2.1) (i.2.2.1) (i.2.2.2.1) (i.2.2.2.2.1) (i.2.2.2.2.2.1) (i.2.2.2.2.2.2))
theorem c_callN7 (c : XC P w K mg base k N sc vs ls X) {α1 α2 α3 α4 α5 α6 α7 : Type} {r1 : Rp α1} {r2 : Rp α2} {r3 : Rp α3} {r4 : Rp α4} {r5 : Rp α5} {r6 : Rp α6} {r7 : Rp α7} {pre : α1 → α2 → α3 → α4 → α5 → α6 → α7 → Prop} {rr : Rp ρ} {f : α1 → α2 → α3 → α4 → α5 → α6 → α7 → ρ} {e1 e2 e3 e4 e5 e6 e7 : Expr} {x1 : α1} {x2 : α2} {x3 : α3} {x4 : α4} {x5 : α5} {x6 : α6} {x7 : α7} (h : FN P w K mg base CX0 j x ps (SpN7 r1 r2 r3 r4 r5 r6 r7 pre rr f)) (h1 : DE X B Γ e1 r1 x1) (h2 : DE X B Γ e2 r2 x2) (h3 : DE X B Γ e3 r3 x3) (h4 : DE X B Γ e4 r4 x4) (h5 : DE X B Γ e5 r5 x5) (h6 : DE X B Γ e6 r6 x6) (h7 : DE X B Γ e7 r7 x7) (hp : pre x1 x2 x3 x4 x5 x6 x7) (hj : j ≤ k := by decide) (hg : glB sc x = true := by decide +kernel)
    (hdb : (x == ("__debug__" : Str)) = false := by decide) (s1 : starEach [e1, e2, e3, e4, e5, e6, e7] X.env = (false, eval e1 X.env) :: starEach [e2, e3, e4, e5, e6, e7] X.env := by rfl) (s2 : starEach [e2, e3, e4, e5, e6, e7] X.env = (false, eval e2 X.env) :: starEach [e3, e4, e5, e6, e7] X.env := by rfl) (s3 : starEach [e3, e4, e5, e6, e7] X.env = (false, eval e3 X.env) :: starEach [e4, e5, e6, e7] X.env := by rfl) (s4 : starEach [e4, e5, e6, e7] X.env = (false, eval e4 X.env) :: starEach [e5, e6, e7] X.env := by rfl) (s5 : starEach [e5, e6, e7] X.env = (false, eval e5 X.env) :: starEach [e6, e7] X.env := by rfl) (s6 : starEach [e6, e7] X.env = (false, eval e6 X.env) :: starEach [e7] X.env := by rfl) (s7 : starEach [e7] X.env = (false, eval e7 X.env) :: starEach [] X.env := by rfl) (hpl : (backTo pos (starEach [e2, e3, e4, e5, e6, e7] X.env)).any (·.1) = false := by rfl) :
    DN X B Γ (.Call (.Name x p) [e1, e2, e3, e4, e5, e6, e7] [] pos) rr (f x1 x2 x3 x4 x5 x6 x7) := c_callN c h (x1, x2, x3, x4, x5, x6, x7) (da_cons h1 (da_cons h2 (da_cons h3 (da_cons h4 (da_cons h5 (da_cons h6 (da_cons h7 da_nil s7) s6) s5) s4) s3) s2) s1) hp hj hg hdb s1 hpl
theorem fnF7 {α1 α2 α3 α4 α5 α6 α7 : Type} {r1 : Rp α1} {r2 : Rp α2} {r3 : Rp α3} {r4 : Rp α4} {r5 : Rp α5} {r6 : Rp α6} {r7 : Rp α7} {pre : α1 → α2 → α3 → α4 → α5 → α6 → α7 → Prop} {rr : Rp ρ} {f : α1 → α2 → α3 → α4 → α5 → α6 → α7 → ρ} (T : FT K mg x q st ps) (S : FnScope N ps (defScope st)) (hv : locB N (defScope st) vs = true) (Γu : Ctx) (hl : ps.length = 7 := by rfl) (hu : List.replicate (N.length - ps.length) .un = Γu := by rfl)
    (body : ∀ (X : Cx) (B : Bs) (D : Ends) (x1 : α1) (x2 : α2) (x3 : α3) (x4 : α4) (x5 : α5) (x6 : α6) (x7 : α7), XC P w K mg base k N (defScope st) vs vs X → pre x1 x2 x3 x4 x5 x6 x7 → RtOk B rr (f x1 x2 x3 x4 x5 x6 x7) D → (∀ σ H, D.nx σ H → D.rt .non H) → SD X B (.val r1 x1 :: .val r2 x2 :: .val r3 x3 :: .val r4 x4 :: .val r5 x5 :: .val r6 x6 :: .val r7 x7 :: Γu) (defBody st) { D with nx := fun _ H => D.rt .non H }) : FN P w K mg base CX0 (k + 1) x ps (SpF7 r1 r2 r3 r4 r5 r6 r7 pre rr f) :=
  fnF (fun i => .val r1 (i.1) :: .val r2 (i.2.1) :: .val r3 (i.2.2.1) :: .val r4 (i.2.2.2.1) :: .val r5 (i.2.2.2.2.1) :: .val r6 (i.2.2.2.2.2.1) :: .val r7 (i.2.2.2.2.2.2) :: Γu) T S hv (fun _ => hl.symm) (fun i => by rw [hu]; rfl) (fun X B D i c hp hD hn => body X B D (i.1) (i.2.1) (i.2.2.1) (i.2.2.2.1) (i.2.2.2.2.1) (i.2.2.2.2.2.1) (i.2.2.2.2.2.2) c hp hD hn)
theorem meF7 {α1 α2 α3 α4 α5 α6 α7 : Type} {r1 : Rp α1} {r2 : Rp α2} {r3 : Rp α3} {r4 : Rp α4} {r5 : Rp α5} {r6 : Rp α6} {r7 : Rp α7} {pre : α1 → α2 → α3 → α4 → α5 → α6 → α7 → Prop} {rr : Rp ρ} {f : α1 → α2 → α3 → α4 → α5 → α6 → α7 → ρ} (T : FTm K m q C st ps) (S : FnScope N ps (defScope st)) (hv : locB N (defScope st) vs = true) (Γu : Ctx) (hl : ps.length = 7 := by rfl) (hu : List.replicate (N.length - ps.length) .un = Γu := by rfl)
    (body : ∀ (X : Cx) (B : Bs) (D : Ends) (x1 : α1) (x2 : α2) (x3 : α3) (x4 : α4) (x5 : α5) (x6 : α6) (x7 : α7), XC P w K mg base k N (defScope st) vs vs X → pre x1 x2 x3 x4 x5 x6 x7 → RtOk B rr (f x1 x2 x3 x4 x5 x6 x7) D → (∀ σ H, D.nx σ H → D.rt .non H) → SD X B (.val r1 x1 :: .val r2 x2 :: .val r3 x3 :: .val r4 x4 :: .val r5 x5 :: .val r6 x6 :: .val r7 x7 :: Γu) (defBody st) { D with nx := fun _ H => D.rt .non H }) : FMe P w K mg base (k + 1) C m ps (SpF7 r1 r2 r3 r4 r5 r6 r7 pre rr f) :=
  meF (fun i => .val r1 (i.1) :: .val r2 (i.2.1) :: .val r3 (i.2.2.1) :: .val r4 (i.2.2.2.1) :: .val r5 (i.2.2.2.2.1) :: .val r6 (i.2.2.2.2.2.1) :: .val r7 (i.2.2.2.2.2.2) :: Γu) T S hv (fun _ => hl.symm) (fun i => by rw [hu]; rfl) (fun X B D i c hp hD hn => body X B D (i.1) (i.2.1) (i.2.2.1) (i.2.2.2.1) (i.2.2.2.2.1) (i.2.2.2.2.2.1) (i.2.2.2.2.2.2) c hp hD hn)
theorem fnM7 {α1 α2 α3 α4 α5 α6 α7 : Type} {r1 : Rp α1} {r2 : Rp α2} {r3 : Rp α3} {r4 : Rp α4} {r5 : Rp α5} {r6 : Rp α6} {r7 : Rp α7} {pre : α1 → α2 → α3 → α4 → α5 → α6 → α7 → Prop} {rr : Rp ρ} {f : α1 → α2 → α3 → α4 → α5 → α6 → α7 → List ρ} (T : FT K mg x q st ps) (S : FnScope N ps (defScope st)) (hv : locB N (defScope st) vs = true) (Γu : Ctx) (hl : ps.length = 7 := by rfl) (hu : List.replicate (N.length - ps.length) .un = Γu := by rfl)
    (body : ∀ (X : Cx) (B : Bs) (D : Ends) (x1 : α1) (x2 : α2) (x3 : α3) (x4 : α4) (x5 : α5) (x6 : α6) (x7 : α7), XC P w K mg base k N (defScope st) vs vs X → pre x1 x2 x3 x4 x5 x6 x7 → RtM B rr (f x1 x2 x3 x4 x5 x6 x7) D → SD X B (.val r1 x1 :: .val r2 x2 :: .val r3 x3 :: .val r4 x4 :: .val r5 x5 :: .val r6 x6 :: .val r7 x7 :: Γu) (defBody st) D) : FN P w K mg base CX0 (k + 1) x ps (SpM7 r1 r2 r3 r4 r5 r6 r7 pre rr f) :=
  fnM (fun i => .val r1 (i.1) :: .val r2 (i.2.1) :: .val r3 (i.2.2.1) :: .val r4 (i.2.2.2.1) :: .val r5 (i.2.2.2.2.1) :: .val r6 (i.2.2.2.2.2.1) :: .val r7 (i.2.2.2.2.2.2) :: Γu) T S hv (fun _ => hl.symm) (fun i => by rw [hu]; rfl) (fun X B D i c hp hD => body X B D (i.1) (i.2.1) (i.2.2.1) (i.2.2.2.1) (i.2.2.2.2.1) (i.2.2.2.2.2.1) (i.2.2.2.2.2.2) c hp hD)
theorem meM7 {α1 α2 α3 α4 α5 α6 α7 : Type} {r1 : Rp α1} {r2 : Rp α2} {r3 : Rp α3} {r4 : Rp α4} {r5 : Rp α5} {r6 : Rp α6} {r7 : Rp α7} {pre : α1 → α2 → α3 → α4 → α5 → α6 → α7 → Prop} {rr : Rp ρ} {f : α1 → α2 → α3 → α4 → α5 → α6 → α7 → List ρ} (T : FTm K m q C st ps) (S : FnScope N ps (defScope st)) (hv : locB N (defScope st) vs = true) (Γu : Ctx) (hl : ps.length = 7 := by rfl) (hu : List.replicate (N.length - ps.length) .un = Γu := by rfl)
    (body : ∀ (X : Cx) (B : Bs) (D : Ends) (x1 : α1) (x2 : α2) (x3 : α3) (x4 : α4) (x5 : α5) (x6 : α6) (x7 : α7), XC P w K mg base k N (defScope st) vs vs X → pre x1 x2 x3 x4 x5 x6 x7 → RtM B rr (f x1 x2 x3 x4 x5 x6 x7) D → SD X B (.val r1 x1 :: .val r2 x2 :: .val r3 x3 :: .val r4 x4 :: .val r5 x5 :: .val r6 x6 :: .val r7 x7 :: Γu) (defBody st) D) : FMe P w K mg base (k + 1) C m ps (SpM7 r1 r2 r3 r4 r5 r6 r7 pre rr f) :=
  meM (fun i => .val r1 (i.1) :: .val r2 (i.2.1) :: .val r3 (i.2.2.1) :: .val r4 (i.2.2.2.1) :: .val r5 (i.2.2.2.2.1) :: .val r6 (i.2.2.2.2.2.1) :: .val r7 (i.2.2.2.2.2.2) :: Γu) T S hv (fun _ => hl.symm) (fun i => by rw [hu]; rfl) (fun X B D i c hp hD => body X B D (i.1) (i.2.1) (i.2.2.1) (i.2.2.2.1) (i.2.2.2.2.1) (i.2.2.2.2.2.1) (i.2.2.2.2.2.2) c hp hD)
theorem fnN7 {α1 α2 α3 α4 α5 α6 α7 : Type} {r1 : Rp α1} {r2 : Rp α2} {r3 : Rp α3} {r4 : Rp α4} {r5 : Rp α5} {r6 : Rp α6} {r7 : Rp α7} {pre : α1 → α2 → α3 → α4 → α5 → α6 → α7 → Prop} {rr : Rp ρ} {f : α1 → α2 → α3 → α4 → α5 → α6 → α7 → ρ} (T : FT K mg x q st ps) (S : FnScope N ps (defScope st)) (hv : locB N (defScope st) vs = true) (Γu : Ctx) (hl : ps.length = 7 := by rfl) (hu : List.replicate (N.length - ps.length) .un = Γu := by rfl)
    (body : ∀ (X : Cx) (B : Bs) (D : Ends) (x1 : α1) (x2 : α2) (x3 : α3) (x4 : α4) (x5 : α5) (x6 : α6) (x7 : α7), XC P w K mg base k N (defScope st) vs vs X → pre x1 x2 x3 x4 x5 x6 x7 → RtN B rr (f x1 x2 x3 x4 x5 x6 x7) D → SD X B (.val r1 x1 :: .val r2 x2 :: .val r3 x3 :: .val r4 x4 :: .val r5 x5 :: .val r6 x6 :: .val r7 x7 :: Γu) (defBody st) D) : FN P w K mg base CX0 (k + 1) x ps (SpN7 r1 r2 r3 r4 r5 r6 r7 pre rr f) :=
  fnN (fun i => .val r1 (i.1) :: .val r2 (i.2.1) :: .val r3 (i.2.2.1) :: .val r4 (i.2.2.2.1) :: .val r5 (i.2.2.2.2.1) :: .val r6 (i.2.2.2.2.2.1) :: .val r7 (i.2.2.2.2.2.2) :: Γu) T S hv (fun _ => hl.symm) (fun i => by rw [hu]; rfl) (fun X B D i c hp hD => body X B D (i.1) (i.2.1) (i.2.2.1) (i.2.2.2.1) (i.2.2.2.2.1) (i.2.2.2.2.2.1) (i.2.2.2.2.2.2) c hp hD)
abbrev SpI7 {α1 α2 α3 α4 α5 α6 α7 : Type} (C : Addr) (r1 : Rp α1) (r2 : Rp α2) (r3 : Rp α3) (r4 : Rp α4) (r5 : Rp α5) (r6 : Rp α6) (r7 : Rp α7) (pre : α1 → α2 → α3 → α4 → α5 → α6 → α7 → Prop) (names : List Str) (fl : α1 → α2 → α3 → α4 → α5 → α6 → α7 → Ctx) : Sp := SpI C (fun i : α1 × α2 × α3 × α4 × α5 × α6 × α7 => [.val r1 (i.1), .val r2 (i.2.1), .val r3 (i.2.2.1), .val r4 (i.2.2.2.1), .val r5 (i.2.2.2.2.1), .val r6 (i.2.2.2.2.2.1), .val r7 (i.2.2.2.2.2.2)]) (fun i => pre (i.1) (i.2.1) (i.2.2.1) (i.2.2.2.1) (i.2.2.2.2.1) (i.2.2.2.2.2.1) (i.2.2.2.2.2.2)) names (fun i => fl (i.1) (i.2.1) (i.2.2.1) (i.2.2.2.1) (i.2.2.2.2.1) (i.2.2.2.2.2.1) (i.2.2.2.2.2.2))
theorem fnI7 {α1 α2 α3 α4 α5 α6 α7 : Type} {r1 : Rp α1} {r2 : Rp α2} {r3 : Rp α3} {r4 : Rp α4} {r5 : Rp α5} {r6 : Rp α6} {r7 : Rp α7} {pre : α1 → α2 → α3 → α4 → α5 → α6 → α7 → Prop} {names : List Str} {fl : α1 → α2 → α3 → α4 → α5 → α6 → α7 → Ctx} (T : FTk K mg x q C st ps) (S : FnScope N ps (defScope st)) (hv : locB N (defScope st) vs = true) (Γu : Ctx) (hl : ps.length = 8 := by rfl) (hu : List.replicate (N.length - ps.length) .un = Γu := by rfl)
    (body : ∀ (X : Cx) (B : Bs) (D : Ends) (x1 : α1) (x2 : α2) (x3 : α3) (x4 : α4) (x5 : α5) (x6 : α6) (x7 : α7) (xd : Addr × Addr), XC P w K mg base k N (defScope st) vs vs X → pre x1 x2 x3 x4 x5 x6 x7 → (∀ σ H' Γ', EnvP B (.own (oObj C names (fl x1 x2 x3 x4 x5 x6 x7)) xd :: Γ') σ H' → D.nx σ H') → SD X B (.own (oObj C [] []) xd :: .val r1 x1 :: .val r2 x2 :: .val r3 x3 :: .val r4 x4 :: .val r5 x5 :: .val r6 x6 :: .val r7 x7 :: Γu) (defBody st) D) : FMk P w K mg base (k + 1) x C ps (SpI7 C r1 r2 r3 r4 r5 r6 r7 pre names fl) :=
  fnI (fun i xd => .own (oObj C [] []) xd :: .val r1 (i.1) :: .val r2 (i.2.1) :: .val r3 (i.2.2.1) :: .val r4 (i.2.2.2.1) :: .val r5 (i.2.2.2.2.1) :: .val r6 (i.2.2.2.2.2.1) :: .val r7 (i.2.2.2.2.2.2) :: Γu) T S hv (fun _ => hl.symm) (fun i xd => by rw [hu]; rfl) (fun X B D i xd c hp hD => body X B D (i.1) (i.2.1) (i.2.2.1) (i.2.2.2.1) (i.2.2.2.2.1) (i.2.2.2.2.2.1) (i.2.2.2.2.2.2) xd c hp hD)
theorem c_make7 (c : XC P w K mg base k N sc vs ls X) {α1 α2 α3 α4 α5 α6 α7 : Type} {r1 : Rp α1} {r2 : Rp α2} {r3 : Rp α3} {r4 : Rp α4} {r5 : Rp α5} {r6 : Rp α6} {r7 : Rp α7} {pre : α1 → α2 → α3 → α4 → α5 → α6 → α7 → Prop} {names : List Str} {fl : α1 → α2 → α3 → α4 → α5 → α6 → α7 → Ctx} {cls : β → Addr} {flds : β → Ctx} {e1 e2 e3 e4 e5 e6 e7 : Expr} {x1 : α1} {x2 : α2} {x3 : α3} {x4 : α4} {x5 : α5} {x6 : α6} {x7 : α7} (o : β) (h : FMk P w K mg base j x C ps (SpI7 C r1 r2 r3 r4 r5 r6 r7 pre names fl)) (h1 : DE X B Γ e1 r1 x1) (h2 : DE X B Γ e2 r2 x2) (h3 : DE X B Γ e3 r3 x3) (h4 : DE X B Γ e4 r4 x4) (h5 : DE X B Γ e5 r5 x5) (h6 : DE X B Γ e6 r6 x6) (h7 : DE X B Γ e7 r7 x7) (hp : pre x1 x2 x3 x4 x5 x6 x7) (hC : cls o = C := by rfl) (hf : flds o = fl x1 x2 x3 x4 x5 x6 x7 := by rfl) (hj : j + 1 ≤ k := by decide) (hg : glB sc x = true := by decide +kernel)
    (hdb : (x == ("__debug__" : Str)) = false := by decide) (s1 : starEach [e1, e2, e3, e4, e5, e6, e7] X.env = (false, eval e1 X.env) :: starEach [e2, e3, e4, e5, e6, e7] X.env := by rfl) (s2 : starEach [e2, e3, e4, e5, e6, e7] X.env = (false, eval e2 X.env) :: starEach [e3, e4, e5, e6, e7] X.env := by rfl) (s3 : starEach [e3, e4, e5, e6, e7] X.env = (false, eval e3 X.env) :: starEach [e4, e5, e6, e7] X.env := by rfl) (s4 : starEach [e4, e5, e6, e7] X.env = (false, eval e4 X.env) :: starEach [e5, e6, e7] X.env := by rfl) (s5 : starEach [e5, e6, e7] X.env = (false, eval e5 X.env) :: starEach [e6, e7] X.env := by rfl) (s6 : starEach [e6, e7] X.env = (false, eval e6 X.env) :: starEach [e7] X.env := by rfl) (s7 : starEach [e7] X.env = (false, eval e7 X.env) :: starEach [] X.env := by rfl) (hpl : (backTo pos (starEach [e2, e3, e4, e5, e6, e7] X.env)).any (·.1) = false := by rfl) :
    DE X B Γ (.Call (.Name x p) [e1, e2, e3, e4, e5, e6, e7] [] pos) (rObj cls names flds) o := c_make c (x1, x2, x3, x4, x5, x6, x7) h (da_cons h1 (da_cons h2 (da_cons h3 (da_cons h4 (da_cons h5 (da_cons h6 (da_cons h7 da_nil s7) s6) s5) s4) s3) s2) s1) hp hC hf hj hg hdb s1 hpl
theorem c_methF7 (c : XC P w K mg base k N sc vs ls X) {pl : Sem Bool} {α1 α2 α3 α4 α5 α6 α7 : Type} {cls : α1 → Addr} {names : List Str} {flds : α1 → Ctx} {r2 : Rp α2} {r3 : Rp α3} {r4 : Rp α4} {r5 : Rp α5} {r6 : Rp α6} {r7 : Rp α7} {pre : α1 → α2 → α3 → α4 → α5 → α6 → α7 → Prop} {rr : Rp ρ} {f : α1 → α2 → α3 → α4 → α5 → α6 → α7 → ρ} {e1 e2 e3 e4 e5 e6 e7 : Expr} {x1 : α1} {x2 : α2} {x3 : α3} {x4 : α4} {x5 : α5} {x6 : α6} {x7 : α7} (h : FMe P w K mg base j (cls x1) m ps (SpF7 (rObj cls names flds) r2 r3 r4 r5 r6 r7 pre rr f)) (h1 : DE X B Γ e1 (rObj cls names flds) x1) (h2 : DE X B Γ e2 r2 x2) (h3 : DE X B Γ e3 r3 x3) (h4 : DE X B Γ e4 r4 x4) (h5 : DE X B Γ e5 r5 x5) (h6 : DE X B Γ e6 r6 x6) (h7 : DE X B Γ e7 r7 x7) (hp : pre x1 x2 x3 x4 x5 x6 x7) (hj : j ≤ k := by decide) (hnm : names.contains m = false := by decide +kernel)
    (s2 : starEach [e2, e3, e4, e5, e6, e7] X.env = (false, eval e2 X.env) :: starEach [e3, e4, e5, e6, e7] X.env := by rfl) (s3 : starEach [e3, e4, e5, e6, e7] X.env = (false, eval e3 X.env) :: starEach [e4, e5, e6, e7] X.env := by rfl) (s4 : starEach [e4, e5, e6, e7] X.env = (false, eval e4 X.env) :: starEach [e5, e6, e7] X.env := by rfl) (s5 : starEach [e5, e6, e7] X.env = (false, eval e5 X.env) :: starEach [e6, e7] X.env := by rfl) (s6 : starEach [e6, e7] X.env = (false, eval e6 X.env) :: starEach [e7] X.env := by rfl) (s7 : starEach [e7] X.env = (false, eval e7 X.env) :: starEach [] X.env := by rfl) (hpl : (backTo pos (starEach [e3, e4, e5, e6, e7] X.env)).any (·.1) = false := by rfl)
    (ht : eval (.Call (.Attribute e1 m apos) [e2, e3, e4, e5, e6, e7] [] pos) X.env = (do
      let ov ← eval e1 X.env
      standAt apos.atName
      let (f, first) ← holding [ov] (getMethod ov m pl)
      callWith pos f first (backTo pos (starEach [e2, e3, e4, e5, e6, e7] X.env)) (backToKw pos (keywordEach [] X.env))) := by rfl) : DE X B Γ (.Call (.Attribute e1 m apos) [e2, e3, e4, e5, e6, e7] [] pos) rr (f x1 x2 x3 x4 x5 x6 x7) := c_meth c (x1, x2, x3, x4, x5, x6, x7) h h1 rfl (da_cons h2 (da_cons h3 (da_cons h4 (da_cons h5 (da_cons h6 (da_cons h7 da_nil s7) s6) s5) s4) s3) s2) hp hj hnm s2 hpl ht
end
end DL
namespace DL
open PySem L2 PySem.Spec PyProof.Rows
section
variable {P : Program} {w : World} {K : PySem.W.Frag} {mg : Str → Option Value} {base : Heap} {k j : Nat} {N : List Str} {sc : Scope} {vs ls : List Nat} {X : Cx} {α β γ ι ρ : Type} {B : Bs} {Γ Γ' : Ctx} {e a b tg iter : Expr} {es : List Expr} {D : Ends} {rest ss body : List Stmt} {p pos apos : Pos} {x y f m : Str}
/-- where no exception leaves -/
theorem po_never (h : X.xe = fun _ _ => False) : PassesOwn (model X.prog X.w) X.A X.env X.xe := by rw [h]; exact PassesOwn.never
theorem sd_le' {D0 : Ends} (k : SD X B Γ ss D0) (l : Le D0 D) : SD X B Γ ss D := sd_le l k
/-- for, as a fold -/
theorem sd_forF (hpo : PassesOwn (model X.prog X.w) X.A X.env X.xe) (hcalm : X.calm = true) {r : Rp α} {xs : List α} {Tgt : Ctx → α → Ctx → Prop} {js : List Nat} {S : Type} (Γs : S → Ctx) (fn : S → α → S) (s0 : S) {Γb : S → α → Ctx}
    (hi : DI X B Γ tg iter r xs) (hg : ∀ L, DG X (B.lo L) tg r Tgt js) (h0 : Cv Γ (Γs s0)) (ht : ∀ s x, Tgt (Γs s) x (Γb s x))
    (hb : ∀ L pre x post s, xs = pre ++ x :: post → s = pre.foldl fn s0 → SD X (B.lo L) (Γb s x) body { nx := EnvP (B.lo L) (Γs (fn s x)), ct := EnvP (B.lo L) (Γs (fn s x)), bk := fun _ _ => False, rt := D.rt })
    (hr : ∀ s, s = xs.foldl fn s0 → SD X B (Γs s) rest D) (hs : ∀ x, foldedSetIterable iter X.env x = pure x := by intro _; rfl) : SD X B Γ (.For tg iter body [] pos :: rest) D :=
  sd_for hpo hcalm Γs (fun pre _ s => s = pre.foldl fn s0) (fun _ => False) s0 hi hg (Env.cv h0) rfl ht
    (fun L pre x post s h1 h2 => sd_le' (hb L pre x post s h1 h2) (by
      have e : fn s x = (pre ++ [x]).foldl fn s0 := by rw [List.foldl_append, ← h2]; rfl
      exact ⟨fun σ H h => ⟨fn s x, e, h⟩, fun _ _ h => h, fun _ _ h => h.elim, fun σ H h => ⟨fn s x, e, h⟩⟩))
    (fun s h => h.elim (hr s) False.elim) hs
/-- for, by what is left: go (what is left) s is the end's answer -/
theorem sd_forR (hpo : PassesOwn (model X.prog X.w) X.A X.env X.xe) (hcalm : X.calm = true) {r : Rp α} {xs : List α} {Tgt : Ctx → α → Ctx → Prop} {js : List Nat} {S R : Type} (Γs : S → Ctx) (go : List α → S → R) (res : R) (s0 : S) {Γb : S → α → Ctx}
    (hi : DI X B Γ tg iter r xs) (hg : ∀ L, DG X (B.lo L) tg r Tgt js) (h0 : Cv Γ (Γs s0)) (i0 : go xs s0 = res) (ht : ∀ s x, Tgt (Γs s) x (Γb s x))
    (hb : ∀ L x post s, x ∈ xs → (∀ y ∈ post, y ∈ xs) → go (x :: post) s = res → SD X (B.lo L) (Γb s x) body { nx := fun σ H => ∃ s', go post s' = res ∧ EnvP (B.lo L) (Γs s') σ H, ct := fun σ H => ∃ s', go post s' = res ∧ EnvP (B.lo L) (Γs s') σ H, bk := fun _ _ => False, rt := D.rt })
    (hr : ∀ s, go [] s = res → SD X B (Γs s) rest D) (hs : ∀ x, foldedSetIterable iter X.env x = pure x := by intro _; rfl) : SD X B Γ (.For tg iter body [] pos :: rest) D :=
  sd_for hpo hcalm Γs (fun _ post s => go post s = res) (fun _ => False) s0 hi hg (Env.cv h0) i0 ht
    (fun L pre x post s h1 h2 => sd_le' (hb L x post s (by rw [h1]; simp) (fun y hy => by rw [h1]; simp [hy]) h2) ⟨fun σ H h => h, fun _ _ h => h, fun _ _ h => h.elim, fun σ H h => h⟩)
    (fun s h => h.elim (hr s) False.elim) hs
/-! ### values for slots -/
def Sto (F H F' H' : Hp) (v : V) : Sl → Prop
  | .un => True
  | .val r a => r.rel F' v a
  | .own o a => ∃ fi, o.rel F' H' v a fi ∧ ∀ b, fi b → F' b = none ∧ H b = none ∧ H' b ≠ none
theorem Env.sto {σ : L2.St} {F H F' H' : Hp} {i : Nat} {v : V} {s : Sl} (h : Env B Γ σ F H) (t : To Γ i s Γ') (e : Ext F H F' H') (hs : Sto F H F' H' v s) : Env B Γ' (σ.set i (some v)) F' H' := by
  cases s with
  | un =>
    obtain ⟨fp, x⟩ := h.ext e
    exact x.put t (fun _ z => z)
  | val r a => exact (h.ext e).put t hs
  | own o a =>
    obtain ⟨fi, h1, h2⟩ := hs
    exact h.putOwn t e h1 h2
def tV (B : Bs) (Γ : Ctx) (s : Sl) : TE := fun σ H Q => ∃ F, Env B Γ σ F H ∧ ∀ v F' H', Ext F H F' H' → Sto F H F' H' v s → Q v H'
abbrev VE (X : Cx) (B : Bs) (Γ : Ctx) (e : Expr) (s : Sl) : Prop := PE X e (tV B Γ s)
theorem ve_d {r : Rp α} {v : α} (h : DE X B Γ e r v) : VE X B Γ e (.val r v) := h
theorem ve_m {r : Rp α} {v : List α} (h : DM X B Γ e r v) : VE X B Γ e (.own (oList r) v) := pe_weak h fun σ H Q ⟨F, en, q⟩ => ⟨F, en, fun p us F' H' e1 h1 h2 h3 h4 => q (.ref p) F' H' e1 ⟨fun b => b = p, ⟨p, us, rfl, rfl, h3, h4⟩, fun b hb => by subst hb; exact ⟨h1, h2, by rw [h3]; intro z; cases z⟩⟩⟩
theorem ve_n {r : Rp α} {v : α} (h : DN X B Γ e r v) : VE X B Γ e (.own (oAll r) v) := pe_weak h fun σ H Q ⟨F, en, q⟩ => ⟨F, en, fun u G H' s1 s2 s3 h4 => q u F H' ⟨Same.refl F, s1, en.same.trans s1, fun b hf _ => hf⟩
    ⟨fun b => G b ≠ none, ⟨G, fun b u q => ⟨(by show G b ≠ none; rw [q]; intro z; cases z), s2 b u q⟩, h4⟩, fun b hb => ⟨en.same.free (s3 b hb), s3 b hb, by
      cases z : G b with
      | none => exact absurd z hb
      | some o => rw [s2 b o z]; intro z; cases z⟩⟩⟩
def setL (σ : L2.St) : List Nat → List V → L2.St
  | i :: is, v :: vs => setL (σ.set i (some v)) is vs
  | _, _ => σ
/-- values for slots is, from Γa (as stored so far) to Γb -/
def tVA (B : Bs) (Γ Γa : Ctx) (is : List Nat) (Γb : Ctx) : TA := fun σ H Q => ∃ F σa, Env B Γ σ F H ∧ Env B Γa σa F H ∧ ∀ vs F' H', Ext F H F' H' → Env B Γb (setL σa is vs) F' H' → vs.length = is.length → Q vs H'
abbrev VA (X : Cx) (B : Bs) (Γ Γa : Ctx) (es : List Expr) (is : List Nat) (Γb : Ctx) : Prop := PA X es (tVA B Γ Γa is Γb)
theorem va_nil {Γa : Ctx} : VA X B Γ Γa [] [] Γa := pa_weak pa_nil fun σ H Q ⟨F, σa, e, ea, k⟩ => k [] F H (Ext.refl e.same) ea rfl
theorem va_cons {Γa Γ1 Γb : Ctx} {i : Nat} {is : List Nat} {s : Sl} (h : VE X B Γ e s) (t : To Γa i s Γ1) (hr : VA X B Γ Γ1 es is Γb) (hs : starEach (e :: es) X.env = (false, eval e X.env) :: starEach es X.env := by rfl) : VA X B Γ Γa (e :: es) (i :: is) Γb :=
  pa_weak (pa_cons h hr hs) fun σ H Q ⟨F, σa, en, ea, k⟩ => ⟨F, en, fun u F1 H1 e1 h1 => ⟨F1, σa.set i (some u), en.ext e1, ea.sto t e1 h1, fun vs F2 H2 e2 en2 hl => k (u :: vs) F2 H2 (e1.trans e2) en2 (by simp [hl])⟩⟩
theorem sw_par2 {env : PySem.Env} {x y : Str} {px py pt pt2 : Pos} {kt k2 : Nat} {e1 e2 : Expr} (hk : env.scope.kind = .function) (hx : env.kindOf x = some .local) (hy : env.kindOf y = some .local) (hl : (py.line == px.line) = true) (hne : (y == x) = false)
    (h1 : (([e1, e2] : List Expr).any fun | .Starred .. => true | _ => false) = false) (h2 : ([e1, e2] : List Expr).all (foldedForSure 8) = false) (h3 : ([e1, e2] : List Expr).all (constantsAlone 8) = false) :
    swappedStores [.Tuple [.Name x px, .Name y py] kt pt] (.Tuple [e1, e2] k2 pt2) env = pure (some [x, y]) := by
  have hb : env.blockKind = .function := by unfold Env.blockKind; rw [hk]; rfl
  unfold swappedStores
  have e0 : (some NameKind.local == some NameKind.local) = true := by decide
  have hxl : (px.line == px.line) = true := by simp
  have he : ([x, y] : List Str).eraseDups = [x, y] := by
    simp [List.eraseDups, List.eraseDupsBy, List.eraseDupsBy.loop, hne]
  have hl' : py.line = px.line := by simpa using hl
  have h1' := h1
  have h2' := h2
  have h3' := h3
  simp only [List.any_cons, List.any_nil, Bool.or_false, Bool.or_eq_false_iff] at h1'
  simp [hb, hx, hy, hl', Expr.pos, he, List.filterMap_cons, h1'.1, h1'.2, -List.all_cons, h2, h3]
  intro hh
  exfalso
  rcases hh with h | h
  · have z := h1'.1
    cases e1 <;> first | exact Bool.noConfusion h | exact Bool.noConfusion z
  · have z := h1'.2
    cases e2 <;> first | exact Bool.noConfusion h | exact Bool.noConfusion z
/-- a, b = e1, e2 (two local names) -/
theorem c_par (c : XC P w K mg base k N sc vs ls X) (i j : Nat) {e1 e2 : Expr} {px py pt pt2 : Pos} {kt k2 : Nat} {Γb : Ctx} (h : VA X B Γ Γ [e1, e2] [i, j] Γb) (hr : SD X B Γb rest D) (hij : i ≠ j := by decide) (hN : N[i]? = some x := by rfl) (hN2 : N[j]? = some y := by rfl)
    (hx : (match sc.names.lookup x with | some .local => true | _ => false) = true := by decide +kernel) (hy : (match sc.names.lookup y with | some .local => true | _ => false) = true := by decide +kernel)
    (hline : (py.line == px.line) = true := by rfl) (hne : (y == x) = false := by decide +kernel)
    (w1 : (([e1, e2] : List Expr).any fun | .Starred .. => true | _ => false) = false := by rfl) (w2 : ([e1, e2] : List Expr).all (foldedForSure 8) = false := by rfl) (w3 : ([e1, e2] : List Expr).all (constantsAlone 8) = false := by rfl)
    (hs : swapsWithSole [.Tuple [.Name x px, .Name y py] kt pt] (.Tuple [e1, e2] k2 pt2) pos.line X.env = pure false := by rfl) :
    SD X B Γ (.Assign [.Tuple [.Name x px, .Name y py] kt pt] (.Tuple [e1, e2] k2 pt2) pos :: rest) D := by
  have hN' : X.N[i]? = some x := by rw [c.N]; exact hN
  have hN2' : X.N[j]? = some y := by rw [c.N]; exact hN2
  have lx : X.env.scope.names.lookup x = some .local := by
    rw [c.sc]
    split at hx
    · assumption
    · cases hx
  have ly : X.env.scope.names.lookup y = some .local := by
    rw [c.sc]
    split at hy
    · assumption
    · cases hy
  refine sd_cons (ps_par c.calm c.nd hN' hN2' hij lx ly h (sw_par2 c.kind lx ly hline hne w1 w2 w3) hs) (fun D' l σ H ⟨F, en⟩ => ⟨F, σ, en, en, fun vs F' H' e1 en1 hl => ?_⟩) hr
  match vs, hl with
  | [u, v], _ => exact ⟨u, v, rfl, l.nx _ _ ⟨F', en1⟩⟩
theorem sd_gen {Γf : α → Ctx} (v : α) (h : ∀ a, a = v → SD X B (Γf a) ss D) : SD X B (Γf v) ss D := h v rfl
/-- if whose test fails -/
theorem sd_ifF {z : Bool} {cnd : Expr} {bd : List Stmt} (hc : DT X B Γ cnd z) (hp : z = false) (h2 : SD X B Γ rest D) : SD X B Γ (.If cnd bd [] pos :: rest) D := by
  subst hp
  refine pss_weak (pss_cons (ps_if hc (pss_never (sts := bd)) pss_nil) h2) fun D' σ H ⟨hd, F, en⟩ => ?_
  refine ⟨F, en, fun F1 H1 e1 => ?_⟩
  show if false = true then _ else _
  rw [if_neg (by decide)]
  exact ⟨hd, F1, en.ext e1⟩
/-- (a, b) = a pair -/
theorem c_asgP (c : XC P w K mg base k N sc vs ls X) (i j : Nat) {p1 p2 p3 : Pos} {kk : Nat} {r : Rp α} {s : Rp β} {z : α × β} {Γ1 Γ2 : α × β → Ctx} (he : DE X B Γ e (rPair r s) z) (t1 : ∀ z : α × β, To Γ i (.val r z.1) (Γ1 z)) (t2 : ∀ z : α × β, To (Γ1 z) j (.val s z.2) (Γ2 z)) (hr : ∀ z', z' = z → SD X B (Γ2 z') rest D)
    (hN : N[i]? = some x := by rfl) (hl : ls.contains i = true := by rfl) (hN2 : N[j]? = some y := by rfl) (hl2 : ls.contains j = true := by rfl)
    (hs : swapsWithSole [.Tuple [.Name x p1, .Name y p2] kk p3] e pos.line X.env = pure false := by rfl) (hw : swappedStores [.Tuple [.Name x p1, .Name y p2] kk p3] e X.env = pure none := by rfl) :
    SD X B Γ (.Assign [.Tuple [.Name x p1, .Name y p2] kk p3] e pos :: rest) D :=
  sd_cons (ps_asg he (c_tpair (B := B) (r := r) (s := s) c i j hN hl hN2 hl2) hs hw) (fun D' l σ H ⟨F, en⟩ => ⟨F, en, fun u F1 H1 e1 h1 => ⟨Γ, z, Γ2 z, F1, en.ext e1, h1, ⟨Γ1 z, t1 z, t2 z⟩, fun σ' en' _ _ => l.nx _ _ ⟨F1, en'⟩⟩⟩) (hr z rfl)
end
end DL
namespace DL
open PySem L2 PySem.Spec PyProof.Rows
/-- an instance in the making, all within it new -/
def oObjN (C : Addr) (names : List Str) (sls : Ctx) : Own (Addr × Addr) :=
  ⟨fun F H v a fp => v = .ref a.1 ∧ fp a.1 ∧ ∃ (G : Hp) (fs : List (Str × V)), (∀ b u, G b = some u → fp b ∧ H b = some u) ∧ G a.1 = none ∧ H a.1 = some (.ins C a.2 fs) ∧ fs.map Prod.fst = names ∧ SlsOk G (fs.map Prod.snd) sls,
   fun {F F' H H' v a fp} e k ⟨h1, h2, G, fs, h3, h4, h5, h6, h7⟩ => ⟨h1, h2, G, fs, fun b u q => ⟨(h3 b u q).1, by rw [k b (h3 b u q).1]; exact (h3 b u q).2⟩, h4, by rw [k a.1 h2]; exact h5, h6, h7⟩⟩
def SpIN {ι : Type} (C : Addr) (args : ι → Ctx) (pre : ι → Prop) (names : List Str) (flds : ι → Ctx) : Sp := fun vs H Q _ => ∃ F i x dx us, vs = .ref x :: us ∧ Same F H ∧ F x = none ∧ H x = some (.ins C dx []) ∧ SlsOk F us (args i) ∧ pre i ∧
  ∀ (G H' : Hp) (fs : List (Str × V)), (∀ b o, b ≠ x → H b = some o → H' b = some o) → Same G H' → (∀ b, G b ≠ none → H b = none) → H' x = some (.ins C dx fs) → fs.map Prod.fst = names → SlsOk G (fs.map Prod.snd) (flds i) → Q .non H'
section
variable {P : Program} {w : World} {K : PySem.W.Frag} {mg : Str → Option Value} {base : Heap} {k j : Nat} {N : List Str} {sc : Scope} {vs ls : List Nat} {X : Cx} {α β γ ι ρ : Type} {B : Bs} {Γ Γ' : Ctx} {e a b : Expr} {es : List Expr} {D : Ends} {rest ss : List Stmt} {p pos apos : Pos} {x f m q : Str} {cls : α → Addr} {names : List Str} {flds : α → Ctx} {ps : List Str} {C : Addr} {st : Stmt} {args : ι → Ctx} {pre : ι → Prop}
/-- self.f = e, e all new -/
theorem c_setFN (c : XC P w K mg base k N sc vs ls X) (i : Nat) {sls : Ctx} {xd : Addr × Addr} {r : Rp β} {v : β} {p1 p2 : Pos} (h : At Γ i (.own (oObjN C names sls) xd)) (he : DN X B Γ e r v) (hc : Cls K C) (hn : NoAttr K C f)
    (t : To Γ i (.own (oObjN C (names ++ [f]) (sls ++ [.val r v])) xd) Γ') (hr : SD X B Γ' rest D) (hnm : names.contains f = false := by decide +kernel) (hz : decide (names.length < 1000) = true := by decide +kernel) (hN : N[i]? = some x := by rfl) (hv : vs.contains i = true := by rfl)
    (hd : (x == ("__debug__" : Str)) = false := by decide) (hcd : (x == ("__classdict__" : Str)) = false := by decide) (hs : swapsWith e (some (.Attribute (.Name x p1) f p2)) pos.line X.env = pure false := by rfl) :
    SD X B Γ (.Assign [.Attribute (.Name x p1) f p2] e pos :: rest) D := by
  have hN' : X.N[i]? = some x := by rw [c.N]; exact hN
  refine sd_cons (ps_fld (pe_var hN' (c.vis i x hN' hv) hd hcd) he hs) (fun D' l σ H ⟨F, en⟩ => ⟨F, en, fun u G1 H1 s1 s2 s3 h1 => ?_⟩) hr
  have ex : Ext F H F H1 := ⟨Same.refl F, s1, en.same.trans s1, fun b hf _ => hf⟩
  obtain ⟨fp, en0⟩ := en
  have en1 := en0.ext ex
  obtain ⟨⟨s, hs, rfl, hfp, G, fs, q3, q4, q5, q6, q7⟩, hown⟩ := en1.ok i _ h.get
  refine ⟨.ref xd.1, hs, xd.1, C, xd.2, fs, rfl, q5, by rw [c.K]; exact hc, by rw [c.K]; exact hn, by have := congrArg List.length q6; simp at this; rw [this]; exact of_decide_eq_true hz, l.nx _ _ ?_⟩
  have hx := hown xd.1 hfp
  have g1new : ∀ j b, fp j b → G1 b = none := fun j b z => by
    cases w : G1 b with
    | none => rfl
    | some o => exact absurd (s3 b (by rw [w]; intro z; cases z)) (en0.own_at z).2.1
  have gx : G1 xd.1 = none := g1new i xd.1 hfp
  refine ⟨F, _, en1.putG (fi := fun b => fp i b ∨ G1 b ≠ none) t rfl (fun j hj => rfl) ⟨en1.base.f, fun b o z => ?_, fun b o z => ?_, en1.base.d⟩ (fun b o z => ?_) (Same.refl F) (fun j b hj z => ?_) ?_ (fun j b hj z w => ?_)⟩
  · rw [upd_ne (ne_of_none z hx.2.2)]; exact en1.base.h b o z
  · rw [upd_ne (ne_of_none z hx.1)]; exact en1.same b o z
  · rw [upd_ne (ne_of_none z hx.1)]; exact en1.same b o z
  · have nb : b ≠ xd.1 := fun w => en1.apart j i hj b z (by rw [w]; exact hfp)
    exact ⟨by rw [upd_ne nb], (en1.own_at z).1⟩
  · refine ⟨⟨.ref xd.1, hs, rfl, .inl hfp, join G G1, putF f u fs, fun b o z => ?_, ?_, upd_same, ?_, ?_⟩, fun b hb => ?_⟩
    · have nb : b ≠ xd.1 := fun w => by
        rw [w] at z
        unfold join at z
        rw [gx, q4] at z
        cases z
      rw [upd_ne nb]
      unfold join at z
      cases w : G1 b with
      | none => rw [w] at z; exact ⟨.inl (q3 b o z).1, (q3 b o z).2⟩
      | some o' => rw [w] at z; cases z; exact ⟨.inr (by rw [w]; intro z; cases z), s2 b _ w⟩
    · unfold join; rw [gx]; exact q4
    · rw [putF_new q6 hnm, List.map_append, q6]; rfl
    · rw [putF_new q6 hnm, List.map_append]
      refine slsOk_app (SlsOk.mono (fun b o z => ?_) q7) ⟨r.mono (fun b o z => by unfold join; rw [z]) h1, trivial⟩
      unfold join
      rw [g1new i b (q3 b o z).1]
      exact z
    · have hb' : F b = none ∧ H1 b ≠ none ∧ B.H b = none := by
        rcases hb with hb | hb
        · exact hown b hb
        · have hH : H b = none := s3 b hb
          refine ⟨en0.same.free hH, ?_, en0.base.h.free hH⟩
          cases w : G1 b with
          | none => exact absurd w hb
          | some o => rw [s2 b o w]; intro z; cases z
      refine ⟨hb'.1, ?_, hb'.2.2⟩
      by_cases z : b = xd.1
      · rw [z, upd_same]; intro w; cases w
      · rw [upd_ne z]; exact hb'.2.1
  · rcases w with w | w
    · exact en1.apart j i hj b z w
    · exact w (g1new j b z)
theorem fnIN {fl : ι → Ctx} (Γ0 : ι → Addr × Addr → Ctx) (T : FTk K mg x q C st ps) (S : FnScope N ps (defScope st)) (hv : locB N (defScope st) vs = true) (hl : ∀ i, (args i).length + 1 = ps.length) (hΓ : ∀ i xd, .own (oObjN C [] []) xd :: args i ++ List.replicate (N.length - ps.length) .un = Γ0 i xd)
    (body : ∀ (X : Cx) (B : Bs) (D : Ends) (i : ι) (xd : Addr × Addr), XC P w K mg base k N (defScope st) vs vs X → pre i → (∀ σ H' Γ', EnvP B (.own (oObjN C names (fl i)) xd :: Γ') σ H' → D.nx σ H') → SD X B (Γ0 i xd) (defBody st) D) :
    FMk P w K mg base (k + 1) x C ps (SpIN C args pre names fl) := by
  obtain ⟨fa, fd, F, hm, hk, hb⟩ := T
  refine ⟨fa, fd, fun_ok F S (fun us H Q E ⟨F0, i, x, dx, us', e, _, _, _, h, _⟩ => by rw [e, List.length_cons, h.length, hl]) (fun cdv A outer s H us Q E hr ⟨F0, i, y, dy, us', e, s0, hy, hH, h, hp, kq⟩ => ?_), hm, hk, hb⟩
  subst e
  have hN : ps.length ≤ N.length := by have := congrArg List.length S.pre; rw [List.length_take] at this; omega
  let H0 : Hp := fun b => if b = y then none else H b
  have h0y : H0 y = none := if_pos rfl
  have h0 : ∀ b, b ≠ y → H0 b = H b := fun b hb => if_neg hb
  refine ⟨_, body _ ⟨F0, H0, F0⟩ { nx := fun _ H' => Q .non H', rt := Q } i (y, dy) (xc_of S hv hr) hp (fun σ H' Γ' ⟨F', fp, en⟩ => ?_), Le.refl _, F0, ?_⟩
  · obtain ⟨⟨v, _, _, hfp, G, fs, g0, g00, g1, g2, g3⟩, hown⟩ := en.ok 0 _ rfl
    refine kq G H' fs (fun b o hb z => en.base.h b o (by show H0 b = _; rw [h0 b hb]; exact z)) (fun b o z => (g0 b o z).2) (fun b hb => ?_) g1 g2 g3
    cases w : G b with
    | none => exact absurd w hb
    | some o =>
      have z := (hown b (g0 b o w).1).2.2
      have nb : b ≠ y := fun e => by rw [e] at w; rw [g00] at w; cases w
      have z' : H0 b = none := z
      rw [h0 b nb] at z'
      exact z'
  · have s00 : Same F0 H0 := fun b u z => by
      have hb : b ≠ y := fun w => by rw [w, hy] at z; cases z
      rw [h0 b hb]; exact s0 b u z
    obtain ⟨fp, en⟩ := env_start (N := N) (ps := ps) (us := .ref y :: us') (Δ := .val rAny () :: args i) (Γ0 := .val rAny () :: args i ++ List.replicate (N.length - ps.length) .un) (F := F0) (H := H0) s00 ⟨trivial, h⟩ (by rw [List.length_cons, hl]) hN rfl
    rw [← hΓ]
    have t : To (.val rAny () :: (args i ++ List.replicate (N.length - ps.length) .un)) 0 (.own (oObjN C [] []) (y, dy)) (.own (oObjN C [] []) (y, dy) :: (args i ++ List.replicate (N.length - ps.length) .un)) := .z
    have s0H : Same H0 H := fun b u z => by
      have hb : b ≠ y := fun w => by rw [w, h0y] at z; cases z
      rw [← h0 b hb]; exact z
    have hz : ∀ j b, fp j b → False := fun j b z => by
      cases q : (Sl.val rAny () :: args i ++ List.replicate (N.length - ps.length) Sl.un)[j]? with
      | none => exact en.out j q b z
      | some s =>
        have w := en.ok j s q
        cases s with
        | un => exact w b z
        | val r a => exact w.1 b z
        | own o a =>
          have hm := List.mem_of_getElem? q
          have : ∀ {us : List V} {Δ : Ctx}, SlsOk F0 us Δ → Sl.own o a ∉ Δ := fun {us Δ} h => by
            induction Δ generalizing us with
            | nil => simp
            | cons s Δ ih =>
              cases us with
              | nil => exact h.elim
              | cons v us =>
                intro z
                rcases List.mem_cons.mp z with z | z
                · subst z; exact h.1
                · exact ih h.2 z
          rcases List.mem_append.mp hm with hm | hm
          · rcases List.mem_cons.mp hm with hm | hm
            · cases hm
            · exact this h hm
          · have := List.eq_of_mem_replicate hm
            cases this
    refine ⟨_, en.putG (fi := fun b => b = y) t rfl (fun j hj => rfl) ⟨Same.refl F0, s0H, s0, fun b hb _ => hb⟩ s0 (Same.refl F0) (fun j b hj z => (hz j b z).elim) ?_ (fun j b hj z w => hz j b z)⟩
    have hs : (L2.start N (.ref y :: us'))[0]? = some (some (.ref y)) := by unfold L2.start; simp
    rw [hs]
    exact ⟨⟨_, rfl, rfl, rfl, fun _ => none, [], (fun b u z => by cases z), rfl, hH, rfl, trivial⟩, fun b hb => by subst hb; exact ⟨hy, (by rw [hH]; intro w; cases w), h0y⟩⟩
theorem c_makeN (c : XC P w K mg base k N sc vs ls X) {fl : ι → Ctx} {o : α} (i : ι) (h : FMk P w K mg base j x C ps (SpIN C args pre names fl)) (ha : DA X B Γ (a :: es) (args i)) (hp : pre i) (hC : cls o = C) (hf : flds o = fl i) (hj : j + 1 ≤ k := by decide) (hg : glB sc x = true := by decide +kernel)
    (hdb : (x == ("__debug__" : Str)) = false := by decide) (he : starEach (a :: es) X.env = (false, eval a X.env) :: starEach es X.env := by rfl) (hpl : (backTo pos (starEach es X.env)).any (·.1) = false := by rfl) :
    DN X B Γ (.Call (.Name x p) (a :: es) [] pos) (rObj cls names flds) o := by
  obtain ⟨fa, fd, G, h1, h2, h3⟩ := h
  have G' : FnOk X.prog X.w X.K X.mg X.base CX0 j fa fd ps (SpIN C args pre names fl) := by rw [c.p, c.w, c.K, c.mg, c.b]; exact G
  refine pe_weak (pe_make (by rw [c.K]; exact h2) G' (c.room.mono hj) (gl_of c.sc hg) (by rw [c.mg]; exact h1) (by rw [c.K]; exact h3) .nil pass0 ha hdb he hpl) fun σ H Q ⟨F, en, q⟩ => ⟨F, en, fun us F1 H1 e1 h5 => ?_⟩
  intro y dy n1 n2 ne
  rw [List.append_nil]
  have s1 : Same H1 (upd (upd H1 dy (.own y)) y (.ins C dy [])) := fun b u z => by rw [upd_ne (ne_of_none z n1), upd_ne (ne_of_none z n2)]; exact z
  have f1 : F1 y = none := e1.i.free n1
  refine ⟨F1, i, y, dy, us, rfl, e1.i.trans s1, f1, upd_same, h5, hp, fun G H' fs g2 g3 g5 g6 g7 g8 => ⟨rfl, ?_⟩⟩
  have gy : G y = none := by
    cases w : G y with
    | none => rfl
    | some o =>
      have z := g5 y (by rw [w]; intro z; cases z)
      rw [upd_same] at z
      cases z
  have g2' : Same H1 H' := fun b u z => g2 b u (ne_of_none z n1) (s1 b u z)
  refine q (.ref y) (upd G y (.ins C dy fs)) H' (e1.h.trans g2') (same_upd g3 g6) (fun b hb => ?_) ⟨y, dy, fs, rfl, by rw [hC]; exact upd_same, g7, by rw [hf]; exact SlsOk.mono (same_new gy) g8⟩
  by_cases hby : b = y
  · rw [hby]; exact e1.h.free n1
  · rw [upd_ne hby] at hb
    exact e1.h.free (s1.free (g5 b hb))
end
end DL
namespace DL
open PySem L2 PySem.Spec PyProof.Rows
section
variable {P : Program} {w : World} {K : PySem.W.Frag} {mg : Str → Option Value} {base : Heap} {k j : Nat} {N : List Str} {sc : Scope} {vs ls : List Nat} {X : Cx} {β ρ : Type} {B : Bs} {Γ Γ' : Ctx} {D : Ends} {rest ss : List Stmt} {p pos apos : Pos} {x q f m : Str} {ps : List Str} {st : Stmt} {C : Addr}
abbrev SpIN1 {α1 : Type} (C : Addr) (r1 : Rp α1) (pre : α1 → Prop) (names : List Str) (fl : α1 → Ctx) : Sp := SpIN C (fun i : α1 => [.val r1 i]) (fun i => pre (i)) names (fun i => fl (i))
theorem fnIN1 {α1 : Type} {r1 : Rp α1} {pre : α1 → Prop} {names : List Str} {fl : α1 → Ctx} (T : FTk K mg x q C st ps) (S : FnScope N ps (defScope st)) (hv : locB N (defScope st) vs = true) (Γu : Ctx) (hl : ps.length = 2 := by rfl) (hu : List.replicate (N.length - ps.length) .un = Γu := by rfl)
    (body : ∀ (X : Cx) (B : Bs) (D : Ends) (x1 : α1) (xd : Addr × Addr), XC P w K mg base k N (defScope st) vs vs X → pre x1 → (∀ σ H' Γ', EnvP B (.own (oObjN C names (fl x1)) xd :: Γ') σ H' → D.nx σ H') → SD X B (.own (oObjN C [] []) xd :: .val r1 x1 :: Γu) (defBody st) D) : FMk P w K mg base (k + 1) x C ps (SpIN1 C r1 pre names fl) :=
  fnIN (fun i xd => .own (oObjN C [] []) xd :: .val r1 i :: Γu) T S hv (fun _ => hl.symm) (fun i xd => by rw [hu]; rfl) (fun X B D i xd c hp hD => body X B D (i) xd c hp hD)
theorem c_makeN1 (c : XC P w K mg base k N sc vs ls X) {α1 : Type} {r1 : Rp α1} {pre : α1 → Prop} {names : List Str} {fl : α1 → Ctx} {cls : β → Addr} {flds : β → Ctx} {e1 : Expr} {x1 : α1} (o : β) (h : FMk P w K mg base j x C ps (SpIN1 C r1 pre names fl)) (h1 : DE X B Γ e1 r1 x1) (hp : pre x1) (hC : cls o = C := by rfl) (hf : flds o = fl x1 := by rfl) (hj : j + 1 ≤ k := by decide) (hg : glB sc x = true := by decide +kernel)
    (hdb : (x == ("__debug__" : Str)) = false := by decide) (s1 : starEach [e1] X.env = (false, eval e1 X.env) :: starEach [] X.env := by rfl) (hpl : (backTo pos (starEach [] X.env)).any (·.1) = false := by rfl) :
    DN X B Γ (.Call (.Name x p) [e1] [] pos) (rObj cls names flds) o := c_makeN c x1 h (da_cons h1 da_nil s1) hp hC hf hj hg hdb s1 hpl
abbrev SpIN2 {α1 α2 : Type} (C : Addr) (r1 : Rp α1) (r2 : Rp α2) (pre : α1 → α2 → Prop) (names : List Str) (fl : α1 → α2 → Ctx) : Sp := SpIN C (fun i : α1 × α2 => [.val r1 (i.1), .val r2 (i.2)]) (fun i => pre (i.1) (i.2)) names (fun i => fl (i.1) (i.2))
theorem fnIN2 {α1 α2 : Type} {r1 : Rp α1} {r2 : Rp α2} {pre : α1 → α2 → Prop} {names : List Str} {fl : α1 → α2 → Ctx} (T : FTk K mg x q C st ps) (S : FnScope N ps (defScope st)) (hv : locB N (defScope st) vs = true) (Γu : Ctx) (hl : ps.length = 3 := by rfl) (hu : List.replicate (N.length - ps.length) .un = Γu := by rfl)
    (body : ∀ (X : Cx) (B : Bs) (D : Ends) (x1 : α1) (x2 : α2) (xd : Addr × Addr), XC P w K mg base k N (defScope st) vs vs X → pre x1 x2 → (∀ σ H' Γ', EnvP B (.own (oObjN C names (fl x1 x2)) xd :: Γ') σ H' → D.nx σ H') → SD X B (.own (oObjN C [] []) xd :: .val r1 x1 :: .val r2 x2 :: Γu) (defBody st) D) : FMk P w K mg base (k + 1) x C ps (SpIN2 C r1 r2 pre names fl) :=
  fnIN (fun i xd => .own (oObjN C [] []) xd :: .val r1 (i.1) :: .val r2 (i.2) :: Γu) T S hv (fun _ => hl.symm) (fun i xd => by rw [hu]; rfl) (fun X B D i xd c hp hD => body X B D (i.1) (i.2) xd c hp hD)
theorem c_makeN2 (c : XC P w K mg base k N sc vs ls X) {α1 α2 : Type} {r1 : Rp α1} {r2 : Rp α2} {pre : α1 → α2 → Prop} {names : List Str} {fl : α1 → α2 → Ctx} {cls : β → Addr} {flds : β → Ctx} {e1 e2 : Expr} {x1 : α1} {x2 : α2} (o : β) (h : FMk P w K mg base j x C ps (SpIN2 C r1 r2 pre names fl)) (h1 : DE X B Γ e1 r1 x1) (h2 : DE X B Γ e2 r2 x2) (hp : pre x1 x2) (hC : cls o = C := by rfl) (hf : flds o = fl x1 x2 := by rfl) (hj : j + 1 ≤ k := by decide) (hg : glB sc x = true := by decide +kernel)
    (hdb : (x == ("__debug__" : Str)) = false := by decide) (s1 : starEach [e1, e2] X.env = (false, eval e1 X.env) :: starEach [e2] X.env := by rfl) (s2 : starEach [e2] X.env = (false, eval e2 X.env) :: starEach [] X.env := by rfl) (hpl : (backTo pos (starEach [e2] X.env)).any (·.1) = false := by rfl) :
    DN X B Γ (.Call (.Name x p) [e1, e2] [] pos) (rObj cls names flds) o := c_makeN c (x1, x2) h (da_cons h1 (da_cons h2 da_nil s2) s1) hp hC hf hj hg hdb s1 hpl
abbrev SpIN3 {α1 α2 α3 : Type} (C : Addr) (r1 : Rp α1) (r2 : Rp α2) (r3 : Rp α3) (pre : α1 → α2 → α3 → Prop) (names : List Str) (fl : α1 → α2 → α3 → Ctx) : Sp := SpIN C (fun i : α1 × α2 × α3 => [.val r1 (i.1), .val r2 (i.2.1), .val r3 (i.2.2)]) (fun i => pre (i.1) (i.2.1) (i.2.2)) names (fun i => fl (i.1) (i.2.1) (i.2.2))
theorem fnIN3 {α1 α2 α3 : Type} {r1 : Rp α1} {r2 : Rp α2} {r3 : Rp α3} {pre : α1 → α2 → α3 → Prop} {names : List Str} {fl : α1 → α2 → α3 → Ctx} (T : FTk K mg x q C st ps) (S : FnScope N ps (defScope st)) (hv : locB N (defScope st) vs = true) (Γu : Ctx) (hl : ps.length = 4 := by rfl) (hu : List.replicate (N.length - ps.length) .un = Γu := by rfl)
    (body : ∀ (X : Cx) (B : Bs) (D : Ends) (x1 : α1) (x2 : α2) (x3 : α3) (xd : Addr × Addr), XC P w K mg base k N (defScope st) vs vs X → pre x1 x2 x3 → (∀ σ H' Γ', EnvP B (.own (oObjN C names (fl x1 x2 x3)) xd :: Γ') σ H' → D.nx σ H') → SD X B (.own (oObjN C [] []) xd :: .val r1 x1 :: .val r2 x2 :: .val r3 x3 :: Γu) (defBody st) D) : FMk P w K mg base (k + 1) x C ps (SpIN3 C r1 r2 r3 pre names fl) :=
  fnIN (fun i xd => .own (oObjN C [] []) xd :: .val r1 (i.1) :: .val r2 (i.2.1) :: .val r3 (i.2.2) :: Γu) T S hv (fun _ => hl.symm) (fun i xd => by rw [hu]; rfl) (fun X B D i xd c hp hD => body X B D (i.1) (i.2.1) (i.2.2) xd c hp hD)
theorem c_makeN3 (c : XC P w K mg base k N sc vs ls X) {α1 α2 α3 : Type} {r1 : Rp α1} {r2 : Rp α2} {r3 : Rp α3} {pre : α1 → α2 → α3 → Prop} {names : List Str} {fl : α1 → α2 → α3 → Ctx} {cls : β → Addr} {flds : β → Ctx} {e1 e2 e3 : Expr} {x1 : α1} {x2 : α2} {x3 : α3} (o : β) (h : FMk P w K mg base j x C ps (SpIN3 C r1 r2 r3 pre names fl)) (h1 : DE X B Γ e1 r1 x1) (h2 : DE X B Γ e2 r2 x2) (h3 : DE X B Γ e3 r3 x3) (hp : pre x1 x2 x3) (hC : cls o = C := by rfl) (hf : flds o = fl x1 x2 x3 := by rfl) (hj : j + 1 ≤ k := by decide) (hg : glB sc x = true := by decide +kernel)
    (hdb : (x == ("__debug__" : Str)) = false := by decide) (s1 : starEach [e1, e2, e3] X.env = (false, eval e1 X.env) :: starEach [e2, e3] X.env := by rfl) (s2 : starEach [e2, e3] X.env = (false, eval e2 X.env) :: starEach [e3] X.env := by rfl) (s3 : starEach [e3] X.env = (false, eval e3 X.env) :: starEach [] X.env := by rfl) (hpl : (backTo pos (starEach [e2, e3] X.env)).any (·.1) = false := by rfl) :
    DN X B Γ (.Call (.Name x p) [e1, e2, e3] [] pos) (rObj cls names flds) o := c_makeN c (x1, x2, x3) h (da_cons h1 (da_cons h2 (da_cons h3 da_nil s3) s2) s1) hp hC hf hj hg hdb s1 hpl
abbrev SpIN4 {α1 α2 α3 α4 : Type} (C : Addr) (r1 : Rp α1) (r2 : Rp α2) (r3 : Rp α3) (r4 : Rp α4) (pre : α1 → α2 → α3 → α4 → Prop) (names : List Str) (fl : α1 → α2 → α3 → α4 → Ctx) : Sp := SpIN C (fun i : α1 × α2 × α3 × α4 => [.val r1 (i.1), .val r2 (i.2.1), .val r3 (i.2.2.1), .val r4 (i.2.2.2)]) (fun i => pre (i.1) (i.2.1) (i.2.2.1) (i.2.2.2)) names (fun i => fl (i.1) (i.2.1) (i.2.2.1) (i.2.2.2))
theorem fnIN4 {α1 α2 α3 α4 : Type} {r1 : Rp α1} {r2 : Rp α2} {r3 : Rp α3} {r4 : Rp α4} {pre : α1 → α2 → α3 → α4 → Prop} {names : List Str} {fl : α1 → α2 → α3 → α4 → Ctx} (T : FTk K mg x q C st ps) (S : FnScope N ps (defScope st)) (hv : locB N (defScope st) vs = true) (Γu : Ctx) (hl : ps.length = 5 := by rfl) (hu : List.replicate (N.length - ps.length) .un = Γu := by rfl)
    (body : ∀ (X : Cx) (B : Bs) (D : Ends) (x1 : α1) (x2 : α2) (x3 : α3) (x4 : α4) (xd : Addr × Addr), XC P w K mg base k N (defScope st) vs vs X → pre x1 x2 x3 x4 → (∀ σ H' Γ', EnvP B (.own (oObjN C names (fl x1 x2 x3 x4)) xd :: Γ') σ H' → D.nx σ H') → SD X B (.own (oObjN C [] []) xd :: .val r1 x1 :: .val r2 x2 :: .val r3 x3 :: .val r4 x4 :: Γu) (defBody st) D) : FMk P w K mg base (k + 1) x C ps (SpIN4 C r1 r2 r3 r4 pre names fl) :=
  fnIN (fun i xd => .own (oObjN C [] []) xd :: .val r1 (i.1) :: .val r2 (i.2.1) :: .val r3 (i.2.2.1) :: .val r4 (i.2.2.2) :: Γu) T S hv (fun _ => hl.symm) (fun i xd => by rw [hu]; rfl) (fun X B D i xd c hp hD => body X B D (i.1) (i.2.1) (i.2.2.1) (i.2.2.2) xd c hp hD)
theorem c_makeN4 (c : XC P w K mg base k N sc vs ls X) {α1 α2 α3 α4 : Type} {r1 : Rp α1} {r2 : Rp α2} {r3 : Rp α3} {r4 : Rp α4} {pre : α1 → α2 → α3 → α4 → Prop} {names : List Str} {fl : α1 → α2 → α3 → α4 → Ctx} {cls : β → Addr} {flds : β → Ctx} {e1 e2 e3 e4 : Expr} {x1 : α1} {x2 : α2} {x3 : α3} {x4 : α4} (o : β) (h : FMk P w K mg base j x C ps (SpIN4 C r1 r2 r3 r4 pre names fl)) (h1 : DE X B Γ e1 r1 x1) (h2 : DE X B Γ e2 r2 x2) (h3 : DE X B Γ e3 r3 x3) (h4 : DE X B Γ e4 r4 x4) (hp : pre x1 x2 x3 x4) (hC : cls o = C := by rfl) (hf : flds o = fl x1 x2 x3 x4 := by rfl) (hj : j + 1 ≤ k := by decide) (hg : glB sc x = true := by decide +kernel)
    (hdb : (x == ("__debug__" : Str)) = false := by decide) (s1 : starEach [e1, e2, e3, e4] X.env = (false, eval e1 X.env) :: starEach [e2, e3, e4] X.env := by rfl) (s2 : starEach [e2, e3, e4] X.env = (false, eval e2 X.env) :: starEach [e3, e4] X.env := by rfl) (s3 : starEach [e3, e4] X.env = (false, eval e3 X.env) :: starEach [e4] X.env := by rfl) (s4 : starEach [e4] X.env = (false, eval e4 X.env) :: starEach [] X.env := by rfl) (hpl : (backTo pos (starEach [e2, e3, e4] X.env)).any (·.1) = false := by rfl) :
    DN X B Γ (.Call (.Name x p) [e1, e2, e3, e4] [] pos) (rObj cls names flds) o := c_makeN c (x1, x2, x3, x4) h (da_cons h1 (da_cons h2 (da_cons h3 (da_cons h4 da_nil s4) s3) s2) s1) hp hC hf hj hg hdb s1 hpl
abbrev SpIN5 {α1 α2 α3 α4 α5 : Type} (C : Addr) (r1 : Rp α1) (r2 : Rp α2) (r3 : Rp α3) (r4 : Rp α4) (r5 : Rp α5) (pre : α1 → α2 → α3 → α4 → α5 → Prop) (names : List Str) (fl : α1 → α2 → α3 → α4 → α5 → Ctx) : Sp := SpIN C (fun i : α1 × α2 × α3 × α4 × α5 => [.val r1 (i.1), .val r2 (i.2.1), .val r3 (i.2.2.1), .val r4 (i.2.2.2.1), .val r5 (i.2.2.2.2)]) (fun i => pre (i.1) (i.2.1) (i.2.2.1) (i.2.2.2.1) (i.2.2.2.2)) names (fun i => fl (i.1) (i.2.1) (i.2.2.1) (i.2.2.2.1) (i.2.2.2.2))
theorem fnIN5 {α1 α2 α3 α4 α5 : Type} {r1 : Rp α1} {r2 : Rp α2} {r3 : Rp α3} {r4 : Rp α4} {r5 : Rp α5} {pre : α1 → α2 → α3 → α4 → α5 → Prop} {names : List Str} {fl : α1 → α2 → α3 → α4 → α5 → Ctx} (T : FTk K mg x q C st ps) (S : FnScope N ps (defScope st)) (hv : locB N (defScope st) vs = true) (Γu : Ctx) (hl : ps.length = 6 := by rfl) (hu : List.replicate (N.length - ps.length) .un = Γu := by rfl)
    (body : ∀ (X : Cx) (B : Bs) (D : Ends) (x1 : α1) (x2 : α2) (x3 : α3) (x4 : α4) (x5 : α5) (xd : Addr × Addr), XC P w K mg base k N (defScope st) vs vs X → pre x1 x2 x3 x4 x5 → (∀ σ H' Γ', EnvP B (.own (oObjN C names (fl x1 x2 x3 x4 x5)) xd :: Γ') σ H' → D.nx σ H') → SD X B (.own (oObjN C [] []) xd :: .val r1 x1 :: .val r2 x2 :: .val r3 x3 :: .val r4 x4 :: .val r5 x5 :: Γu) (defBody st) D) : FMk P w K mg base (k + 1) x C ps (SpIN5 C r1 r2 r3 r4 r5 pre names fl) :=
  fnIN (fun i xd => .own (oObjN C [] []) xd :: .val r1 (i.1) :: .val r2 (i.2.1) :: .val r3 (i.2.2.1) :: .val r4 (i.2.2.2.1) :: .val r5 (i.2.2.2.2) :: Γu) T S hv (fun _ => hl.symm) (fun i xd => by rw [hu]; rfl) (fun X B D i xd c hp hD => body X B D (i.1) (i.2.1) (i.2.2.1) (i.2.2.2.1) (i.2.2.2.2) xd c hp hD)
theorem c_makeN5 (c : XC P w K mg base k N sc vs ls X) {α1 α2 α3 α4 α5 : Type} {r1 : Rp α1} {r2 : Rp α2} {r3 : Rp α3} {r4 : Rp α4} {r5 : Rp α5} {pre : α1 → α2 → α3 → α4 → α5 → Prop} {names : List Str} {fl : α1 → α2 → α3 → α4 → α5 → Ctx} {cls : β → Addr} {flds : β → Ctx} {e1 e2 e3 e4 e5 : Expr} {x1 : α1} {x2 : α2} {x3 : α3} {x4 : α4} {x5 : α5} (o : β) (h : FMk P w K mg base j x C ps (SpIN5 C r1 r2 r3 r4 r5 pre names fl)) (h1 : DE X B Γ e1 r1 x1) (h2 : DE X B Γ e2 r2 x2) (h3 : DE X B Γ e3 r3 x3) (h4 : DE X B Γ e4 r4 x4) (h5 : DE X B Γ e5 r5 x5) (hp : pre x1 x2 x3 x4 x5) (hC : cls o = C := by rfl) (hf : flds o = fl x1 x2 x3 x4 x5 := by rfl) (hj : j + 1 ≤ k := by decide) (hg : glB sc x = true := by decide +kernel)
    (hdb : (x == ("__debug__" : Str)) = false := by decide) (s1 : starEach [e1, e2, e3, e4, e5] X.env = (false, eval e1 X.env) :: starEach [e2, e3, e4, e5] X.env := by rfl) (s2 : starEach [e2, e3, e4, e5] X.env = (false, eval e2 X.env) :: starEach [e3, e4, e5] X.env := by rfl) (s3 : starEach [e3, e4, e5] X.env = (false, eval e3 X.env) :: starEach [e4, e5] X.env := by rfl) (s4 : starEach [e4, e5] X.env = (false, eval e4 X.env) :: starEach [e5] X.env := by rfl) (s5 : starEach [e5] X.env = (false, eval e5 X.env) :: starEach [] X.env := by rfl) (hpl : (backTo pos (starEach [e2, e3, e4, e5] X.env)).any (·.1) = false := by rfl) :
    DN X B Γ (.Call (.Name x p) [e1, e2, e3, e4, e5] [] pos) (rObj cls names flds) o := c_makeN c (x1, x2, x3, x4, x5) h (da_cons h1 (da_cons h2 (da_cons h3 (da_cons h4 (da_cons h5 da_nil s5) s4) s3) s2) s1) hp hC hf hj hg hdb s1 hpl
abbrev SpIN6 {α1 α2 α3 α4 α5 α6 : Type} (C : Addr) (r1 : Rp α1) (r2 : Rp α2) (r3 : Rp α3) (r4 : Rp α4) (r5 : Rp α5) (r6 : Rp α6) (pre : α1 → α2 → α3 → α4 → α5 → α6 → Prop) (names : List Str) (fl : α1 → α2 → α3 → α4 → α5 → α6 → Ctx) : Sp := SpIN C (fun i : α1 × α2 × α3 × α4 × α5 × α6 => [.val r1 (i.1), .val r2 (i.2.1), .val r3 (i.2.2.1), .val r4 (i.2.2.2.1), .val r5 (i.2.2.2.2.1), .val r6 (i.2.2.2.2.2)]) (fun i => pre (i.1) (i.2.1) (i.2.2.1) (i.2.2.2.1) (i.2.2.2.2.1) (i.2.2.2.2.2)) names (fun i => fl (i.1) (i.2.1) (i.2.2.1) (i.2.2.2.1) (i.2.2.2.2.1) (i.2.2.2.2.2))
theorem fnIN6 {α1 α2 α3 α4 α5 α6 : Type} {r1 : Rp α1} {r2 : Rp α2} {r3 : Rp α3} {r4 : Rp α4} {r5 : Rp α5} {r6 : Rp α6} {pre : α1 → α2 → α3 → α4 → α5 → α6 → Prop} {names : List Str} {fl : α1 → α2 → α3 → α4 → α5 → α6 → Ctx} (T : FTk K mg x q C st ps) (S : FnScope N ps (defScope st)) (hv : locB N (defScope st) vs = true) (Γu : Ctx) (hl : ps.length = 7 := by rfl) (hu : List.replicate (N.length - ps.length) .un = Γu := by rfl)
    (body : ∀ (X : Cx) (B : Bs) (D : Ends) (x1 : α1) (x2 : α2) (x3 : α3) (x4 : α4) (x5 : α5) (x6 : α6) (xd : Addr × Addr), XC P w K mg base k N (defScope st) vs vs X → pre x1 x2 x3 x4 x5 x6 → (∀ σ H' Γ', EnvP B (.own (oObjN C names (fl x1 x2 x3 x4 x5 x6)) xd :: Γ') σ H' → D.nx σ H') → SD X B (.own (oObjN C [] []) xd :: .val r1 x1 :: .val r2 x2 :: .val r3 x3 :: .val r4 x4 :: .val r5 x5 :: .val r6 x6 :: Γu) (defBody st) D) : FMk P w K mg base (k + 1) x C ps (SpIN6 C r1 r2 r3 r4 r5 r6 pre names fl) :=
  fnIN (fun i xd => .own (oObjN C [] []) xd :: .val r1 (i.1) :: .val r2 (i.2.1) :: .val r3 (i.2.2.1) :: .val r4 (i.2.2.2.1) :: .val r5 (i.2.2.2.2.1) :: .val r6 (i.2.2.2.2.2) :: Γu) T S hv (fun _ => hl.symm) (fun i xd => by rw [hu]; rfl) (fun X B D i xd c hp hD => body X B D (i.1) (i.2.1) (i.2.2.1) (i.2.2.2.1) (i.2.2.2.2.1) (i.2.2.2.2.2) xd c hp hD)
theorem c_makeN6 (c : XC P w K mg base k N sc vs ls X) {α1 α2 α3 α4 α5 α6 : Type} {r1 : Rp α1} {r2 : Rp α2} {r3 : Rp α3} {r4 : Rp α4} {r5 : Rp α5} {r6 : Rp α6} {pre : α1 → α2 → α3 → α4 → α5 → α6 → Prop} {names : List Str} {fl : α1 → α2 → α3 → α4 → α5 → α6 → Ctx} {cls : β → Addr} {flds : β → Ctx} {e1 e2 e3 e4 e5 e6 : Expr} {x1 : α1} {x2 : α2} {x3 : α3} {x4 : α4} {x5 : α5} {x6 : α6} (o : β) (h : FMk P w K mg base j x C ps (SpIN6 C r1 r2 r3 r4 r5 r6 pre names fl)) (h1 : DE X B Γ e1 r1 x1) (h2 : DE X B Γ e2 r2 x2) (h3 : DE X B Γ e3 r3 x3) (h4 : DE X B Γ e4 r4 x4) (h5 : DE X B Γ e5 r5 x5) (h6 : DE X B Γ e6 r6 x6) (hp : pre x1 x2 x3 x4 x5 x6) (hC : cls o = C := by rfl) (hf : flds o = fl x1 x2 x3 x4 x5 x6 := by rfl) (hj : j + 1 ≤ k := by decide) (hg : glB sc x = true := by decide +kernel)
    (hdb : (x == ("__debug__" : Str)) = false := by decide) (s1 : starEach [e1, e2, e3, e4, e5, e6] X.env = (false, eval e1 X.env) :: starEach [e2, e3, e4, e5, e6] X.env := by rfl) (s2 : starEach [e2, e3, e4, e5, e6] X.env = (false, eval e2 X.env) :: starEach [e3, e4, e5, e6] X.env := by rfl) (s3 : starEach [e3, e4, e5, e6] X.env = (false, eval e3 X.env) :: starEach [e4, e5, e6] X.env := by rfl) (s4 : starEach [e4, e5, e6] X.env = (false, eval e4 X.env) :: starEach [e5, e6] X.env := by rfl) (s5 : starEach [e5, e6] X.env = (false, eval e5 X.env) :: starEach [e6] X.env := by rfl) (s6 : starEach [e6] X.env = (false, eval e6 X.env) :: starEach [] X.env := by rfl) (hpl : (backTo pos (starEach [e2, e3, e4, e5, e6] X.env)).any (·.1) = false := by rfl) :
    DN X B Γ (.Call (.Name x p) [e1, e2, e3, e4, e5, e6] [] pos) (rObj cls names flds) o := c_makeN c (x1, x2, x3, x4, x5, x6) h (da_cons h1 (da_cons h2 (da_cons h3 (da_cons h4 (da_cons h5 (da_cons h6 da_nil s6) s5) s4) s3) s2) s1) hp hC hf hj hg hdb s1 hpl
abbrev SpIN7 {α1 α2 α3 α4 α5 α6 α7 : Type} (C : Addr) (r1 : Rp α1) (r2 : Rp α2) (r3 : Rp α3) (r4 : Rp α4) (r5 : Rp α5) (r6 : Rp α6) (r7 : Rp α7) (pre : α1 → α2 → α3 → α4 → α5 → α6 → α7 → Prop) (names : List Str) (fl : α1 → α2 → α3 → α4 → α5 → α6 → α7 → Ctx) : Sp := SpIN C (fun i : α1 × α2 × α3 × α4 × α5 × α6 × α7 => [.val r1 (i.1), .val r2 (i.2.1), .val r3 (i.2.2.1), .val r4 (i.2.2.2.1), .val r5 (i.2.2.2.2.1), .val r6 (i.2.2.2.2.2.1), .val r7 (i.2.2.2.2.2.2)]) (fun i => pre (i.1) (i.2.1) (i.2.2.1) (i.2.2.2.1) (i.2.2.2.2.1) (i.2.2.2.2.2.1) (i.2.2.2.2.2.2)) names (fun i => fl (i.1) (i.2.1) (i.2.2.1) (i.2.2.2.1) (i.2.2.2.2.1) (i.2.2.2.2.2.1) (i.2.2.2.2.2.2))
theorem fnIN7 {α1 α2 α3 α4 α5 α6 α7 : Type} {r1 : Rp α1} {r2 : Rp α2} {r3 : Rp α3} {r4 : Rp α4} {r5 : Rp α5} {r6 : Rp α6} {r7 : Rp α7} {pre : α1 → α2 → α3 → α4 → α5 → α6 → α7 → Prop} {names : List Str} {fl : α1 → α2 → α3 → α4 → α5 → α6 → α7 → Ctx} (T : FTk K mg x q C st ps) (S : FnScope N ps (defScope st)) (hv : locB N (defScope st) vs = true) (Γu : Ctx) (hl : ps.length = 8 := by rfl) (hu : List.replicate (N.length - ps.length) .un = Γu := by rfl)
    (body : ∀ (X : Cx) (B : Bs) (D : Ends) (x1 : α1) (x2 : α2) (x3 : α3) (x4 : α4) (x5 : α5) (x6 : α6) (x7 : α7) (xd : Addr × Addr), XC P w K mg base k N (defScope st) vs vs X → pre x1 x2 x3 x4 x5 x6 x7 → (∀ σ H' Γ', EnvP B (.own (oObjN C names (fl x1 x2 x3 x4 x5 x6 x7)) xd :: Γ') σ H' → D.nx σ H') → SD X B (.own (oObjN C [] []) xd :: .val r1 x1 :: .val r2 x2 :: .val r3 x3 :: .val r4 x4 :: .val r5 x5 :: .val r6 x6 :: .val r7 x7 :: Γu) (defBody st) D) : FMk P w K mg base (k + 1) x C ps (SpIN7 C r1 r2 r3 r4 r5 r6 r7 pre names fl) :=
  fnIN (fun i xd => .own (oObjN C [] []) xd :: .val r1 (i.1) :: .val r2 (i.2.1) :: .val r3 (i.2.2.1) :: .val r4 (i.2.2.2.1) :: .val r5 (i.2.2.2.2.1) :: .val r6 (i.2.2.2.2.2.1) :: .val r7 (i.2.2.2.2.2.2) :: Γu) T S hv (fun _ => hl.symm) (fun i xd => by rw [hu]; rfl) (fun X B D i xd c hp hD => body X B D (i.1) (i.2.1) (i.2.2.1) (i.2.2.2.1) (i.2.2.2.2.1) (i.2.2.2.2.2.1) (i.2.2.2.2.2.2) xd c hp hD)
theorem c_makeN7 (c : XC P w K mg base k N sc vs ls X) {α1 α2 α3 α4 α5 α6 α7 : Type} {r1 : Rp α1} {r2 : Rp α2} {r3 : Rp α3} {r4 : Rp α4} {r5 : Rp α5} {r6 : Rp α6} {r7 : Rp α7} {pre : α1 → α2 → α3 → α4 → α5 → α6 → α7 → Prop} {names : List Str} {fl : α1 → α2 → α3 → α4 → α5 → α6 → α7 → Ctx} {cls : β → Addr} {flds : β → Ctx} {e1 e2 e3 e4 e5 e6 e7 : Expr} {x1 : α1} {x2 : α2} {x3 : α3} {x4 : α4} {x5 : α5} {x6 : α6} {x7 : α7} (o : β) (h : FMk P w K mg base j x C ps (SpIN7 C r1 r2 r3 r4 r5 r6 r7 pre names fl)) (h1 : DE X B Γ e1 r1 x1) (h2 : DE X B Γ e2 r2 x2) (h3 : DE X B Γ e3 r3 x3) (h4 : DE X B Γ e4 r4 x4) (h5 : DE X B Γ e5 r5 x5) (h6 : DE X B Γ e6 r6 x6) (h7 : DE X B Γ e7 r7 x7) (hp : pre x1 x2 x3 x4 x5 x6 x7) (hC : cls o = C := by rfl) (hf : flds o = fl x1 x2 x3 x4 x5 x6 x7 := by rfl) (hj : j + 1 ≤ k := by decide) (hg : glB sc x = true := by decide +kernel)
    (hdb : (x == ("__debug__" : Str)) = false := by decide) (s1 : starEach [e1, e2, e3, e4, e5, e6, e7] X.env = (false, eval e1 X.env) :: starEach [e2, e3, e4, e5, e6, e7] X.env := by rfl) (s2 : starEach [e2, e3, e4, e5, e6, e7] X.env = (false, eval e2 X.env) :: starEach [e3, e4, e5, e6, e7] X.env := by rfl) (s3 : starEach [e3, e4, e5, e6, e7] X.env = (false, eval e3 X.env) :: starEach [e4, e5, e6, e7] X.env := by rfl) (s4 : starEach [e4, e5, e6, e7] X.env = (false, eval e4 X.env) :: starEach [e5, e6, e7] X.env := by rfl) (s5 : starEach [e5, e6, e7] X.env = (false, eval e5 X.env) :: starEach [e6, e7] X.env := by rfl) (s6 : starEach [e6, e7] X.env = (false, eval e6 X.env) :: starEach [e7] X.env := by rfl) (s7 : starEach [e7] X.env = (false, eval e7 X.env) :: starEach [] X.env := by rfl) (hpl : (backTo pos (starEach [e2, e3, e4, e5, e6, e7] X.env)).any (·.1) = false := by rfl) :
    DN X B Γ (.Call (.Name x p) [e1, e2, e3, e4, e5, e6, e7] [] pos) (rObj cls names flds) o := c_makeN c (x1, x2, x3, x4, x5, x6, x7) h (da_cons h1 (da_cons h2 (da_cons h3 (da_cons h4 (da_cons h5 (da_cons h6 (da_cons h7 da_nil s7) s6) s5) s4) s3) s2) s1) hp hC hf hj hg hdb s1 hpl
end
end DL
namespace DL
open PySem L2 PySem.Spec PyProof.Rows
section
variable {P : Program} {w : World} {K : PySem.W.Frag} {mg : Str → Option Value} {base : Heap} {k j : Nat} {N : List Str} {sc : Scope} {vs ls : List Nat} {X : Cx} {α β γ ι ρ : Type} {B : Bs} {Γ Γ' : Ctx} {e a b : Expr} {es : List Expr} {D : Ends} {rest ss : List Stmt} {p pos apos : Pos} {x y f m : Str}
theorem c_par2 (c : XC P w K mg base k N sc vs ls X) (i j : Nat) {e1 e2 : Expr} {px py pt pt2 : Pos} {kt k2 : Nat} {s1 : α → Sl} {s2 : β → Sl} {v1 : α} {v2 : β} {Γ1 : α → Ctx} {Γ2 : α → β → Ctx} (h1 : VE X B Γ e1 (s1 v1)) (h2 : VE X B Γ e2 (s2 v2)) (t1 : ∀ a, To Γ i (s1 a) (Γ1 a)) (t2 : ∀ a b, To (Γ1 a) j (s2 b) (Γ2 a b))
    (hr : ∀ a b, a = v1 → b = v2 → SD X B (Γ2 a b) rest D) (hij : i ≠ j := by decide) (hN : N[i]? = some x := by rfl) (hN2 : N[j]? = some y := by rfl)
    (hx : (match sc.names.lookup x with | some .local => true | _ => false) = true := by decide +kernel) (hy : (match sc.names.lookup y with | some .local => true | _ => false) = true := by decide +kernel)
    (hline : (py.line == px.line) = true := by rfl) (hne : (y == x) = false := by decide +kernel)
    (w1 : (([e1, e2] : List Expr).any fun | .Starred .. => true | _ => false) = false := by rfl) (w2 : ([e1, e2] : List Expr).all (foldedForSure 8) = false := by rfl) (w3 : ([e1, e2] : List Expr).all (constantsAlone 8) = false := by rfl)
    (hs : swapsWithSole [.Tuple [.Name x px, .Name y py] kt pt] (.Tuple [e1, e2] k2 pt2) pos.line X.env = pure false := by rfl)
    (hs1 : starEach [e1, e2] X.env = (false, eval e1 X.env) :: starEach [e2] X.env := by rfl) (hs2 : starEach [e2] X.env = (false, eval e2 X.env) :: starEach [] X.env := by rfl) :
    SD X B Γ (.Assign [.Tuple [.Name x px, .Name y py] kt pt] (.Tuple [e1, e2] k2 pt2) pos :: rest) D :=
  c_par c i j (va_cons h1 (t1 v1) (va_cons h2 (t2 v1 v2) va_nil hs2) hs1) (hr v1 v2 rfl rfl) hij hN hN2 hx hy hline hne w1 w2 w3 hs
theorem sw_none2 {env : PySem.Env} {x y : Str} {px py pt pt2 : Pos} {kt k2 : Nat} {e1 e2 : Expr} (hk : env.scope.kind = .function) (hc : (match env.scope.names.lookup x, env.scope.names.lookup y with | some .local, some .local => false | _, _ => true) = true)
    (h1 : (([e1, e2] : List Expr).any fun | .Starred .. => true | _ => false) = false) :
    swappedStores [.Tuple [.Name x px, .Name y py] kt pt] (.Tuple [e1, e2] k2 pt2) env = pure none := by
  have hb : env.blockKind = .function := by unfold Env.blockKind; rw [hk]; rfl
  have hc' : (match env.kindOf x, env.kindOf y with | some .local, some .local => false | _, _ => true) = true := hc
  have hn : ¬ (env.kindOf x = some .local ∧ env.kindOf y = some .local) := fun h => by rw [h.1, h.2] at hc'; cases hc'
  unfold swappedStores
  simp only [List.any_cons, List.any_nil, Bool.or_false, Bool.or_eq_false_iff] at h1
  by_cases hx : env.kindOf x = some .local
  · have hy : ¬ env.kindOf y = some .local := fun h => hn ⟨hx, h⟩
    simp [hb, hx, hy, Expr.pos, List.filterMap_cons]
  · by_cases hy : env.kindOf y = some .local
    · by_cases hl : py.line = px.line
      · simp [hb, hx, hy, hl, Expr.pos, List.filterMap_cons]
      · simp [hb, hx, hy, hl, Expr.pos, List.filterMap_cons]
    · simp [hb, hx, hy, Expr.pos, List.filterMap_cons]
/-- the same by a tuple that is made (a name is captured) -/
theorem c_parT2 (c : XC P w K mg base k N sc vs ls X) (i j : Nat) {e1 e2 : Expr} {px py pt pt2 : Pos} {kt k2 : Nat} {s1 : α → Sl} {s2 : β → Sl} {v1 : α} {v2 : β} {Γ1 : α → Ctx} {Γ2 : α → β → Ctx} (h1 : VE X B Γ e1 (s1 v1)) (h2 : VE X B Γ e2 (s2 v2)) (t1 : ∀ a, To Γ i (s1 a) (Γ1 a)) (t2 : ∀ a b, To (Γ1 a) j (s2 b) (Γ2 a b))
    (hr : ∀ a b, a = v1 → b = v2 → SD X B (Γ2 a b) rest D) (hN : N[i]? = some x := by rfl) (hN2 : N[j]? = some y := by rfl) (hl : ls.contains i = true := by rfl) (hl2 : ls.contains j = true := by rfl)
    (hcell : (match sc.names.lookup x, sc.names.lookup y with | some .local, some .local => false | _, _ => true) = true := by decide +kernel)
    (hs : swapsWithSole [.Tuple [.Name x px, .Name y py] kt pt] (.Tuple [e1, e2] k2 pt2) pos.line X.env = pure false := by rfl)
    (w1 : (([e1, e2] : List Expr).any fun | .Starred .. => true | _ => false) = false := by rfl)
    (hs1 : starEach [e1, e2] X.env = (false, eval e1 X.env) :: starEach [e2] X.env := by rfl) (hs2 : starEach [e2] X.env = (false, eval e2 X.env) :: starEach [] X.env := by rfl) :
    SD X B Γ (.Assign [.Tuple [.Name x px, .Name y py] kt pt] (.Tuple [e1, e2] k2 pt2) pos :: rest) D := by
  have hN' : X.N[i]? = some x := by rw [c.N]; exact hN
  have hN2' : X.N[j]? = some y := by rw [c.N]; exact hN2
  refine sd_cons (ps_asg (pe_tup (va_cons h1 (t1 v1) (va_cons h2 (t2 v1 v2) va_nil hs2) hs1)) (pg_tup c.calm (pgs_cons (pg_name (i := i) c.nd hN' (c.loc i x hN' hl).1 (c.loc i x hN' hl).2) (pgs_cons (pg_name (i := j) c.nd hN2' (c.loc j y hN2' hl2).1 (c.loc j y hN2' hl2).2) pgs_nil))) hs (sw_none2 c.kind (by rw [c.sc]; exact hcell) w1))
    (fun D' l σ H ⟨F, en⟩ => ⟨F, σ, en, en, fun us F' H' e1 en1 hl => ?_⟩) (hr v1 v2 rfl rfl)
  match us, hl with
  | [u, v], _ =>
    refine ⟨by show 2 ≤ sizeLine; decide, fun q hq => ?_⟩
    have e2 := Ext.new en1.same (.tup [u, v]) hq
    exact ⟨q, _, rfl, SqT.of upd_same, rfl, u, _, rfl, v, _, rfl, rfl, l.nx _ _ ⟨_, en1.ext e2⟩⟩
theorem c_gintE (c : XC P w K mg base k N sc vs ls X) {i : Int} (h : ∃ t, mg x = some (.int i t)) (hg : glB sc x = true := by decide +kernel) (hd : (x == ("__debug__" : Str)) = false := by decide) : DE X B Γ (.Name x pos) rInt i :=
  let ⟨t, ht⟩ := h; c_gint c ht ⟨t, rfl⟩ hg hd
theorem c_gstrE (c : XC P w K mg base k N sc vs ls X) {s : Str} {t : Txt} (h : ∃ u, mg x = some (.str s u)) (hs : s = tx t) (ok : okT t = true) (hg : glB sc x = true := by decide +kernel) (hd : (x == ("__debug__" : Str)) = false := by decide) : DE X B Γ (.Name x pos) rTxt t :=
  let ⟨u, hu⟩ := h; c_gstr c hu ⟨u, rfl⟩ hs ok hg hd
/-- e is f of truths -/
theorem c_isB (c : XC P w K mg base k N sc vs ls X) {y z : Bool} (ha : DE X B Γ a rBool y) (hb : DE X B Γ b rBool z) : DC X B Γ (.Compare a [.Is] [b] pos) (decide (y = z)) :=
  dc_cmp (ra := rBool) (rb := rBool) op_is_bl (fun F H u v s h1 h2 Q q => ⟨y, z, h1, h2, q _ F H (Ext.refl s) rfl⟩) (nomark _) ha hb
theorem c_nisB (c : XC P w K mg base k N sc vs ls X) {y z : Bool} (ha : DE X B Γ a rBool y) (hb : DE X B Γ b rBool z) : DC X B Γ (.Compare a [.IsNot] [b] pos) (!decide (y = z)) :=
  dc_cmp (ra := rBool) (rb := rBool) op_isnot_bl (fun F H u v s h1 h2 Q q => ⟨y, z, h1, h2, q _ F H (Ext.refl s) rfl⟩) (nomark _) ha hb
end
theorem kit_sub {K : PySem.W.Frag} {C C' : Addr} {b : Bool} (h1 : PySem.W.isClsIn K C' = true) (h2 : PySem.W.typeIn K (.ref C') = some (.type "type")) (h3 : PySem.W.subIn K (.ref C) (.ref C') = some b) (h4 : PySem.W.subIn K (.ref C) (.ref C) = some true) : PySem.W.kitOne K (.ref C) (.ref C') = some b := by
  unfold PySem.W.kitOne
  by_cases h : C = C'
  · subst h
    rw [h4] at h3
    rw [if_pos (by simp)]
    exact h3
  · rw [if_neg (by simpa using h)]
    show (if ((PySem.W.clsIn K C').isSome && PySem.W.typeIn K (.ref C') == some (.type "type")) = true then _ else _) = _
    have h1' : (PySem.W.clsIn K C').isSome = true := h1
    rw [if_pos (by rw [h1', h2]; rfl)]
    exact h3
/-! ### the law -/
def spLaw (K : PySem.W.Frag) : Sp := fun vs H Q _ => ∃ (a : Addr) (ns : List Int), vs = [.ref a] ∧ SqL K H a (ns.map V.int) ∧ ns.length ≤ 63 ∧ ∀ H', Q (.bl true) H'
theorem law_of {P : Program} {w : World} {K : PySem.W.Frag} {mg : Str → Option Value} {base : Heap} {j : Nat} {fa : Addr} {x : Str} (hfa : mg "law" = some (.ref fa)) (h : FN P w K mg base CX0 j "law" [x] (SpF1 (rScr K) (fun ns => ns.length ≤ 63) rBool (fun _ => true))) :
    ∃ fd, FnOk P w K mg base CX0 j fa fd [x] (spLaw K) := by
  obtain ⟨fa', fd, G, h1, _, _⟩ := h
  rw [hfa] at h1
  cases h1
  refine ⟨fd, G.imp fun vs H Q E ⟨a, ns, hv, hs, hl, q⟩ => ?_⟩
  subst hv
  exact ⟨H, ns, Same.refl H, ⟨⟨a, rfl, hs⟩, trivial⟩, hl, fun v F' H' _ hv => by rw [show v = V.bl true from hv]; exact q H'⟩
theorem law_is {P : Program} {w : World} {K : PySem.W.Frag} {mg : Str → Option Value} {base : Heap} {j : Nat} {fa : Addr} {x : Str} {o : Value} {od : Option Addr} {fd : FuncData} {sl : Array (Option Value)} (hfa : mg "law" = some (.ref fa)) (l : K.lookup fa = some ⟨o, od, .func fd, sl⟩)
    (h : FN P w K mg base CX0 j "law" [x] (SpF1 (rScr K) (fun ns => ns.length ≤ 63) rBool (fun _ => true))) : FnOk P w K mg base CX0 j fa fd [x] (spLaw K) := by
  obtain ⟨fa', fd', G, h1, _, _, o', od', sl', h2⟩ := h
  rw [hfa] at h1
  cases h1
  rw [l] at h2
  cases h2
  exact G.imp fun vs H Q E ⟨a, ns, hv, hs, hl, q⟩ => by
    subst hv
    exact ⟨H, ns, Same.refl H, ⟨⟨a, rfl, hs⟩, trivial⟩, hl, fun v F' H' _ hv => by rw [show v = V.bl true from hv]; exact q H'⟩
/-- a weaker promise -/
theorem SpF.imp {ι ρ : Type} {args : ι → Ctx} {pre pre' : ι → Prop} {rr : Rp ρ} {f f' : ι → ρ} (h : ∀ i, pre' i → pre i ∧ f i = f' i) : ∀ vs H Q E, SpF args pre' rr f' vs H Q E → SpF args pre rr f vs H Q E :=
  fun vs H Q E ⟨F, i, s, a, p, q⟩ => ⟨F, i, s, a, (h i p).1, fun v F' H' e r => q v F' H' e (by rw [← (h i p).2]; exact r)⟩
end DL
namespace DL
open PySem L2 PySem.Spec PyProof.Rows
/-- how many unlike ones -/
def disR : List Str → Nat
  | [] => 0
  | x :: r => if r.any (· == x) = true then disR r else disR r + 1
def dis (l : List Str) : Nat := disR l.reverse
theorem disR_le : ∀ l : List Str, disR l ≤ l.length
  | [] => Nat.le_refl _
  | x :: r => by
    have := disR_le r
    unfold disR
    split <;> simp <;> omega
theorem dis_le (l : List Str) : dis l ≤ l.length := by have := disR_le l.reverse; unfold dis; simpa using this
theorem dis_snoc (l : List Str) (x : Str) : dis (l ++ [x]) = if l.any (· == x) = true then dis l else dis l + 1 := by
  unfold dis
  rw [List.reverse_append]
  show (if l.reverse.any (· == x) = true then disR l.reverse else disR l.reverse + 1) = _
  rw [List.any_reverse]
theorem dis_nodup {l : List Str} (h : l.Nodup) : dis l = l.length := by
  have : ∀ m : List Str, m.Nodup → disR m = m.length := fun m hm => by
    induction m with
    | nil => rfl
    | cons x r ih =>
      have hx := List.nodup_cons.mp hm
      unfold disR
      rw [if_neg (by
        intro z
        obtain ⟨y, hy, e⟩ := List.any_eq_true.mp z
        exact hx.1 (by rw [← eq_of_beq e]; exact hy)), ih hx.2]
      rfl
  unfold dis
  rw [this _ (List.pairwise_reverse.mpr (h.imp Ne.symm)), List.length_reverse]
section
variable {prog : Program} {w : World} {A : Around} {R : Result → Shared → Prop} {I : Addr} {fp wr : List Addr} {G : Array GenState → Array GenState → Prop} {n : Nat} {P : Nat → Value → Prop} {St : Nat → Shared → Prop}
theorem loopG (W : WalksS prog w A.in1 I fp wr G n P St) (S : Addr) (hSf : S ∉ fp) (xs : List Str) (hsz : xs.length = n) (hn1 : n + 2 < scanBound)
    (hval : ∀ i v, P i v → ∃ t, v = .str (xs.getD i Str.empty) t) :
    ∀ (k i : Nat) (s : Shared), n - i = k → i ≤ n → St i s →
      s.heap.SetOf (PySem.strKind prog w) S (fun k' => (xs.take i).any (· == k')) (dis (xs.take i)) →
      (∀ s', Moved (S :: wr) G s s' → s'.heap.SetOf (PySem.strKind prog w) S (fun k' => (xs.take n).any (· == k')) (dis (xs.take n)) → R (.ok (.ret .none)) s') →
      codeAny (model prog w) A (.builtin "set.update.loop" ⟨[.ref S, .ref I], []⟩) R s := by
  have hSw : S ∉ wr := fun h => hSf (W.sub _ h)
  have hsub : ∀ b ∈ wr, b ∈ S :: wr := fun b hb => List.mem_cons_of_mem _ hb
  intro k
  induction k with
  | zero =>
    intro i s hk hi hst hS hR
    have hin : i = n := by omega
    subst hin
    refine codeAny_builtin PyProof.Rows.F.entry_set_update_loop ?_
    rw [Around.under_plainId PyProof.Rows.F.plain_set_update_loop _]
    show wpAny _ A.in1 (pyNext (.ref I) >>= _) _ _ s
    refine wpAny_bind (W.done s _ _ hst fun s' hm => ?_)
    show wpAny _ A.in1 (ret Value.none) _ _ s'
    exact wpAny_pure (hR s' (hm.mono hsub) (by
      obtain ⟨o, es, ep, t, ho, rest⟩ := hS
      exact ⟨o, es, ep, t, hm.heap S _ hSw ho, rest⟩))
  | succ k ih =>
    intro i s hk hi hst hS hR
    have hlt : i < n := by omega
    refine codeAny_builtin PyProof.Rows.F.entry_set_update_loop ?_
    rw [Around.under_plainId PyProof.Rows.F.plain_set_update_loop _]
    show wpAny _ A.in1 (pyNext (.ref I) >>= _) _ _ s
    refine wpAny_bind (W.item i s _ _ hlt hst fun v s' hP hst' hm => ?_)
    obtain ⟨t, rfl⟩ := hval i v hP
    have hS' : s'.heap.SetOf (PySem.strKind prog w) S (fun k' => (xs.take i).any (· == k')) (dis (xs.take i)) := by
      obtain ⟨o, es, ep, tb, ho, rest⟩ := hS
      exact ⟨o, es, ep, tb, hm.heap S _ hSw ho, rest⟩
    show wpAny _ A.in1 (holding [Value.str (xs.getD i Str.empty) t] (setAdd S (.str (xs.getD i Str.empty) t)) >>= _) _ _ s'
    refine wpAny_bind (wpAny_holding ?_)
    unfold setAdd
    refine wpAny_holding ?_
    refine wpAny_bind ((PySem.strKind prog w).pyHash (k := xs.getD i Str.empty) (strKind_is _ _ _ _) ?_)
    have hdl : dis (xs.take i) ≤ i := Nat.le_trans (dis_le _) (by rw [List.length_take]; omega)
    have hnx : xs.take (i + 1) = xs.take i ++ [xs.getD i Str.empty] := by
      rw [List.take_add_one, List.getElem?_eq_getElem (by omega)]
      simp [List.getD, List.getElem?_eq_getElem (show i < xs.length by omega)]
    refine wpAny_setAddHashed_of (knd := PySem.strKind prog w) (s := { s' with toks := s'.toks + 1 }) (strKind_is _ _ _ _) rfl hS' (by omega) fun h' hsb hS2 => ?_
    have hSi : h'.SetOf (PySem.strKind prog w) S (fun k' => (xs.take (i + 1)).any (· == k')) (dis (xs.take (i + 1))) := by
      refine SetOf_congr hS2 (fun k' => ?_) ?_
      · rw [hnx, List.any_append]
        congr 1
        show decide (k' = xs.getD i Str.empty) = ((xs.getD i Str.empty == k') || false)
        rw [Bool.or_false]
        by_cases e : k' = xs.getD i Str.empty
        · rw [e]; simp
        · have hb : (xs.getD i Str.empty == k') = false := by
            cases z : (xs.getD i Str.empty == k') with
            | false => rfl
            | true => exact absurd (eq_of_beq z).symm e
          rw [hb]; exact decide_eq_false e
      · rw [hnx, dis_snoc]
    refine wpAny_pure ⟨plainId_quiet PyProof.Rows.F.plain_set_update_loop _, ih (i + 1) _ (by omega) hlt (W.frame _ s' _ _ hst' (Nat.le_succ _) fun b hb o e => ?_) hSi fun s'' hm'' hS'' => ?_⟩
    · rw [hsb.2 b (fun h : b = S => hSf (by rw [← h]; exact hb))]; exact e
    · refine hR s'' (Moved.trans W.gtrans ((hm.mono hsub).then_heap (Nat.le_succ _) fun b o hb e => ?_) hm'') hS''
      rw [hsb.2 b (fun h : b = S => hb (by rw [h]; exact List.mem_cons_self))]; exact e
end

theorem sub_str_set' : isSubtype (.type "str") (.type "set") = pure false := by rw [isSubtype_type]; kernel_rfl
theorem sub_str_frozenset' : isSubtype (.type "str") (.type "frozenset") = pure false := by rw [isSubtype_type]; kernel_rfl
/-- the signs of a text, as texts -/
def sgS (x : Str) : List Str := x.cps.toList.map fun c => ⟨#[c]⟩
section
variable {prog : Program} {w : World} {A : Around} {E : Value → Shared → Prop} {s : Shared}
set_option maxHeartbeats 3200000 in
/-- set(a text) -/
theorem call_set_text {x : Str} {u : Tok} {Q : Value → Shared → Prop} (hh : A.handled = none) (hz : x.cps.size + 2 < scanBound)
    (h : ∀ (h' : Heap) (tk : Nat), h'.SetOf (PySem.strKind prog w) s.heap.objs.size (fun k' => ((sgS x).take x.cps.size).any (· == k')) (dis ((sgS x).take x.cps.size)) →
      (∀ b o, b < s.heap.objs.size → s.heap.get? b = some o → h'.get? b = some o) → Q (.ref s.heap.objs.size) { s with heap := h', toks := tk }) :
    wpAny (model prog w) A (call (.type "set") [.str x u]) Q E s := by
  obtain ⟨c, tl, hmro⟩ := PySem.F.called_set.mro
  have hmade := PySem.F.called_set.made
  have hsub := PySem.F.called_set.sub
  refine wpAny_call (codeAny_of_tree ?_)
  show wpAny _ _ (callAny (.type "set") _) _ _ _
  refine wpAny_pure ⟨Code.quiet_builtin _ (by decide +kernel), codeAny_builtin PySem.F.entry_type_call ?_⟩
  rw [Around.under_plain (weight_type_call_type "set" [.str x u] []) rfl]
  have h1 := PySem.F.called_set.notType
  have h2 := PySem.F.called_set.canCreate
  have hct := PySem.F.typeCall_set_1 (.str x u)
  repeat (any_goals (first | assumption | wp_step))
  refine codeAny_mono (code_set_new_1 (.str x u) (E := E) (Q₁ := fun obj s₁ => ∃ led : Bool, obj = .ref s.heap.objs.size ∧ s₁ = { s with heap := s.heap.push { cls := .type "set", dict := none, data := .set #[] 0 (.fresh 0 0 led) } }) fun led => ⟨led, rfl, rfl⟩) fun r s₁ hr => ?_
  cases r with
  | error e => exact hr
  | ok fl =>
    cases fl with
    | ret obj =>
      obtain ⟨led, rfl, rfl⟩ := hr
      have hS : (s.heap.push { cls := .type "set", dict := none, data := .set #[] 0 (.fresh 0 0 led) }).get? s.heap.objs.size = some { cls := .type "set", dict := none, data := .set #[] 0 (.fresh 0 0 led) } := Heap.get?_push_size _ rfl
      have hT : Shared.TypeIs { s with heap := s.heap.push { cls := .type "set", dict := none, data := .set #[] 0 (.fresh 0 0 led) } } (.ref s.heap.objs.size) "set" := ⟨_, hS, rfl⟩
      have hli := PySem.F.called_set.init.lookup
      have hbi := PySem.F.called_set.init.bind (.ref s.heap.objs.size)
      repeat (any_goals (first | assumption | wp_step))
      refine codeAny_mono (codeAny_call_builtin (R := wants (fun r s₂ => r = .none ∧ ∃ h' tk, s₂ = { s with heap := h', toks := tk } ∧
          h'.SetOf (PySem.strKind prog w) s.heap.objs.size (fun k' => ((sgS x).take x.cps.size).any (· == k')) (dis ((sgS x).take x.cps.size)) ∧
          (∀ b o, b < s.heap.objs.size → s.heap.get? b = some o → h'.get? b = some o)) E) PySem.F.called_set.init.plain PySem.F.entry_set_init (check_set_init_1 hT ?_)) fun r₂ s₂ hr₂ => ?_
      · have hsls := sub_str_set'
        have hslf := sub_str_frozenset'
        have hne : (Value.type "str" == Value.type "dict") = false := by decide
        unfold Builtin.«set.__init__» noKeywords Builtin.Frozenset.updateFrom
        generalize hPI : pyIter = PI
        wp_walk
        subst hPI
        refine wpAny_pyIter_str fun o St W st0 => ?_
        refine wpAny_bind (wpAny_runValue ?_)
        have hh3 : A.in1.in1.in1.handled = none := by simp [hh]
        have hI : (s.heap.push { cls := .type "set", dict := none, data := .set #[] 0 (.fresh 0 0 led) }).objs.size = s.heap.objs.size + 1 := Heap.size_push ..
        refine loopG ((W _ hh3).toS) s.heap.objs.size (by rw [hI]; simp) (sgS x) (by simp [sgS]) hz (fun i v ⟨c, u, hc, hv⟩ => ⟨u, by
            rw [hv]
            congr 1
            unfold sgS
            rw [List.getD, List.getElem?_map]
            rw [← Array.getElem?_toList] at hc
            rw [hc]; rfl⟩) (x.cps.size - 0) 0 _ (by omega) (Nat.zero_le _) st0 ?hS0 ?hR
        case hS0 =>
          have hget : ((s.heap.push { cls := .type "set", dict := none, data := .set #[] 0 (.fresh 0 0 led) }).push o).get? s.heap.objs.size
              = some { cls := .type "set", dict := none, data := .set #[] 0 (.fresh 0 0 led) } := Heap.get?_push_of_some _ hS
          exact PyProof.Rows.SetOf_congr ((PyProof.Rows.setObjOf_fresh (knd := PySem.strKind prog w) led).setOf hget (by omega)) (fun _ => rfl) rfl
        case hR =>
          intro s' hm hS'
          obtain ⟨h', g', d', tk', os'⟩ := s'
          have eg : g' = s.gens := hm.gens
          have ed : d' = s.drawn := hm.drawn
          have eo : os' = s.os := hm.os
          subst eg; subst ed; subst eo
          show wpAny _ _ _ _ _ _
          refine wpAny_pure ?_
          show wpAny _ _ (ret Value.none) _ _ _
          refine wpAny_pure ⟨rfl, h', tk', rfl, hS', fun b o hb e => ?_⟩
          refine hm.heap b o ?_ (Heap.get?_push_of_some _ (Heap.get?_push_of_some _ e))
          rw [hI]
          simp only [List.mem_cons, List.not_mem_nil, or_false, not_or]
          exact ⟨Nat.ne_of_lt hb, Nat.ne_of_lt (Nat.lt_succ_of_lt hb)⟩
      · cases r₂ with
        | error e => exact hr₂
        | ok fl₂ =>
          cases fl₂ with
          | ret r =>
            obtain ⟨rfl, h', tk, rfl, hS', hk'⟩ := hr₂
            repeat (any_goals (first | assumption | wp_step))
            exact h _ _ hS' hk'
          | _ => exact hr₂.elim
    | _ => exact hr.elim
end
end DL
namespace DL
open PySem L2 PySem.Spec PyProof.Rows
def disT (t : Txt) : Nat := dis (sgS (tx t))
theorem sgS_tx (t : Txt) : sgS (tx t) = (sgs t).map tx := by
  unfold sgS sgs
  have : (tx t).cps.toList = t := by simp [tx]
  rw [this, List.map_map]
  rfl
theorem sgs_len (t : Txt) : (sgs t).length = t.length := by simp [sgs]
theorem nodup_map {α β : Type} {f : α → β} (hf : ∀ a b, f a = f b → a = b) {l : List α} (h : l.Nodup) : (l.map f).Nodup := List.pairwise_map.mpr (h.imp fun hne e => hne (hf _ _ e))
theorem disT_nodup {t : Txt} (h : t.Nodup) : disT t = t.length := by
  unfold disT
  have h2 : (sgs t).Nodup := nodup_map (fun a b e => by simpa using e) h
  rw [sgS_tx, dis_nodup (nodup_map (fun a b e => tx_inj e) h2), List.length_map, sgs_len]
def tLenSetT (ta : TE) : TE := fun σ H Q => ta σ H fun x H1 => ∃ t, x = .str t ∧ t.cps.size + 2 < scanBound ∧ Q (.int (dis (sgS t) : Nat)) H1
section
variable {P : Program} {w : World} {K : PySem.W.Frag} {mg : Str → Option Value} {base : Heap} {k j : Nat} {N : List Str} {sc : Scope} {vs ls : List Nat} {X : Cx} {α β γ ι ρ : Type} {B : Bs} {Γ Γ' : Ctx} {e a b : Expr} {es : List Expr} {D : Ends} {rest ss : List Stmt} {p pos apos : Pos} {x y f m : Str}
theorem pe_lenSetT {ta : TE} {p2 q : Pos} (hc : X.calm = true) (hg : Gl X "len") (hm : X.mg "len" = none) (hg2 : Gl X "set") (hm2 : X.mg "set" = none) (ha : PE X a ta)
    (na : starEach [a] X.env = (false, eval a X.env) :: starEach [] X.env := by rfl) : PE X (.Call (.Name "len" p) [.Call (.Name "set" p2) [a] [] q] [] pos) (tLenSetT ta) := by
  refine ⟨fun pins s σ H Q I h => ?_⟩
  refine Call_ (ld_blt I hg hm boot_len ?_)
  refine PyProof.Rows.callWith_builtin1 (PyProof.Rows.args_cons ?_ rfl) rfl rfl
  refine Call_ (ld_blt I hg2 hm2 boot_set ?_)
  refine PyProof.Rows.callWith_type1 (PyProof.Rows.args_cons (thn (ha.run pins s σ H _ I h) fun v s1 ⟨x, H1, I1, r1, q1⟩ => PyProof.Rows.args_nil ?_) na) na rfl
  obtain ⟨t, rfl, hz, q1⟩ := q1
  obtain ⟨u, rfl⟩ := r1
  refine call_set_text (I1.ok.hd hc) hz fun h' tk hS hk => PyProof.Rows.args_nil ?_
  have hl : (sgS t).take t.cps.size = sgS t := by rw [List.take_of_length_le]; simp [sgS]
  rw [hl] at hS
  obtain ⟨o, es, ep, t', ho, hex, hd, _, _, _, hf, hn⟩ := hS
  have hle : dis (sgS t) ≤ t.cps.size := Nat.le_trans (dis_le _) (by simp [sgS])
  have I2 : Inv X pins σ H1 { s1 with heap := h', toks := tk } := I1.kept fun b o e => hk b o (Heap.lt_size e) e
  refine call_len_set ho hex hd hf (by rw [hn]; unfold scanBound at hz; omega) ⟨.int (dis (sgS t) : Nat), H1, I2.tok _, ⟨_, by rw [hn]⟩, q1⟩
theorem c_lenSetS (c : XC P w K mg base k N sc vs ls X) {t : Txt} {p2 q : Pos} (ha : DE X B Γ a rTxt t) (hm : mg "len" = none) (hm2 : mg "set" = none) (hz : t.length ≤ 10) (hg : glB sc "len" = true := by decide +kernel) (hg2 : glB sc "set" = true := by decide +kernel)
    (na : starEach [a] X.env = (false, eval a X.env) :: starEach [] X.env := by rfl) : DE X B Γ (.Call (.Name "len" p) [.Call (.Name "set" p2) [a] [] q] [] pos) rInt (disT t) :=
  pe_weak (pe_lenSetT c.calm (gl_of c.sc hg) (by rw [c.mg]; exact hm) (gl_of c.sc hg2) (by rw [c.mg]; exact hm2) ha na) fun σ H Q ⟨F, en, q⟩ => ⟨F, en, fun v F1 H1 e1 h1 =>
    ⟨tx t, h1.1, by show (tx t).length + 2 < _; rw [tx_len]; unfold scanBound; omega, q _ F1 H1 e1 rfl⟩⟩
/-! one sign in a text -/
def inT (x t : Txt) : Bool := (sgs t).contains x
theorem inT_one {c : Nat} {t : Txt} : inT [c] t = decide (c ∈ t) := by
  unfold inT sgs
  rw [Bool.eq_iff_iff, List.contains_iff_mem, decide_eq_true_eq, List.mem_map]
  exact ⟨fun ⟨a, h, e⟩ => by cases e; exact h, fun h => ⟨c, h, rfl⟩⟩
theorem one_of {x : Txt} (h : x.length = 1) : ∃ c, x = [c] := List.length_eq_one_iff.mp h
theorem one_sgs {x t : Txt} (h : x ∈ sgs t) : x.length = 1 := by obtain ⟨c, _, rfl⟩ := List.mem_map.mp h; rfl
theorem tx_one (c : Nat) : tx [c] = ⟨#[c]⟩ := rfl
theorem c_inS (c : XC P w K mg base k N sc vs ls X) {x t : Txt} (ha : DE X B Γ a rTxt x) (hb : DE X B Γ b rTxt t) (h1 : x.length = 1) (hm : behindInMarks .In b = false := by with_unfolding_all rfl) : DC X B Γ (.Compare a [.In] [b] pos) (inT x t) := by
  obtain ⟨d, rfl⟩ := one_of h1
  rw [inT_one]
  exact dc_cmp (ra := rTxt) (rb := rTxt) op_in_sign (fun F H u v s h1 h2 Q q => ⟨d, tx t, h1.1, h2.1, q _ F H (Ext.refl s) (by show V.bl _ = V.bl _; congr 2)⟩) hm ha hb
theorem c_ninS (c : XC P w K mg base k N sc vs ls X) {x t : Txt} (ha : DE X B Γ a rTxt x) (hb : DE X B Γ b rTxt t) (h1 : x.length = 1) (hm : behindInMarks .NotIn b = false := by with_unfolding_all rfl) : DC X B Γ (.Compare a [.NotIn] [b] pos) (!inT x t) := by
  obtain ⟨d, rfl⟩ := one_of h1
  rw [inT_one]
  exact dc_cmp (ra := rTxt) (rb := rTxt) op_notIn_sign (fun F H u v s h1 h2 Q q => ⟨d, tx t, h1.1, h2.1, q _ F H (Ext.refl s) (by show V.bl _ = V.bl _; congr 2)⟩) hm ha hb
/-! text.index(sign) -/
def ixT (x t : Txt) : Int := ((sgs t).idxOf x : Nat)
theorem ixT_in {x t : Txt} (h : inT x t = true) : 0 ≤ ixT x t ∧ ixT x t < t.length := by
  have hm : x ∈ sgs t := List.contains_iff_mem.mp h
  have := List.idxOf_lt_length_iff.mpr hm
  rw [sgs_len] at this
  unfold ixT
  omega
open Builtin Builtin.Str StrLaws in
theorem occ_grown (s sub : Str) (hi : Nat) : ∀ (l : List Nat) (st : Array Nat × Nat), st.fst.size = 1 → (forIn l st (occBody s sub hi 1)).run.fst = st.fst
  | [], st, h => rfl
  | a :: l, st, h => by
    rw [List.forIn_cons]
    unfold occBody
    rw [if_neg (fun z => by have := z.1.1.1; omega)]
    exact occ_grown s sub hi l _ h
open Builtin Builtin.Str StrLaws in
theorem occ_first (s : Str) (c : Nat) (n : Nat) : ∀ (m lo free : Nat), free ≤ lo → lo ≤ n → n < lo + m → s.cps.toList[n]? = some c → (∀ i, lo ≤ i → i < n → s.cps.toList[i]? ≠ some c) →
    (forIn (List.range' lo m) ((#[] : Array Nat), free) (occBody s ⟨#[c]⟩ s.length 1)).run.fst = #[n]
  | 0, lo, free, h0, h1, h2, h3, h4 => by omega
  | m + 1, lo, free, h0, h1, h2, h3, h4 => by
    rw [List.range'_succ, List.forIn_cons]
    unfold occBody
    by_cases e : lo = n
    · subst e
      have q := (subAt_one s c lo).mpr h3
      rw [if_pos ⟨⟨⟨by simp, h0⟩, q.1⟩, q.2⟩]
      exact occ_grown s _ _ _ _ rfl
    · have q : ¬ (lo + (⟨#[c]⟩ : Str).length ≤ s.length ∧ subAt s ⟨#[c]⟩ lo = true) := fun z => h4 lo (Nat.le_refl _) (by omega) ((subAt_one s c lo).mp z)
      rw [if_neg (fun z => q ⟨z.1.2, z.2⟩)]
      exact occ_first s c n m (lo + 1) free (by omega) (by omega) (by omega) h3 fun i hi hn => h4 i (by omega) hn
theorem occ_ix {x t : Txt} (h : inT x t = true) : ∃ d, x = [d] ∧ Builtin.Str.occurrences (tx t) ⟨#[d]⟩ 0 (tx t).length 1 = [(sgs t).idxOf x] := by
  have hm : x ∈ sgs t := List.contains_iff_mem.mp h
  obtain ⟨d, hd, rfl⟩ := List.mem_map.mp hm
  refine ⟨d, rfl, ?_⟩
  have hl := List.idxOf_lt_length_iff.mpr hm
  have hl' : (sgs t).idxOf [d] < t.length := by rw [sgs_len] at hl; exact hl
  have ht : (tx t).cps.toList = t := by simp [tx]
  rw [StrLaws.occ_eq, occ_first (tx t) d ((sgs t).idxOf [d]) ((tx t).length + 1 - 0) 0 0 (Nat.le_refl _) (Nat.zero_le _) (by rw [tx_len]; omega)]
  · rw [ht]
    have q : (sgs t)[(sgs t).idxOf [d]]? = some [d] := by rw [List.getElem?_eq_getElem hl]; simp
    unfold sgs at q ⊢
    rw [List.getElem?_map] at q
    cases z : t[List.idxOf [d] (List.map (fun c => [c]) t)]? with
    | none => rw [z] at q; cases q
    | some v => rw [z] at q; have := Option.some.inj q; simp at this; rw [this]
  · intro i _ hi
    rw [ht]
    intro z
    have q : (sgs t)[i]? = some [d] := by unfold sgs; rw [List.getElem?_map, z]; rfl
    have q' := List.not_of_lt_findIdx (p := fun y => y == [d]) (xs := sgs t) (i := i) hi
    have hi2 : i < (sgs t).length := by omega
    rw [List.getElem?_eq_getElem hi2] at q
    have := Option.some.inj q
    rw [this] at q'
    simp at q'
theorem c_indexS (c : XC P w K mg base k N sc vs ls X) {x t : Txt} (ha : DE X B Γ a rTxt t) (hb : DE X B Γ b rTxt x) (h : inT x t = true)
    (hs : starEach [b] X.env = [(false, eval b X.env)] := by rfl) (hbase : attributeBase a "index" X.env (eval a X.env) = eval a X.env := by rfl) (hline : (apos.endLine == pos.line) = true := by rfl) :
    DE X B Γ (.Call (.Attribute a "index" apos) [b] [] pos) rInt (ixT x t) :=
  pe_weak (pe_m1 PySem.F.slot_str_index PySem.F.type_str_index mt_sindex ha hb hs hbase hline) fun σ H Q ⟨F, en, q⟩ => ⟨F, en, fun v F1 H1 e1 h1 => ⟨⟨_, h1.1⟩, F1, en.ext e1, fun u F2 H2 e2 h2 => by
    obtain ⟨d, hd, ho⟩ := occ_ix h
    exact ⟨tx t, tx x, (sgs t).idxOf x, [], h1.1, by rw [h2.1], by rw [hd, tx_one, ho, hd], q _ F2 H2 (e1.trans e2) rfl⟩⟩⟩
end
end DL
namespace DL
open PySem L2 PySem.Spec PyProof.Rows
def tRevS (te : TE) : TE := fun σ H Q => te σ H fun x H1 => ∃ t : Txt, x = .str (tx t) ∧ t.length ≤ 1000000 ∧ Q (.str (tx t.reverse)) H1
theorem joinL_nil : ∀ l : List (List Nat), TL.joinL [] l = l.flatten
  | [] => rfl
  | [x] => by simp [TL.joinL]
  | x :: y :: l => by
    have := joinL_nil (y :: l)
    unfold TL.joinL
    simp [this]
section
variable {P : Program} {w : World} {K : PySem.W.Frag} {mg : Str → Option Value} {base : Heap} {k j : Nat} {N : List Str} {sc : Scope} {vs ls : List Nat} {X : Cx} {α β γ δ ι ρ : Type} {B : Bs} {Γ Γ' : Ctx} {e a b d : Expr} {es : List Expr} {D : Ends} {rest ss : List Stmt} {p pos apos : Pos} {x y f m : Str}
theorem pe_revS {te : TE} {k : Nat} {p1 p2 p3 : Pos} (he : PE X e te) : PE X (.Subscript e (.Slice none none (some (.UnaryOp .USub (.Constant (.int 1) k p1) p2)) p3) pos) (tRevS te) := by
  refine ⟨fun pins s σ H Q I h => ?_⟩
  refine Subscript_ (thn (he.run pins s σ H _ I h) fun v s1 ⟨x, H1, I1, r1, q1⟩ => ?_)
  obtain ⟨t, ex, hz, q⟩ := q1
  subst ex
  obtain ⟨tk, rfl⟩ := r1
  have hst : PO X (some (.UnaryOp .USub (.Constant (.int 1) k p1) p2)) (tPart (tUn (rU fun i => .int (-i)) (tC (.int 1)))) := po_some (pe_un un_neg pe_int)
  refine wpAny_Slice (thn (po_none.run pins s1 σ H1 (fun o H2 => o = none ∧ H2 = H1) I1 ⟨rfl, rfl⟩) fun vl s2 ⟨l, H2, I2, pl, el, e2⟩ => ?_)
  subst el e2
  refine thn (po_none.run pins s2 σ H2 (fun o H3 => o = none ∧ H3 = H2) I2 ⟨rfl, rfl⟩) fun vu s3 ⟨u, H3, I3, pu, eu, e3⟩ => ?_
  subst eu e3
  refine thn (hst.run pins s3 σ H3 (fun o H4 => o = some (-1) ∧ H4 = H3) I3 ⟨1, rfl, -1, rfl, rfl, rfl⟩) fun vs s4 ⟨o, H4, I4, ps, eo, e4⟩ => ?_
  subst eo e4
  cases pl
  cases pu
  cases ps with
  | int _ stk =>
  have I5 : Inv X pins σ H4 { s4 with heap := s4.heap.push { cls := .type "slice", data := .fields #[.none, .none, .int (-1) stk] } } := I4.kept (t' := s4.toks) fun b ob q => Heap.get?_push_of_some _ q
  show wpAny (model X.prog X.w) X.A (subscriptTail e (.Slice none none (some (.UnaryOp .USub (.Constant (.int 1) k p1) p2)) p3) (.str (tx t) tk) (.ref s4.heap.objs.size)) (EP X pins σ Q) X.xe { s4 with heap := s4.heap.push { cls := .type "slice", data := .fields #[.none, .none, .int (-1) stk] } }
  refine tail_any (ops := [.str (tx t) tk, .ref s4.heap.objs.size]) (typeIs_str _ _ _) (PySem.F.slot_str_getitem.lookup) ?_ (by with_unfolding_all rfl)
  refine wpAny_getItem_str_slice (l := none) (u := none) (st := some (-1, stk)) ⟨_, Heap.get?_push_size _ rfl, rfl, rfl⟩ rfl ?_
  unfold sliceMade
  rw [if_neg (by show ¬ (((-1 : Int) == 1) && _) = true; intro z; exact Bool.noConfusion z)]
  have hp : ((slicePicked (tx t) none none (some (-1, stk))).filterMap ((tx t).cps[·]?)).toArray = (tx t.reverse).cps := by
    unfold slicePicked
    show ((sliceRange (((tx t).length : Int) - 1) (-1) (-1)).filterMap ((tx t).cps[·]?)).toArray = _
    rw [PySem.W.krv_sliceRange, PySem.W.krv_range, List.filterMap_reverse]
    show ((List.filterMap ((tx t).cps[·]?) (List.range (tx t).cps.size)).reverse).toArray = _
    rw [PySem.W.krv_all]
    simp [tx]
  rw [hp]
  exact ⟨by show (tx t.reverse).length ≤ _; rw [tx_len, List.length_reverse]; exact Nat.le_trans hz (by decide), .str (tx t.reverse), H4, I5.tok _, ⟨_, rfl⟩, q⟩
theorem c_revS (c : XC P w K mg base k N sc vs ls X) {t : Txt} {kk : Nat} {p1 p2 p3 : Pos} (he : DE X B Γ e rTxt t) (hz : t.length ≤ 1000000) : DE X B Γ (.Subscript e (.Slice none none (some (.UnaryOp .USub (.Constant (.int 1) kk p1) p2)) p3) pos) rTxt t.reverse :=
  pe_weak (pe_revS he) fun σ H Q ⟨F, en, q⟩ => ⟨F, en, fun v F1 H1 e1 h1 => ⟨t, h1.1, hz, q _ F1 H1 e1 ⟨rfl, okT_sub (fun c hc => List.mem_reverse.mp hc) h1.2⟩⟩⟩
theorem rl_txt {F : Hp} : ∀ {us : List V} {xs : List Txt}, Rl (rTxt.rel F) us xs → us = (xs.map tx).map V.str ∧ okT xs.flatten = true
  | [], [], _ => ⟨rfl, rfl⟩
  | u :: us, x :: xs, h => by
    obtain ⟨h1, h2⟩ := rl_txt h.2
    exact ⟨by rw [h1, h.1.1]; rfl, by rw [List.flatten_cons]; exact okT_append h.1.2 h2⟩
  | [], _ :: _, h => h.elim
  | _ :: _, [], h => h.elim
theorem sum_tx (xs : List Txt) : ((xs.map tx).map (·.length)).sum = xs.flatten.length := by
  induction xs with
  | nil => rfl
  | cons x xs ih => rw [List.map_cons, List.map_cons, List.sum_cons, ih, tx_len, List.flatten_cons, List.length_append]
/-- "".join(xs) -/
theorem c_join (c : XC P w K mg base k N sc vs ls X) {xs : List Txt} (ha : DE X B Γ a rTxt []) (hb : DE X B Γ b (rList rTxt) xs) (hz : xs.flatten.length ≤ 1000000)
    (hs : starEach [b] X.env = [(false, eval b X.env)] := by rfl) (hbase : attributeBase a "join" X.env (eval a X.env) = eval a X.env := by rfl) (hline : (apos.endLine == pos.line) = true := by rfl) :
    DE X B Γ (.Call (.Attribute a "join" apos) [b] [] pos) rTxt xs.flatten :=
  pe_weak (pe_join ha hb hs hbase hline) fun σ H Q ⟨F, en, q⟩ => ⟨F, en, fun v F1 H1 e1 h1 => ⟨⟨_, h1.1⟩, F1, en.ext e1, fun u F2 H2 e2 ⟨p', us, g1, g2, g3⟩ => by
    obtain ⟨g4, g5⟩ := rl_txt g3
    refine ⟨tx [], p', xs.map tx, h1.1, by rw [g1], .inl (by rw [← g4]; exact SqL.of (e2.i _ _ g2)), ?_, q _ F2 H2 (e1.trans e2) ⟨?_, g5⟩⟩
    · rw [sum_tx, tx_len, List.length_nil, Nat.mul_zero, Nat.add_zero]; omega
    · have := SX.join_S [] xs
      show V.str _ = V.str _
      rw [show tx [] = SX.S [] from rfl, show xs.map tx = xs.map SX.S from rfl, this, joinL_nil]; rfl⟩⟩
/-- e.clear() of a new list, for nothing -/
theorem sd_clearN {r : Rp α} {as : List α} (he : DM X B Γ e r as) (hr : SD X B Γ rest D)
    (hbase : attributeBase e "clear" X.env (eval e X.env) = eval e X.env := by rfl)
    (hline : (apos.endLine == p.line) = true := by rfl) (hsw : swapsWith (.Call (.Attribute e "clear" apos) [] [] p) none pos.line X.env = pure false := by rfl) :
    SD X B Γ (.Expr (.Call (.Attribute e "clear" apos) [] [] p) pos :: rest) D := by
  refine sd_cons (ps_expr (pe_bm0 PySem.F.plainAttrs_list PySem.F.slot_list_clear PySem.F.type_list_clear mt_clear he hbase hline) hsw) (fun D' l σ H ⟨F, en⟩ => ⟨F, en, fun p us F1 H1 e1 h1 h2 h3 h4 => ?_⟩) hr
  refine ⟨.inl ⟨rfl, us, SqL.of h3⟩, p, us, rfl, rfl, h3, l.nx _ _ ?_⟩
  obtain ⟨fp, en0⟩ := id en
  have en2 := en0.ext e1
  have hpB : B.H p = none := en.base.h.free h2
  exact ⟨F1, fp, en2.side h1 hpB fun j z => (en0.own_at z).2.1 h2⟩
theorem de_ixT0 {r : Rp α} {s : Rp β} {t : Rp γ} {z : α × β × γ} {j p2} (ha : DE X B Γ a (rTri r s t) z) : DE X B Γ (.Subscript a (.Constant (.int 0) j p2) pos) r z.1 :=
  pe_weak (pe_ix ix_tup ha pe_int (by intro _ _; rfl)) fun σ H Q ⟨F, en, q⟩ => ⟨F, en, fun v F1 H1 e1 ⟨p, u, u', u'', h1, h2, h3, h4, h5⟩ => ⟨p, [u, u', u''], 0, u, h1, rfl, SqT.of (e1.i _ _ h2), rfl, q u F1 H1 e1 h3⟩⟩
theorem de_ixT1 {r : Rp α} {s : Rp β} {t : Rp γ} {z : α × β × γ} {j p2} (ha : DE X B Γ a (rTri r s t) z) : DE X B Γ (.Subscript a (.Constant (.int 1) j p2) pos) s z.2.1 :=
  pe_weak (pe_ix ix_tup ha pe_int (by intro _ _; rfl)) fun σ H Q ⟨F, en, q⟩ => ⟨F, en, fun v F1 H1 e1 ⟨p, u, u', u'', h1, h2, h3, h4, h5⟩ => ⟨p, [u, u', u''], 1, u', h1, rfl, SqT.of (e1.i _ _ h2), rfl, q u' F1 H1 e1 h4⟩⟩
theorem de_ixT2 {r : Rp α} {s : Rp β} {t : Rp γ} {z : α × β × γ} {j p2} (ha : DE X B Γ a (rTri r s t) z) : DE X B Γ (.Subscript a (.Constant (.int 2) j p2) pos) t z.2.2 :=
  pe_weak (pe_ix ix_tup ha pe_int (by intro _ _; rfl)) fun σ H Q ⟨F, en, q⟩ => ⟨F, en, fun v F1 H1 e1 ⟨p, u, u', u'', h1, h2, h3, h4, h5⟩ => ⟨p, [u, u', u''], 2, u'', h1, rfl, SqT.of (e1.i _ _ h2), rfl, q u'' F1 H1 e1 h5⟩⟩
end
end DL
namespace DL
open PySem L2 PySem.Spec PyProof.Rows
section
variable {P : Program} {w : World} {K : PySem.W.Frag} {mg : Str → Option Value} {base : Heap} {k j : Nat} {N : List Str} {sc : Scope} {vs ls : List Nat} {X : Cx} {β ρ : Type} {B : Bs} {Γ Γ' : Ctx} {D : Ends} {rest ss : List Stmt} {p pos apos : Pos} {x q f m : Str} {ps : List Str} {st : Stmt} {C : Addr}
abbrev SpF0 (pre : Prop) (rr : Rp ρ) (f : ρ) : Sp := SpF (fun _ : Unit => []) (fun _ => pre) rr (fun _ => f)
theorem c_callF0 (c : XC P w K mg base k N sc vs ls X) {pre : Prop} {rr : Rp ρ} {f : ρ} (h : FN P w K mg base CX0 j x ps (SpF0 pre rr f)) (hp : pre) (hj : j ≤ k := by decide) (hg : glB sc x = true := by decide +kernel)
    (hdb : (x == ("__debug__" : Str)) = false := by decide) :
    DE X B Γ (.Call (.Name x p) [] [] pos) rr f := c_call0 c h () rfl hp hj hg hdb
theorem fnF0 {pre : Prop} {rr : Rp ρ} {f : ρ} (T : FT K mg x q st ps) (S : FnScope N ps (defScope st)) (hv : locB N (defScope st) vs = true) (Γu : Ctx) (hl : ps.length = 0 := by rfl) (hu : List.replicate (N.length - ps.length) .un = Γu := by rfl)
    (body : ∀ (X : Cx) (B : Bs) (D : Ends), XC P w K mg base k N (defScope st) vs vs X → pre → RtOk B rr f D → (∀ σ H, D.nx σ H → D.rt .non H) → SD X B Γu (defBody st) { D with nx := fun _ H => D.rt .non H }) : FN P w K mg base CX0 (k + 1) x ps (SpF0 pre rr f) :=
  fnF (fun _ => Γu) T S hv (fun _ => hl.symm) (fun i => by rw [hu]; rfl) (fun X B D i c hp hD hn => body X B D c hp hD hn)
end
end DL
namespace DL
open PySem L2 PySem.Spec PyProof.Rows
def Itz3 (K : PySem.W.Frag) (a b d : Addr) : It :=
  ⟨fun i H => ∃ (xs ys zs : List V) (x y z : V), SqL K H a xs ∧ SqL K H b ys ∧ SqL K H d zs ∧ xs[i]? = some x ∧ ys[i]? = some y ∧ zs[i]? = some z,
    fun i H v H' => ∃ T x y z, v = .ref T ∧ H T = none ∧ H' = upd H T (.tup [x, y, z]) ∧ (∀ xs, SqL K H a xs → xs[i]? = some x) ∧ (∀ ys, SqL K H b ys → ys[i]? = some y) ∧ ∀ zs, SqL K H d zs → zs[i]? = some z,
    fun i H => ∃ xs ys zs : List V, SqL K H a xs ∧ SqL K H b ys ∧ SqL K H d zs ∧ i ≤ xs.length ∧ i ≤ ys.length ∧ i ≤ zs.length ∧ (i = xs.length ∨ i = ys.length ∨ i = zs.length)⟩
theorem turn_zip3 {P : Program} {w : World} {K : PySem.W.Frag} {elts : List Expr} {kk : Nat} {tpos : Pos} {a b d z TI TO i1 i2 i3 : Addr} (D : ZipSep3 z TI TO i1 i2 i3 [i1, a] [i2, b] [i3, d]) (na : a ≠ i1) (nb : b ≠ i2) (nd : d ≠ i3) :
    Turn P w K (.Tuple elts kk tpos) (Itz3 K a b d) [z, TI, TO, i1, i2, i3] z (fun i h => IsZip h z TI TO .none ∧ IsTupOf3 h TI (.ref i1) (.ref i2) (.ref i3) ∧ (∃ x y u, IsTupOf3 h TO x y u) ∧ h.IsListIter i1 a i ∧ h.IsListIter i2 b i ∧ h.IsListIter i3 d i) where
  mem := by simp
  obj := fun i h st c hc => by
    obtain ⟨hz, hTI, ⟨x, y, u, hTO⟩, ⟨o1, e1, _, d1⟩, ⟨o2, e2, _, d2⟩, ⟨o3, e3, _, d3⟩⟩ := st
    have e' : c = z ∨ c = TI ∨ c = TO ∨ c = i1 ∨ c = i2 ∨ c = i3 := by simpa using hc
    rcases e' with q | q | q | q | q | q
    · rw [q]; exact ⟨_, hz, fun v q => nomatch q⟩
    · rw [q]; exact ⟨_, hTI, fun v q => nomatch q⟩
    · rw [q]; exact ⟨_, hTO, fun v q => nomatch q⟩
    · rw [q]; exact ⟨o1, e1, fun v q => by rw [d1] at q; cases q⟩
    · rw [q]; exact ⟨o2, e2, fun v q => by rw [d2] at q; cases q⟩
    · rw [q]; exact ⟨o3, e3, fun v q => by rw [d3] at q; cases q⟩
  keep := fun i h h' st k => by
    obtain ⟨hz, hTI, ⟨x, y, u, hTO⟩, h1, h2, h3⟩ := st
    exact ⟨k z (by simp) _ hz, k TI (by simp) _ hTI, ⟨x, y, u, k TO (by simp) _ hTO⟩, h1.at fun o q => k i1 (by simp) o q, h2.at fun o q => k i2 (by simp) o q, h3.at fun o q => k i3 (by simp) o q⟩
  item := by
    intro X hP hw hK hc i pins s σ H E I hf st hg
    subst hP hw hK
    obtain ⟨hz, hTI, ⟨x0, y0, u0, hTO⟩, h1, h2, h3⟩ := st
    obtain ⟨xs, ys, zs, x, y, u, hqx, hqy, hqz, hx, hy, hu⟩ := hg
    obtain ⟨its, rv, p, _⟩ := I.list hqx
    obtain ⟨its2, rv2, p2, _⟩ := I.list hqy
    obtain ⟨its3, rv3, p3, _⟩ := I.list hqz
    obtain ⟨v1, hv1, ru1⟩ := rv.get hx
    obtain ⟨v2, hv2, ru2⟩ := rv2.get hy
    obtain ⟨v3, hv3, ru3⟩ := rv3.get hu
    have hh : X.A.in1.handled = none := by simp [I.ok.hd hc]
    have hzl : z < s.heap.objs.size := Heap.lt_size hz
    have lt1 : i < its.toArray.size := by have := (List.getElem?_eq_some_iff.mp hv1).1; simpa using this
    have lt2 : i < its2.toArray.size := by have := (List.getElem?_eq_some_iff.mp hv2).1; simpa using this
    have lt3 : i < its3.toArray.size := by have := (List.getElem?_eq_some_iff.mp hv3).1; simpa using this
    refine wpAny_pyNext_zipD3_item D (Draws.list hh i1 a na its.toArray) (Draws.list hh i2 b nb its2.toArray) (Draws.list hh i3 d nd its3.toArray) hz hTI hTO ⟨h1, p.isList⟩ ⟨h2, p2.isList⟩ ⟨h3, p3.isList⟩ lt1 lt2 lt3
      fun w1 w2 w3 h' tk g1 g2 g3 z' TO' st1 st2 st3 hT hsz hk => ?_
    have e1 : w1 = v1 := by
      have q : its.toArray[i]? = some v1 := by simpa using hv1
      rw [q] at g1; exact (Option.some.inj g1).symm
    have e2 : w2 = v2 := by
      have q : its2.toArray[i]? = some v2 := by simpa using hv2
      rw [q] at g2; exact (Option.some.inj g2).symm
    have e3 : w3 = v3 := by
      have q : its3.toArray[i]? = some v3 := by simpa using hv3
      rw [q] at g3; exact (Option.some.inj g3).symm
    subst e1 e2 e3
    refine ⟨_, rfl, wpAny_letOwnedTupleGo_zip (s := { s with heap := h', toks := tk }) z' fun h'' z'' sb => ?_⟩
    have hT2 : h''.get? s.heap.objs.size = some { cls := .type "tuple", data := .seq #[w1, w2, w3] } := (sb.2 _ (Nat.ne_of_gt hzl)).trans hT
    have new : ObjOk X.prog X.w (upd H s.heap.objs.size (.tup [x, y, u])) h'' s.heap.objs.size (.tup [x, y, u]) :=
      ⟨by show 3 ≤ sizeLine; decide, [w1, w2, w3], .cons ru1 (.cons ru2 (.cons ru3 .nil)), ⟨_, hT2, rfl, _, rfl⟩⟩
    have I1 : Inv X pins σ (upd H s.heap.objs.size (.tup [x, y, u])) { s with heap := h'', toks := tk } :=
      I.turnedNew (t' := tk) (ch := [z, TI, TO, i1, i2, i3]) (fun c o hb q => (sb.2 c (fun q' => hb (by simp [q']))).trans (hk c o (fun q' => hb (by simp [q'])) (fun q' => hb (by simp [q'])) (fun q' => hb (by simp [q'])) (fun q' => hb (by simp [q'])) (fun q' => hb (by simp [q'])) q)) hf (Nat.le_refl _) new
    refine ⟨.ref s.heap.objs.size, _, I1, rfl, ⟨_, x, y, u, rfl, I.hok.fresh (Nat.le_refl _), rfl, fun l hl => by rw [I.list_inj hl hqx]; exact hx, fun l hl => by rw [I.list_inj hl hqy]; exact hy, fun l hl => by rw [I.list_inj hl hqz]; exact hu⟩, ⟨z'', ?_, ⟨w1, w2, w3, ?_⟩, ?_, ?_, ?_⟩, fun c hcm => ?_⟩
    · exact (sb.2 _ D.TIz).trans (hk _ _ D.TIz D.TITO D.TIi1 D.TIi2 D.TIi3 hTI)
    · exact (sb.2 _ D.TOz).trans TO'
    · exact st1.1.at fun o q => (sb.2 _ D.zi1.symm).trans q
    · exact st2.1.at fun o q => (sb.2 _ D.zi2.symm).trans q
    · exact st3.1.at fun o q => (sb.2 _ D.zi3.symm).trans q
    · have hlt : c < s.heap.objs.size := by
        have e' : c = z ∨ c = TI ∨ c = TO ∨ c = i1 ∨ c = i2 ∨ c = i3 := by simpa using hcm
        rcases e' with q | q | q | q | q | q
        · rw [q]; exact hzl
        · rw [q]; exact Heap.lt_size hTI
        · rw [q]; exact Heap.lt_size hTO
        · rw [q]; obtain ⟨_, e1, _⟩ := h1; exact Heap.lt_size e1
        · rw [q]; obtain ⟨_, e2, _⟩ := h2; exact Heap.lt_size e2
        · rw [q]; obtain ⟨_, e3, _⟩ := h3; exact Heap.lt_size e3
      rw [upd_ne (Nat.ne_of_lt hlt)]
      exact (hf c hcm).1
  done := by
    intro X hP hw hK hc i pins s σ H E I hf st hg
    subst hP hw hK
    obtain ⟨hz, hTI, ⟨x0, y0, u0, hTO⟩, h1, h2, h3⟩ := st
    obtain ⟨xs, ys, zs, hqx, hqy, hqz, l1, l2, l3, hend⟩ := hg
    obtain ⟨its, rv, p, _⟩ := I.list hqx
    obtain ⟨its2, rv2, p2, _⟩ := I.list hqy
    obtain ⟨its3, rv3, p3, _⟩ := I.list hqz
    have hh : X.A.in1.handled = none := by simp [I.ok.hd hc]
    have m1 : its.toArray.size = xs.length := by rw [List.size_toArray, ← rv.length]
    have m2 : its2.toArray.size = ys.length := by rw [List.size_toArray, ← rv2.length]
    have m3 : its3.toArray.size = zs.length := by rw [List.size_toArray, ← rv3.length]
    exact wpAny_pyNext_zipD3_end D (Draws.list hh i1 a na its.toArray) (Draws.list hh i2 b nb its2.toArray) (Draws.list hh i3 d nd its3.toArray) hz hTI hTO ⟨h1, p.isList⟩ ⟨h2, p2.isList⟩ ⟨h3, p3.isList⟩ (by omega) (by omega) (by omega) (by omega)
      fun h' tk hk => ⟨rfl, I.turnedL (t' := tk) (ch := [z, TI, TO, i1, i2, i3]) (fun c o hb q => hk c o (fun q' => hb (by simp [q'])) (fun q' => hb (by simp [q'])) (fun q' => hb (by simp [q'])) (fun q' => hb (by simp [q'])) (fun q' => hb (by simp [q'])) q) hf⟩
  self := fun A i s Q E st h => wpAny_pyIter_zip st.1 h
section
variable {P : Program} {w : World} {K : PySem.W.Frag} {mg : Str → Option Value} {base : Heap} {k j : Nat} {N : List Str} {sc : Scope} {vs ls : List Nat} {X : Cx} {α β γ δ ι ρ : Type} {B : Bs} {Γ Γ' : Ctx} {e a b d tg : Expr} {es : List Expr} {D : Ends} {rest ss : List Stmt} {p pos apos : Pos} {x y z f m : Str}
def iZip3 (K : PySem.W.Frag) (ta : TA) : TI := fun σ H R => ta σ H fun vs H1 => ∃ a b d xs ys zs, vs = [.ref a, .ref b, .ref d] ∧ SqL K H1 a xs ∧ SqL K H1 b ys ∧ SqL K H1 d zs ∧ R (Itz3 K a b d) H1
theorem pi_zip3 {ta : TA} {tpos : Pos} {elts : List Expr} {kk : Nat} (hg : Gl X "zip") (hm : X.mg "zip" = none) (ha : PA X [a, b, d] ta)
    (hs : starEach [a, b, d] X.env = (false, eval a X.env) :: starEach [b, d] X.env := by rfl) (hpl : (backTo pos (starEach [b, d] X.env)).any (·.1) = false := by rfl) :
    PI X (.Tuple elts kk tpos) (.Call (.Name "zip" p) [a, b, d] [] pos) (iZip3 X.K ta) := by
  refine ⟨fun pins s σ H R I h => ?_⟩
  refine Call_ (ld_blt I hg hm PyProof.Rows.boot_zip (PyProof.Rows.callWith_type1 (thn (ha.run pos pins s σ H _ I h) fun us s1 ⟨vs, H1, I1, r1, q1⟩ => ?_) hs hpl))
  obtain ⟨a, b, d, xs, ys, zs, ex, hqx, hqy, hqz, q⟩ := q1
  subst ex
  cases r1 with
  | cons r rr =>
    cases rr with
    | cons r' rr =>
      cases rr with
      | cons r'' rr =>
      cases rr
      cases r
      cases r'
      cases r''
      obtain ⟨its, rv, p1, _⟩ := I1.list hqx
      obtain ⟨its2, rv2, p2, _⟩ := I1.list hqy
      obtain ⟨its3, rv3, p3, _⟩ := I1.list hqz
      have la : a < s1.heap.objs.size := p1.lt
      have lb : b < s1.heap.objs.size := p2.lt
      have ld : d < s1.heap.objs.size := p3.lt
      refine zip_begins3 (begins_list a its.toArray) (begins_list b its2.toArray) (begins_list d its3.toArray) p1.isList p2.isList p3.isList fun h' hz hTI hTO h1 h2 h3 hsz hk => wpAny_pyIter_zip hz ?_
      have I2 : Inv X pins σ H1 { s1 with heap := h' } := I1.kept (t' := s1.toks) hk
      refine ⟨s1.heap.objs.size + 5, [s1.heap.objs.size + 5, s1.heap.objs.size + 3, s1.heap.objs.size + 4, s1.heap.objs.size, s1.heap.objs.size + 1, s1.heap.objs.size + 2], _, _, H1, rfl, I2,
        turn_zip3 (zip_sep3 (N := s1.heap.objs.size) (fp1 := [a]) (fp2 := [b]) (fp3 := [d]) (by simpa using la) (by simpa using lb) (by simpa using ld)) (Nat.ne_of_lt la) (Nat.ne_of_lt (Nat.lt_succ_of_lt lb)) (Nat.ne_of_lt (Nat.lt_succ_of_lt (Nat.lt_succ_of_lt ld))),
        ⟨hz, hTI, ⟨_, _, _, hTO⟩, ⟨_, h1, rfl, rfl⟩, ⟨_, h2, rfl, rfl⟩, ⟨_, h3, rfl, rfl⟩⟩, fun c hcm => ?_, q⟩
      have hle : s1.heap.objs.size ≤ c := by
        have e' : c = s1.heap.objs.size + 5 ∨ c = s1.heap.objs.size + 3 ∨ c = s1.heap.objs.size + 4 ∨ c = s1.heap.objs.size ∨ c = s1.heap.objs.size + 1 ∨ c = s1.heap.objs.size + 2 := by simpa using hcm
        rcases e' with z | z | z | z | z | z
        · rw [z]; exact Nat.le_add_right _ _
        · rw [z]; exact Nat.le_add_right _ _
        · rw [z]; exact Nat.le_add_right _ _
        · rw [z]; exact Nat.le_refl _
        · rw [z]; exact Nat.le_add_right _ _
        · rw [z]; exact Nat.le_add_right _ _
      exact I1.fpOk hle (I1.hok.fresh hle)
theorem ext_tri {F H : Hp} {T : Addr} {x y z : V} {r : Rp α} {s : Rp β} {t : Rp γ} {a : α} {b : β} {c : γ} (sm : Same F H) (hT : H T = none) (h1 : r.rel F x a) (h2 : s.rel F y b) (h3 : t.rel F z c) :
    Ext F H (upd F T (.tup [x, y, z])) (upd H T (.tup [x, y, z])) ∧ (rTri r s t).rel (upd F T (.tup [x, y, z])) (.ref T) (a, b, c) := by
  have e := Ext.new sm (.tup [x, y, z]) hT
  exact ⟨e, T, x, y, z, rfl, upd_same, r.mono e.f h1, s.mono e.f h2, t.mono e.f h3⟩
def zip3L (xs : List α) (ys : List β) (zs : List γ) : List (α × β × γ) := xs.zip (ys.zip zs)
theorem c_zip3 (c : XC P w K mg base k N sc vs ls X) {r : Rp α} {s : Rp β} {t : Rp γ} {xs : List α} {ys : List β} {zs : List γ} {tpos : Pos} {elts : List Expr} {kk : Nat} (h1 : DE X B Γ a (rList r) xs) (h2 : DE X B Γ b (rList s) ys) (h3 : DE X B Γ d (rList t) zs) (hm : mg "zip" = none) (hg : glB sc "zip" = true := by decide +kernel)
    (hs : starEach [a, b, d] X.env = (false, eval a X.env) :: starEach [b, d] X.env := by rfl) (hpl : (backTo pos (starEach [b, d] X.env)).any (·.1) = false := by rfl) (hs2 : starEach [b, d] X.env = (false, eval b X.env) :: starEach [d] X.env := by rfl) (hs3 : starEach [d] X.env = (false, eval d X.env) :: starEach [] X.env := by rfl) :
    DI X B Γ (.Tuple elts kk tpos) (.Call (.Name "zip" p) [a, b, d] [] pos) (rTri r s t) (zip3L xs ys zs) :=
  pi_weak (pi_zip3 (gl_of c.sc hg) (by rw [c.mg]; exact hm) (da_cons h1 (da_cons h2 (da_cons h3 da_nil hs3) hs2) hs) hs hpl) fun σ H R ⟨F, en, kq⟩ => ⟨F, en, fun vs F1 H1 e1 h1 => by
    obtain ⟨v, w, u, rfl, ⟨q, us, rfl, g2, g3⟩, ⟨q', us', rfl, g2', g3'⟩, ⟨q'', us'', rfl, g2'', g3''⟩⟩ := h1.three
    have hl := g3.length
    have hl' := g3'.length
    have hl'' := g3''.length
    have hz : (zip3L xs ys zs).length = min xs.length (min ys.length zs.length) := by simp [zip3L]
    refine ⟨q, q', q'', us, us', us'', rfl, SqL.of (e1.i _ _ g2), SqL.of (e1.i _ _ g2'), SqL.of (e1.i _ _ g2''), kq _ F1 H1 e1 ?_⟩
    have sq : ∀ F H, Same F1 F → Same F H → SqL X.K H q us := fun F H s1 s2 => SqL.of (s2 _ _ (s1 _ _ g2))
    have sq' : ∀ F H, Same F1 F → Same F H → SqL X.K H q' us' := fun F H s1 s2 => SqL.of (s2 _ _ (s1 _ _ g2'))
    have sq'' : ∀ F H, Same F1 F → Same F H → SqL X.K H q'' us'' := fun F H s1 s2 => SqL.of (s2 _ _ (s1 _ _ g2''))
    refine ⟨fun i F H hi s1 s2 => ⟨us, us', us'', us[i]'(by omega), us'[i]'(by omega), us''[i]'(by omega), sq F H s1 s2, sq' F H s1 s2, sq'' F H s1 s2, by simp, by simp, by simp⟩, fun F H s1 s2 => ⟨us, us', us'', sq F H s1 s2, sq' F H s1 s2, sq'' F H s1 s2, by omega, by omega, by omega, by omega⟩, fun i F H v H' hi s1 s2 y => ?_⟩
    obtain ⟨T, x, z, w, y1, y2, y3, y4, y5, y6⟩ := y
    obtain ⟨x', z1, z2⟩ := g3.getV (y4 us (sq F H s1 s2))
    obtain ⟨z', z3, z4⟩ := g3'.getV (y5 us' (sq' F H s1 s2))
    obtain ⟨w', z5, z6⟩ := g3''.getV (y6 us'' (sq'' F H s1 s2))
    subst y1
    subst y3
    have hb := ext_tri s2 y2 (r.mono s1 z2) (s.mono s1 z4) (t.mono s1 z6)
    exact ⟨_, (x', z', w'), List.getElem?_zip_eq_some.mpr ⟨z1, List.getElem?_zip_eq_some.mpr ⟨z3, z5⟩⟩, hb.1, hb.2⟩⟩
theorem c_ttri (c : XC P w K mg base k N sc vs ls X) (i j l : Nat) {p1 p2 p3 : Pos} {kk : Nat} {r : Rp α} {s : Rp β} {t : Rp γ} (hN : N[i]? = some x := by rfl) (hl : ls.contains i = true := by rfl) (hN2 : N[j]? = some y := by rfl) (hl2 : ls.contains j = true := by rfl) (hN3 : N[l]? = some z := by rfl) (hl3 : ls.contains l = true := by rfl) :
    DG X B (.Tuple [.Name x p1, .Name y p2, .Name z p3] kk pos) (rTri r s t) (fun Γ a Γ' => ∃ Γ1 Γ2, To Γ i (.val r a.1) Γ1 ∧ To Γ1 j (.val s a.2.1) Γ2 ∧ To Γ2 l (.val t a.2.2) Γ') [i, j, l] := by
  have hN' : X.N[i]? = some x := by rw [c.N]; exact hN
  have hN2' : X.N[j]? = some y := by rw [c.N]; exact hN2
  have hN3' : X.N[l]? = some z := by rw [c.N]; exact hN3
  refine pg_weak (pg_tup c.calm (pgs_cons (pg_name (i := i) c.nd hN' (c.loc i x hN' hl).1 (c.loc i x hN' hl).2) (pgs_cons (pg_name (i := j) c.nd hN2' (c.loc j y hN2' hl2).1 (c.loc j y hN2' hl2).2) (pgs_cons (pg_name (i := l) c.nd hN3' (c.loc l z hN3' hl3).1 (c.loc l z hN3' hl3).2) pgs_nil))))
    fun v σ H Q ⟨Γ, a, Γ', F, en, ⟨q, u, u', u'', h1, h2, h3, h4, h5⟩, ⟨Γ1, Γ2, t1, t2, t3⟩, kq⟩ => ?_
  refine ⟨q, _, h1, SqT.of (en.same _ _ h2), rfl, u, _, rfl, u', _, rfl, u'', _, rfl, rfl, kq _ (((en.put t1 h3).put t2 h4).put t3 h5) (by simp) fun m hm => ?_⟩
  rw [List.getElem?_set_ne fun z => hm (by simp [z]), List.getElem?_set_ne fun z => hm (by simp [z]), List.getElem?_set_ne fun z => hm (by simp [z])]
end
end DL
namespace DL
open PySem L2 PySem.Spec PyProof.Rows
section
variable {P : Program} {w : World} {K : PySem.W.Frag} {mg mb : Str → Option Value} {CX : CXT} {k : Nat} {fa a : Addr} {fd : FuncData} {x : Str} {sp : Sp} {s₁ : Shared} {vs : List Value} {ns : List Int}
/-- the state at the law's call over an abstract heap H that holds nothing but (perhaps) the script -/
theorem law_env {H : Hp} (KX : K.In s₁.heap) (hns : s₁.heap.Ns mainGlobals mg) (hb : s₁.heap.Ns builtinsNs mb) (hbb : ∀ x : Str, x ≠ "__name__" → mb x = bootBuiltins x) (hlim : s₁.heap.NoLimit) (hg : s₁.gens = #[])
    (ha : s₁.heap.get? a = some { cls := .type "list", data := .seq vs.toArray }) (hok : HOk P w H s₁.heap) (hA : ∀ b, H b ≠ none → b = a) (hK : H a ≠ none → K.lookup a = none) :
    Env0 P w K mg (hidT s₁.heap H) callerA [] s₁ H ∧ K.In (hidT s₁.heap H) ∧ (hidT s₁.heap H).Ns mainGlobals mg := by
  have none_of : ∀ {b : Addr}, b ≠ a → H b = none := fun {b} hb => by
    cases q : H b with
    | none => rfl
    | some u => exact absurd (hA b (by rw [q]; intro z; cases z)) hb
  have dictN : ∀ {b : Addr} {o : Obj} {es : Array DictEntry} {ep : Nat}, s₁.heap.get? b = some o → o.data = .dict es ep → H b = none := fun {b o es ep} e d => none_of fun z => by
    subst z
    rw [ha] at e
    cases e
    cases d
  have nsK : ∀ {b : Addr} {m : Str → Option Value}, s₁.heap.Ns b m → (hidT s₁.heap H).Ns b m := fun {b m} ⟨o, es, ep, e, d, r⟩ => ⟨o, es, ep, hidT_get e (dictN e d), d, r⟩
  have kin : K.In (hidT s₁.heap H) := fun b o e => hidT_get (KX b o e) (by
    cases q : H b with
    | none => rfl
    | some u =>
      have z := hA b (by rw [q]; intro z; cases z)
      subst z
      rw [hK (by rw [q]; intro z; cases z)] at e
      cases e)
  exact ⟨⟨rfl, ⟨kin, nsK hns, ⟨mb, nsK hb, hbb⟩, let ⟨mc, h1, h2⟩ := hlim; ⟨mc, nsK h1, h2⟩⟩, fun b o e => of_hidT e, Nat.le_of_eq (hidT_size _ _), trivial, fun b z => (List.not_mem_nil z).elim, hok, .of_eq hg⟩, kin, nsK hns⟩
/-- what is behind the law's call -/
theorem law_fin {H : Hp} (hO : Only H) (hok : HOk P w H s₁.heap) {r : Result} {s' : Shared} {E : XK} (hCX : ∀ e, CX [] H s₁ E e s' → False) (h : CR CX [] P w H s₁ (fun v _ => v = .bl true) E r s') :
    r = .ok (.ret (.bool true)) ∧ OldK s₁.heap s'.heap ∧ s'.os = s₁.os ∧ AllBare s'.gens := by
  cases r with
  | error e => exact (hCX e h).elim
  | ok fl =>
    cases fl with
    | ret u =>
      obtain ⟨v, H', os, bare, un, hok', rv, q⟩ := h
      have q' : v = .bl true := q
      subst q'
      cases rv
      refine ⟨rfl, OldK.of_keep fun b o e => ?_, os, bare⟩
      cases q : H b with
      | none => exact un.keep b o e q (fun z => (List.not_mem_nil z).elim) (fun z => (List.not_mem_nil z).elim)
      | some u =>
        rcases hO b with z | ⟨ob, xs, z⟩
        · rw [q] at z; cases z
        · have e1 := (hok b _ z).1
          rw [e] at e1
          cases e1
          exact (hok' b _ (un.frzs b _ _ z)).1
    | _ => exact False.elim h
theorem law_callG (KX : K.In s₁.heap) (hns : s₁.heap.Ns mainGlobals mg) (hb : s₁.heap.Ns builtinsNs mb) (hbb : ∀ x : Str, x ≠ "__name__" → mb x = bootBuiltins x) (hlim : s₁.heap.NoLimit) (hg : s₁.gens = #[])
    (ha : s₁.heap.get? a = some { cls := .type "list", data := .seq vs.toArray }) (hi : IntsAre vs ns) (hl : ns.length ≤ sizeLine) (hr : Room k callerA)
    (F : ∀ base : Heap, K.In base → base.Ns mainGlobals mg → FnOk P w K mg base CX k fa fd [x] sp) (hbind : ∀ (s : Shared) (u : Value), BindsTo s fd ⟨[u], []⟩ [(x, u)])
    (hsp : ∀ H : Hp, Only H → SqL K H a (ns.map V.int) → sp [.ref a] H (fun v _ => v = .bl true) fun _ _ _ => False) (hCX : ∀ H e s', CX [] H s₁ (fun _ _ _ => False) e s' → False) :
    codeAny (model P w) callerA (.call (.ref fa) ⟨[.ref a], []⟩) (fun r s' => r = .ok (.ret (.bool true)) ∧ OldK s₁.heap s'.heap ∧ s'.os = s₁.os ∧ AllBare s'.gens) s₁ := by
  have rv := vals_ints hi
  have go : ∀ H : Hp, Only H → SqL K H a (ns.map V.int) → HOk P w H s₁.heap → (∀ b, H b ≠ none → b = a) → (H a ≠ none → K.lookup a = none) →
      codeAny (model P w) callerA (.call (.ref fa) ⟨[.ref a], []⟩) (fun r s' => r = .ok (.ret (.bool true)) ∧ OldK s₁.heap s'.heap ∧ s'.os = s₁.os ∧ AllBare s'.gens) s₁ := fun H hO hS hok hA hK => by
    obtain ⟨e0, k1, k2⟩ := law_env KX hns hb hbb hlim hg ha hok hA hK
    exact codeAny_mono ((F _ k1 k2).run callerA [] s₁ H ⟨[.ref a], []⟩ [.ref a] [.ref a] _ _ hr e0 (hbind s₁ (.ref a)) (.cons rfl .nil) (hsp H hO hS)) fun r s' h => law_fin hO hok (fun e z => hCX H e s' z) h
  cases hk : K.lookup a with
  | some o =>
    have e := KX a o hk
    rw [ha] at e
    cases e
    exact go (fun _ => none) (fun _ => .inl rfl) (.inr ⟨_, vs.toArray, _, hk, rfl, rfl, rfl, by rw [List.size_toArray, hi.length]; exact hl, by simpa using rv⟩) (fun b u z => by cases z) (fun b z => absurd rfl z) fun z => absurd rfl z
  | none =>
    have hs : ∀ b u, (if b = a then some (HO.frz { cls := .type "list", data := .seq vs.toArray } (.lst (ns.map V.int))) else none) = some u → b = a ∧ u = HO.frz { cls := .type "list", data := .seq vs.toArray } (.lst (ns.map V.int)) := fun b u z => by
      by_cases q : b = a
      · rw [if_pos q] at z; exact ⟨q, (Option.some.inj z).symm⟩
      · rw [if_neg q] at z; cases z
    refine go (fun b => if b = a then some (.frz { cls := .type "list", data := .seq vs.toArray } (.lst (ns.map V.int))) else none) (fun b => ?_) (.inl (.inr ⟨{ cls := .type "list", data := .seq vs.toArray }, if_pos rfl⟩)) (fun b u z => ?_) (fun b z => ?_) fun _ => hk
    · by_cases q : b = a
      · exact .inr ⟨_, _, if_pos q⟩
      · exact .inl (if_neg q)
    · obtain ⟨q, e⟩ := hs b u z
      subst q
      subst e
      exact ⟨ha, by rw [List.length_map]; exact hl, vs, _, rv, ha⟩
    · by_cases q : b = a
      · exact q
      · exact absurd (if_neg q) z
end
theorem walk_ofG {l : PySem.W.OpenLaw} {n k : Nat} {q : Program} {loose : List Str} {XP : (Str → Option Value) → Heap → Prop} {YP : World → Heap → Prop} {d : DefRec} {K : Params → PySem.W.Frag} {CX : World → CXT} {sp : World → Sp} {x : Str}
    (hn : l.most = some n) (hn2 : n ≤ sizeLine) (hdf : d.params.defaults = []) (hr : Room k callerA)
    (hY : ∀ (w : World) (h : Heap), YP w h → (K w.params).In h)
    (F : ∀ (w : World) (mg : Str → Option Value) (fa : Addr) (h : Heap), (K w.params).In h → h.Ns mainGlobals mg → mg d.name = some (.ref fa) →
      ∃ fd : FuncData, (∀ (s : Shared) (u : Value), BindsTo s fd ⟨[u], []⟩ [(x, u)]) ∧
        ∀ base : Heap, (K w.params).In base → base.Ns mainGlobals mg → FnOk l.prog w (K w.params) mg base (CX w) k fa fd [x] (sp w))
    (hsp : ∀ (w : World) (H : Hp) (a : Addr) (ns : List Int), ns.length ≤ n → Only H → SqL (K w.params) H a (ns.map V.int) → sp w [.ref a] H (fun v _ => v = .bl true) fun _ _ _ => False)
    (hCX : ∀ (w : World) (H : Hp) (s : Shared) (e : Value) (s' : Shared), CX w [] H s (fun _ _ _ => False) e s' → False) :
    PySem.W.WalkO q loose XP YP l.row.toRowW d [] (fun f vs => PySem.call f vs) := by
  refine Att.attach_call hn hdf fun w s₀ s₁ mg mb fa o pm cd doc a vs ns G Y ho hd hcd hmg hobj hints hlen hg => ?_
  obtain ⟨fd, hb, hF⟩ := F w mg fa _ (hY w _ Y) G.T.g hmg
  exact law_callG (hY w _ Y) G.T.g G.T.b G.T.builtins G.T.nolimit hg hobj hints (Nat.le_trans hlen hn2) hr hF hb (fun H hO hS => hsp w H a ns hlen hO hS) fun H e s' => hCX w H s₁ e s'
end DL
namespace DL
open PySem L2 PySem.Spec PyProof.Rows
/-- how a list of bools is shown -/
def shB (bs : List Bool) : Str := (PyData.list (bs.map .bool)).shown
def shT (bs : List Bool) : Txt := (shB bs).cps.toList
theorem shT_tx (bs : List Bool) : tx (shT bs) = shB bs := by
  show (⟨_⟩ : Str) = _
  simp [shT]
theorem shT1 (a b : Bool) : decide (shT [a] = shT [b]) = decide (a = b) := by cases a <;> cases b <;> decide
theorem shT2 (a b c d : Bool) : decide (shT [a, b] = shT [c, d]) = decide ([a, b] = [c, d]) := by cases a <;> cases b <;> cases c <;> cases d <;> decide
theorem shT_ok1 (a : Bool) : okT (shT [a]) = true := by cases a <;> decide
theorem shT_ok2 (a b : Bool) : okT (shT [a, b]) = true := by cases a <;> cases b <;> decide
theorem reads_bools {h : Heap} : ∀ {vs : List Value} {bs : List Bool}, Vals (bs.map V.bl) vs → ReadsAll h vs (bs.map .bool) []
  | _, [], .nil => .nil
  | _, b :: bs, .cons r t => by
    cases r
    exact .cons (as := []) (bs := []) (.bool b) (reads_bools t)
theorem showableB : ∀ bs : List Bool, PyData.showableAll (bs.map .bool) = true
  | [] => rfl
  | b :: bs => by
    show (PyData.showable (.bool b) && PyData.showableAll (bs.map .bool)) = true
    rw [showableB bs]; rfl
theorem depthB : ∀ bs : List Bool, PyData.depthAll (bs.map .bool) = 0
  | [] => rfl
  | b :: bs => by
    show max (PyData.depth (.bool b)) (PyData.depthAll (bs.map .bool)) = 0
    rw [depthB bs]; rfl
theorem noDictB : ∀ bs : List Bool, PyData.hasDictAll (bs.map .bool) = false
  | [] => rfl
  | b :: bs => by
    show (PyData.hasDict (.bool b) || PyData.hasDictAll (bs.map .bool)) = false
    rw [noDictB bs]; rfl
section
variable {P : Program} {w : World} {K : PySem.W.Frag} {mg : Str → Option Value} {base : Heap} {k j : Nat} {N : List Str} {sc : Scope} {vs ls : List Nat} {X : Cx} {α β γ ι ρ : Type} {B : Bs} {Γ Γ' : Ctx} {e a b : Expr} {es : List Expr} {D : Ends} {rest ss : List Stmt} {p pos apos : Pos} {x y f m : Str}
theorem call_strB (hg : X.A.guards = some []) (hu : X.A.units + 64 < cLine) : CallR X (.type "str") (fun xs H Q => ∃ (p : Addr) (bs : List Bool), xs = [.ref p] ∧ SqL X.K H p (bs.map V.bl) ∧ (shB bs).length ≤ 1000 ∧ Q (.str (shB bs)) H) := by
  intro pins s σ H xs us Q I r h
  obtain ⟨p, bs, rfl, hq, hz, q⟩ := h
  obtain ⟨u, rfl, r1⟩ := vals1 r
  cases r1
  obtain ⟨its, rv, pl, _⟩ := I.list hq
  obtain ⟨o, ho, hc, n, hd⟩ := pl.isList
  have rd : Reads s.heap (.ref p) (.list (bs.map .bool)) (p :: []) := .list ho hc hd (by simpa using reads_bools rv)
  refine str_of_reads rd (showableB bs) (PyData.noDict_hsm (noDictB bs)) hg ?_ (fun _ _ e => e) (fun h' u tk hk => ⟨.str (shB bs), H, I.kept (t' := tk) hk, ⟨u, rfl⟩, q⟩) (Nat.le_trans hz (by decide))
  show X.A.units + (PyData.depthAll (bs.map .bool) + 1 + 3) < cLine
  rw [depthB]
  omega
theorem c_strB (c : XC P w K mg base k N sc vs ls X) {bs : List Bool} (ha : DE X B Γ a (rList rBool) bs) (hm : mg "str" = none) (hz : (shB bs).length ≤ 1000 ∧ okT (shT bs) = true) (hg : glB sc "str" = true := by decide +kernel)
    (he : starEach [a] X.env = (false, eval a X.env) :: starEach [] X.env := by rfl) : DE X B Γ (.Call (.Name "str" p) [a] [] pos) rTxt (shT bs) :=
  pe_weak (pe_callTy (call_strB c.room.gd c.room.units) (gl_of c.sc hg) (by rw [c.mg]; exact hm) (by decide +kernel) (pa_cons ha pa_nil he) (by decide) (by decide) he) fun σ H Q ⟨F, en, q⟩ => ⟨F, en, fun v F1 H1 e1 ⟨p, us, h1, h2, h3⟩ => by
    rw [h1]
    exact ⟨p, bs, rfl, by rw [← rl_bl h3]; exact SqL.of (e1.i _ _ h2), hz.1, q _ F1 H1 e1 ⟨by rw [shT_tx], hz.2⟩⟩⟩
end
theorem sh1 (a : Bool) : (shB [a]).length ≤ 1000 ∧ okT (shT [a]) = true := by cases a <;> decide
theorem sh2 (a b : Bool) : (shB [a, b]).length ≤ 1000 ∧ okT (shT [a, b]) = true := by cases a <;> cases b <;> decide
end DL
namespace DL
open PySem L2 PySem.Spec PyProof.Rows
/-! ### values that hold no list -/
def cutF (F : Hp) (p : Addr) : Hp := fun b => if b = p then none else F b
theorem cutF_ne {F : Hp} {p b : Addr} (h : b ≠ p) : cutF F p b = F b := if_neg h
theorem cutF_same {F : Hp} {p : Addr} : cutF F p p = none := if_pos rfl
theorem cutF_sub {F : Hp} {p : Addr} : Same (cutF F p) F := fun b u q => by
  by_cases h : b = p
  · rw [h, cutF_same] at q; cases q
  · rw [cutF_ne h] at q; exact q
/-- no list is part of it -/
def Nl {α : Type} (r : Rp α) : Prop := ∀ (F : Hp) (p : Addr) (us : List V) v a, F p = some (.lst us) → r.rel F v a → r.rel (cutF F p) v a
theorem nl_sc {α : Type} {r : Rp α} (h : Sc r) : Nl r := fun F p us v a _ q => h _ _ v a q
theorem nl_pair {α β : Type} {r : Rp α} {s : Rp β} (h1 : Nl r) (h2 : Nl s) : Nl (rPair r s) := fun F p us v a hp ⟨q, u, u', e1, e2, e3, e4⟩ =>
  ⟨q, u, u', e1, by rw [cutF_ne (fun z => by rw [z, hp] at e2; cases e2)]; exact e2, h1 F p us _ _ hp e3, h2 F p us _ _ hp e4⟩
theorem nl_tri {α β γ : Type} {r : Rp α} {s : Rp β} {t : Rp γ} (h1 : Nl r) (h2 : Nl s) (h3 : Nl t) : Nl (rTri r s t) := fun F p us v a hp ⟨q, u, u', u'', e1, e2, e3, e4, e5⟩ =>
  ⟨q, u, u', u'', e1, by rw [cutF_ne (fun z => by rw [z, hp] at e2; cases e2)]; exact e2, h1 F p us _ _ hp e3, h2 F p us _ _ hp e4, h3 F p us _ _ hp e5⟩
theorem nl_opt {α : Type} {r : Rp α} (h1 : Nl r) : Nl (rOpt r) := fun F p us v a hp h => by
  cases a with
  | none => exact h
  | some x => exact ⟨h1 F p us _ _ hp h.1, h.2⟩
section
variable {X : Cx} {α β γ : Type} {B : Bs} {Γ : Ctx} {e a b : Expr}
theorem thaw_ext {σ : L2.St} {F H F1 F2 H2 : Hp} {fp : Nat → Addr → Prop} {i : Nat} {r : Rp α} {x : List α} {Γp : Ctx} (en : EnvF B Γ σ F H fp) (at_ : At Γ i (.own (oList r) x)) (s1 : Same F F1) (k1 : ∀ b, F1 b ≠ none → F b ≠ none ∨ fp i b) (e2 : Ext F1 H F2 H2) :
    ∃ p us, fp i = (fun b => b = p) ∧ H p = some (.lst us) ∧ (F1 p ≠ none → F2 p = some (.lst us)) ∧ Ext F H (cutF F2 p) H2 := by
  obtain ⟨⟨v, hv, p, us, g1, g2, g3, g4⟩, hn⟩ := en.ok i _ at_.get
  have hp := hn p (by rw [g2])
  refine ⟨p, us, g2, g3, fun hne => ?_, fun b u q => ?_, e2.h, fun b u q => e2.i b u (cutF_sub b u q), fun b hf hh => ?_⟩
  · cases z : F1 p with
    | none => exact absurd z hne
    | some o =>
      have z2 := e2.f p o z
      have z3 := e2.i p o z2
      rw [e2.h p _ g3] at z3
      cases z3
      exact z2
  · have nb : b ≠ p := fun z => by rw [z, hp.1] at q; cases q
    rw [cutF_ne nb]
    exact e2.f b u (s1 b u q)
  · by_cases nb : b = p
    · rw [nb]; exact cutF_same
    · rw [cutF_ne nb]
      refine e2.d b ?_ hh
      cases z : F1 b with
      | none => rfl
      | some o =>
        rcases k1 b (by rw [z]; intro w; cases w) with w | w
        · exact absurd hf w
        · rw [g2] at w; exact absurd w nb
theorem EnvF.freezeL {Γp : Ctx} {σ : L2.St} {F H : Hp} {fp : Nat → Addr → Prop} {i : Nat} {r : Rp α} {x : List α} (h : EnvF B Γ σ F H fp) (at_ : At Γ i (.own (oList r) x)) (t : To Γ i (.val (rList r) x) Γp) :
    ∃ F' p us, fp i = (fun b => b = p) ∧ F' p = some (.lst us) ∧ H p = some (.lst us) ∧ Same F F' ∧ (∀ b, F' b ≠ none → F b ≠ none ∨ b = p) ∧ Env B Γp σ F' H := by
  obtain ⟨⟨v, hv, p, us, g1, g2, g3, g4⟩, hn⟩ := id (h.ok i _ at_.get)
  have hx := hn p (by rw [g2])
  have s1 : Same F (upd F p (.lst us)) := fun b u q => by rw [upd_ne (ne_of_none q hx.1)]; exact q
  refine ⟨upd F p (.lst us), p, us, g2, upd_same, g3, s1, fun b hb => ?_, _, h.putG (fi := fun _ => False) t rfl (fun j hj => rfl) ⟨h.base.f.trans s1, h.base.h, ?_, fun b hf hh => ?_⟩ ?_ s1 (fun j b hj q => ⟨rfl, ?_⟩) ?_ (fun _ _ _ _ z => z)⟩
  · by_cases z : b = p
    · exact .inr z
    · rw [upd_ne z] at hb; exact .inl hb
  · intro b u q
    by_cases z : b = p
    · rw [z, upd_same] at q; rw [z, g3]; exact q
    · rw [upd_ne z] at q; exact h.same b u q
  · by_cases z : b = p
    · rw [z] at hh; exact absurd hx.2.2 hh
    · rw [upd_ne z]; exact h.base.d b hf hh
  · intro b u q
    by_cases z : b = p
    · rw [z, upd_same] at q; rw [z, g3]; exact q
    · rw [upd_ne z] at q; exact h.same b u q
  · have nb : b ≠ p := fun z => h.apart j i hj b q (by rw [g2]; exact z)
    rw [upd_ne nb]; exact (h.own_at q).1
  · refine ⟨fun _ z => z, v, hv, p, us, g1, upd_same, Rl.imp (fun _ _ => r.mono s1) g4⟩
theorem de_thawL {Γp : Ctx} {i : Nat} {r : Rp α} {x : List α} {s : Rp β} {y : β} (at_ : At Γ i (.own (oList r) x)) (t : To Γ i (.val (rList r) x) Γp) (nl : Nl s) (h : DE X B Γp e s y) : DE X B Γ e s y :=
  pe_weak h fun σ H Q ⟨F, ⟨fp, en⟩, k⟩ => by
    obtain ⟨F', p, us, g1, g2, g3, s1, k1, en'⟩ := en.freezeL at_ t
    refine ⟨F', en', fun v F2 H2 e2 h2 => ?_⟩
    obtain ⟨p', us', q1, q2, q3, q4⟩ := thaw_ext (Γp := Γp) en at_ s1 (fun b hb => (k1 b hb).imp id fun z => by rw [g1]; exact z) e2
    have ep : p' = p := by have := congrFun (q1.symm.trans g1) p'; exact (this.mp rfl)
    subst ep
    exact k v (cutF F2 p') H2 q4 (nl F2 p' us' v y (q3 (by rw [g2]; intro z; cases z)) h2)
theorem dm_thawL {Γp : Ctx} {i : Nat} {r : Rp α} {x : List α} {s : Rp β} {y : List β} (at_ : At Γ i (.own (oList r) x)) (t : To Γ i (.val (rList r) x) Γp) (nl : Nl s) (h : DM X B Γp e s y) : DM X B Γ e s y :=
  pe_weak h fun σ H Q ⟨F, ⟨fp, en⟩, k⟩ => by
    obtain ⟨F', p, us, g1, g2, g3, s1, k1, en'⟩ := en.freezeL at_ t
    refine ⟨F', en', fun q vs F2 H2 e2 h2 h3 h4 h5 => ?_⟩
    obtain ⟨p', us', q1, q2, q3, q4⟩ := thaw_ext (Γp := Γp) en at_ s1 (fun b hb => (k1 b hb).imp id fun z => by rw [g1]; exact z) e2
    have ep : p' = p := by have := congrFun (q1.symm.trans g1) p'; exact (this.mp rfl)
    subst ep
    refine k q vs (cutF F2 p') H2 q4 ?_ h3 h4 (Rl.imp (fun v a => nl F2 p' us' v a (q3 (by rw [g2]; intro z; cases z))) h5)
    cases z : cutF F2 p' q with
    | none => rfl
    | some o => rw [cutF_sub q o z] at h2; cases h2
/-! ### None or a value -/
/-- what is never None -/
def Nn {α : Type} (r : Rp α) : Prop := ∀ F v a, r.rel F v a → v ≠ .non
theorem nn_int : Nn rInt := fun F v a h z => by rw [show v = V.int a from h] at z; cases z
theorem nn_bool : Nn rBool := fun F v a h z => by rw [show v = V.bl a from h] at z; cases z
theorem nn_txt : Nn rTxt := fun F v a h z => by rw [h.1] at z; cases z
theorem nn_list {r : Rp α} : Nn (rList r) := fun F v a ⟨p, us, h, _⟩ z => by rw [h] at z; cases z
theorem nn_pair {r : Rp α} {s : Rp β} : Nn (rPair r s) := fun F v a ⟨p, u, u', h, _⟩ z => by rw [h] at z; cases z
theorem de_someO {r : Rp α} {x : α} (nn : Nn r) (h : DE X B Γ e r x) : DE X B Γ e (rOpt r) (some x) := pe_weak h fun σ H Q ⟨F, en, k⟩ => ⟨F, en, fun v F1 H1 e1 h1 => k v F1 H1 e1 ⟨h1, nn F1 v x h1⟩⟩
theorem de_noneO {r : Rp α} (h : DE X B Γ e rNon ()) : DE X B Γ e (rOpt r) none := pe_weak h fun σ H Q ⟨F, en, k⟩ => ⟨F, en, fun v F1 H1 e1 h1 => k v F1 H1 e1 h1⟩
def gO [Inhabited α] (d : Option α) : α := d.getD default
theorem de_getO [Inhabited α] {r : Rp α} {d : Option α} (h : DE X B Γ e (rOpt r) d) (hd : d.isSome = true) : DE X B Γ e r (gO d) := pe_weak h fun σ H Q ⟨F, en, k⟩ => ⟨F, en, fun v F1 H1 e1 h1 => by
  cases d with
  | none => cases hd
  | some x => exact k v F1 H1 e1 h1.1⟩
end
end DL
namespace DL
open PySem L2 PySem.Spec PyProof.Rows
section
variable {P : Program} {w : World} {K : PySem.W.Frag} {mg : Str → Option Value} {base : Heap} {k j : Nat} {N : List Str} {sc : Scope} {vs ls : List Nat} {X : Cx} {α β γ ι ρ : Type} {B : Bs} {Γ Γ' : Ctx} {e a b d tg : Expr} {es : List Expr} {D : Ends} {rest ss : List Stmt} {p pos apos : Pos} {x y f m : Str}
theorem dc_isN {r : Rp α} {z : Option α} (ha : DE X B Γ a (rOpt r) z) (hb : DE X B Γ b rNon ()) : DC X B Γ (.Compare a [.Is] [b] pos) (z.isNone) :=
  dc_cmp (ra := rOpt r) (rb := rNon) op_isN (fun F H u v s h1 h2 Q q => ⟨h2, q _ F H (Ext.refl s) (by
    show V.bl _ = V.bl _
    congr 1
    cases z with
    | none => rw [show u = V.non from h1]; rfl
    | some x => exact decide_eq_false h1.2)⟩) (nomark _) ha hb
theorem dc_nisN {r : Rp α} {z : Option α} (ha : DE X B Γ a (rOpt r) z) (hb : DE X B Γ b rNon ()) : DC X B Γ (.Compare a [.IsNot] [b] pos) (z.isSome) :=
  dc_cmp (ra := rOpt r) (rb := rNon) op_notN (fun F H u v s h1 h2 Q q => ⟨h2, q _ F H (Ext.refl s) (by
    show V.bl _ = V.bl _
    congr 1
    cases z with
    | none => rw [show u = V.non from h1]; rfl
    | some x => (have := decide_eq_false h1.2; rw [this]; rfl))⟩) (nomark _) ha hb
theorem dm_rep {r : Rp α} {xs : List α} {n : Int} (ha : DE X B Γ a (rList r) xs) (hb : DE X B Γ b rInt n) (hz : n ≤ 1000000 ∧ -1000000 ≤ n ∧ xs.length * n.toNat ≤ 1000000) : DM X B Γ (.BinOp a .Mult b pos) r (repL n xs) :=
  pe_weak (pe_op op_rep ha hb) fun σ H Q ⟨F, en, q⟩ => ⟨F, en, fun v F1 H1 e1 ⟨p, us, h1, h2, h3⟩ => ⟨F1, en.ext e1, fun v' F2 H2 e2 h4 => by
    refine ⟨p, n, us, h1, h4, e2.i _ _ (e2.f _ _ h2), by omega, by omega, by rw [h3.length]; exact Nat.le_trans hz.2.2 (by decide), fun p3 hp => ?_⟩
    have e3 := Ext.newH e2.i (.lst (List.replicate n.toNat us).flatten) hp
    have eA := e1.trans e2
    exact q p3 _ F2 _ (eA.trans e3) (e2.i.free hp) (eA.h.free hp) upd_same (Rl.rep (Rl.imp (fun _ _ => r.mono e2.f) h3) _)⟩⟩
/-- x op= e of whole numbers -/
theorem c_augI (c : XC P w K mg base k N sc vs ls X) (i : Nat) {op : Operator} {g : Int → Int → Int} {v y : Int} {p1 : Pos} {Γ' : Int → Ctx} (ho : PIp X op (ipI g)) (at_ : At Γ i (.val rInt v)) (he : DE X B Γ e rInt y) (t : ∀ a, To Γ i (.val rInt a) (Γ' a)) (hr : ∀ a, a = g v y → SD X B (Γ' a) rest D)
    (hN : N[i]? = some x := by rfl) (hl : ls.contains i = true := by rfl) : SD X B Γ (.AugAssign (.Name x p1) op e pos :: rest) D := by
  have hN' : X.N[i]? = some x := by rw [c.N]; exact hN
  refine sd_cons (ps_aug c.nd hN' (c.loc i x hN' hl).1 he ho (c.loc i x hN' hl).2) (fun D' l σ H ⟨F, en⟩ => ?_) (hr (g v y) rfl)
  obtain ⟨fp, en0⟩ := id en
  obtain ⟨_, u, hu, hv⟩ := en0.ok i _ at_.get
  refine ⟨u, hu, F, en, fun u2 F1 H1 e1 h1 => ⟨v, y, hv, h1, l.nx _ _ ⟨F1, (en.ext e1).put (t (g v y)) rfl⟩⟩⟩
/-- xs with the item at i set -/
def setL' (xs : List α) (i : Int) (x : α) : List α := match ixN xs.length i with | some j => xs.set j x | none => xs
theorem setL_len (xs : List α) (i : Int) (x : α) : (setL' xs i x).length = xs.length := by unfold setL'; split <;> simp
/-- xs[i] = e, xs an own list -/
theorem c_setO (c : XC P w K mg base k N sc vs ls X) (i : Nat) {r : Rp α} {as : List α} {y : α} {ix : Int} {p1 p2 : Pos} (at_ : At Γ i (.own (oList r) as)) (he : DE X B Γ e r y) (hi : DE X B Γ d rInt ix) (t : To Γ i (.own (oList r) (setL' as ix y)) Γ') (hr : SD X B Γ' rest D) (hz : -(as.length : Int) ≤ ix ∧ ix < as.length)
    (hN : N[i]? = some x := by rfl) (hv : vs.contains i = true := by rfl) (hd : (x == ("__debug__" : Str)) = false := by decide) (hcd : (x == ("__classdict__" : Str)) = false := by decide)
    (ha : ∀ v, assign (.Subscript (.Name x p1) d p2) X.env v = (do
      let ov ← holding [v] (eval (.Name x p1) X.env)
      let iv ← holding [v, ov] (eval d X.env)
      standAt p2
      holding [v, ov, iv] (setItem ov iv v)
      release [v, ov, iv] []) := by intro _; rfl)
    (hs : swapsWithSole [.Subscript (.Name x p1) d p2] e pos.line X.env = pure false := by rfl) (hw : swappedStores [.Subscript (.Name x p1) d p2] e X.env = pure none := by rfl) :
    SD X B Γ (.Assign [.Subscript (.Name x p1) d p2] e pos :: rest) D := by
  have hN' : X.N[i]? = some x := by rw [c.N]; exact hN
  refine sd_cons (ps_asg he (pg_sub (pe_var hN' (c.vis i x hN' hv) hd hcd) hi set_list ha) hs hw) (fun D' l σ H ⟨F, en⟩ => ⟨F, en, fun u F1 H1 e1 h1 => ?_⟩) hr
  have en1 := en.ext e1
  obtain ⟨fp, en2⟩ := id en1
  obtain ⟨⟨v, hv2, p, us, rfl, h2, h3, h4⟩, hn⟩ := en2.ok i _ at_.get
  refine ⟨.ref p, hv2, F1, en1, fun ui F2 H2 e2 h5 => ?_⟩
  have hj : ∃ j, ixN us.length ix = some j ∧ ixN as.length ix = some j := by
    rw [h4.length]
    unfold ixN
    by_cases h0 : 0 ≤ ix
    · rw [if_pos h0, if_pos hz.2]; exact ⟨_, rfl, rfl⟩
    · rw [if_neg h0, if_pos hz.1]; exact ⟨_, rfl, rfl⟩
  obtain ⟨j, j1, j2⟩ := hj
  refine ⟨p, us, ix, j, rfl, h5, e2.h _ _ h3, j1, l.nx _ _ ?_⟩
  obtain ⟨fp3, en3⟩ := en1.ext e2
  obtain ⟨p', us0, g1, g2, g3, g4⟩ := en3.setL t at_
  have ep : p' = p := by rw [hv2] at g1; cases g1; rfl
  subst ep
  have eu : us0 = us := by rw [e2.h _ _ h3] at g2; cases g2; rfl
  subst eu
  refine ⟨F2, _, g4 _ ?_⟩
  unfold setL'
  rw [j2]
  exact Rl.set (r.mono e2.f h1) j g3
/-- n, n - 1, .. -/
def rngD (lo : Int) (n : Nat) : List Int := (List.range n).map fun k => lo - (k : Nat)
theorem rngD_len (lo : Int) (n : Nat) : (rngD lo n).length = n := by simp [rngD]
theorem isw_rngD {lo : Int} {n : Nat} {F0 : Hp} : IsW (Itc lo (-1) n) rInt (rngD lo n) F0 := by
  refine ⟨fun i F H hi _ _ => by rw [rngD_len] at hi; exact hi, fun F H _ _ => by rw [rngD_len]; exact Nat.le_refl _, fun i F H v H' hi s1 s2 y => ?_⟩
  obtain ⟨rfl, rfl⟩ := y
  rw [rngD_len] at hi
  refine ⟨F, lo - (i : Nat), by simp [rngD, hi], Ext.refl s2, ?_⟩
  show V.int _ = V.int _
  congr 1
  omega
theorem c_rangeD (c : XC P w K mg base k N sc vs ls X) {m n : Int} (h1 : DE X B Γ a rInt m) (h2 : DE X B Γ b rInt n) (h3 : DE X B Γ d rInt (-1)) (hm : mg "range" = none) (hn : -(2 ^ 62) ≤ m ∧ m < 2 ^ 62 ∧ -(2 ^ 62) ≤ n ∧ n < 2 ^ 62) (hg : glB sc "range" = true := by decide +kernel)
    (hs : starEach [a, b, d] X.env = (false, eval a X.env) :: starEach [b, d] X.env := by rfl) (hpl : (backTo pos (starEach [b, d] X.env)).any (·.1) = false := by rfl) (hs2 : starEach [b, d] X.env = (false, eval b X.env) :: starEach [d] X.env := by rfl) (hs3 : starEach [d] X.env = (false, eval d X.env) :: starEach [] X.env := by rfl) :
    DI X B Γ tg (.Call (.Name "range" p) [a, b, d] [] pos) rInt (rngD m (m - n).toNat) :=
  pi_weak (pi_range3 (gl_of c.sc hg) (by rw [c.mg]; exact hm) (da_cons h1 (da_cons h2 (da_cons h3 da_nil hs3) hs2) hs) hs hpl) fun σ H R ⟨F, en, q⟩ => ⟨F, en, fun v F1 H1 e1 h1 => by
    obtain ⟨u, w, z, rfl, g1, g2, g3⟩ := h1.three
    cases g1
    cases g2
    cases g3
    exact ⟨m, n, -1, _, rfl, RgC.neg hn.1 hn.2.1 hn.2.2.1 hn.2.2.2, q _ F1 H1 e1 isw_rngD⟩⟩
end
end DL
namespace DL
open PySem PySem.W L2 PySem.Spec PyProof.Rows
def ltP (y a : Int × Int) : Bool := decide (y.1 < a.1) || (decide (y.1 = a.1) && decide (y.2 < a.2))
/-- the first of the least -/
def minP : List (Int × Int) → Int × Int
  | [] => (0, 0)
  | x :: xs => xs.foldl (fun a y => if ltP y a = true then y else a) x
theorem lt_pair (y a : Int × Int) : DatumOrd.lt y a = ltP y a := by
  show (if y.1 = a.1 then DatumOrd.lt y.2 a.2 else DatumOrd.lt y.1 a.1) = _
  unfold ltP
  by_cases h : y.1 = a.1
  · rw [if_pos h]
    have : ¬ y.1 < a.1 := by omega
    simp [h]
    rfl
  · rw [if_neg h]
    simp [h]
    rfl
theorem minOf_pair (x : Int × Int) (xs : List (Int × Int)) : minOf x xs = minP (x :: xs) := by
  unfold minOf minP
  congr 1
  funext a y
  rw [lt_pair]
theorem minP_mem : ∀ {xs : List (Int × Int)}, xs ≠ [] → minP xs ∈ xs := fun {xs} h => by
  cases xs with
  | nil => exact absurd rfl h
  | cons x xs =>
    unfold minP
    have : ∀ (ys : List (Int × Int)) (a : Int × Int), ys.foldl (fun a y => if ltP y a = true then y else a) a ∈ a :: ys := fun ys => by
      induction ys with
      | nil => intro a; simp
      | cons y ys ih =>
        intro a
        rw [List.foldl_cons]
        split
        · have := ih y; simp at this ⊢; rcases this with h | h <;> simp [h]
        · have := ih a; simp at this ⊢; rcases this with h | h <;> simp [h]
    exact this xs x
theorem minP_le : ∀ {xs : List (Int × Int)} {z : Int × Int}, z ∈ xs → (minP xs).1 ≤ z.1 := fun {xs z} h => by
  cases xs with
  | nil => cases h
  | cons x xs =>
    unfold minP
    have : ∀ (ys : List (Int × Int)) (a : Int × Int), (ys.foldl (fun a y => if ltP y a = true then y else a) a).1 ≤ a.1 ∧ ∀ z ∈ ys, (ys.foldl (fun a y => if ltP y a = true then y else a) a).1 ≤ z.1 := fun ys => by
      induction ys with
      | nil => intro a; exact ⟨Int.le_refl _, fun z hz => by cases hz⟩
      | cons y ys ih =>
        intro a
        rw [List.foldl_cons]
        have hy : (if ltP y a = true then y else a).1 ≤ a.1 ∧ (if ltP y a = true then y else a).1 ≤ y.1 := by
          unfold ltP
          by_cases h1 : y.1 < a.1
          · simp [h1]; omega
          · by_cases h2 : y.1 = a.1
            · by_cases h3 : y.2 < a.2
              · simp [h2, h3]
              · simp [h2, h3]
            · simp [h1, h2]; omega
        have q := ih (if ltP y a = true then y else a)
        refine ⟨by omega, fun z hz => ?_⟩
        rcases List.mem_cons.mp hz with e | e
        · subst e; omega
        · exact q.2 z e
    have q := this xs x
    rcases List.mem_cons.mp h with e | e
    · subst e; exact q.1
    · exact q.2 z e
section
variable {P : Program} {w : World} {K : PySem.W.Frag} {mg : Str → Option Value} {base : Heap} {k j : Nat} {N : List Str} {sc : Scope} {vs ls : List Nat} {X : Cx} {α β γ ι ρ : Type} {B : Bs} {Γ Γ' : Ctx} {e a b d tg : Expr} {es : List Expr} {D : Ends} {rest ss : List Stmt} {p pos apos : Pos} {x y f m : Str}
abbrev encP (z : Int × Int) : PyData := .tuple [.int z.1, .int z.2]
theorem encP_inj {a b : Int × Int} (h : encP a = encP b) : a = b := by
  injection h with h
  injection h with h1 h2
  injection h1 with h1
  injection h2 with h2 _
  injection h2 with h2
  exact Prod.ext h1 h2
theorem cr_minP (hc : X.calm = true) (hu : X.A.units + 64 < cLine) : CallR X (.builtin "min") (fun xs H Q => ∃ (p : Addr) (us : List V) (zs : List (Int × Int)), xs = [.ref p] ∧ SqL X.K H p us ∧ DpAll X.K H us (zs.map encP) ∧ us.length = zs.length ∧ zs ≠ [] ∧
    ∀ (i : Nat) v, us[i]? = some v → zs[i]? = some (minP zs) → Q v H) := by
  intro pins s σ H xs us Q I r h
  obtain ⟨p, ws, zs, rfl, hq, hd, hl, hne, q⟩ := h
  obtain ⟨u, rfl, r1⟩ := vals1 r
  cases r1
  obtain ⟨its, rv, pl, _⟩ := I.list hq
  obtain ⟨as, rd⟩ := Dp.readsAll I _ _ _ hd rv
  cases zs with
  | nil => exact absurd rfl hne
  | cons z zs =>
    refine min_list_data (x := encP z) (xs := zs.map encP) (I.ok.hd hc) pl.isList (by simpa using rd) (alikeAll_datum (z :: zs)) ?_ fun i v h' tk bs hv rd' hk => ?_
    · have : PyData.depthAll ((z :: zs).map encP) ≤ 1 := by
        clear rd hd hl hne q
        generalize z :: zs = l
        induction l with
        | nil => exact Nat.zero_le _
        | cons y l ih =>
          show max (PyData.depth (encP y)) (PyData.depthAll (l.map encP)) ≤ 1
          have : PyData.depth (encP y) ≤ 1 := Nat.le_refl _
          omega
      show X.A.units + 1 + PyData.depthAll ((z :: zs).map encP) < cLine
      omega
    · have hi : i < ws.length := by
        have := (Array.getElem?_eq_some_iff.mp hv).1
        rw [List.size_toArray, ← rv.length] at this
        exact this
      obtain ⟨u, hu1, ru⟩ := rv.get (i := i) (x := ws[i]) (by simp [hi])
      have eu : u = v := by
        have q2 : its.toArray[i]? = some u := by simpa using hu1
        rw [hv] at q2; exact (Option.some.inj q2).symm
      subst eu
      have hz : i < (z :: zs).length := by omega
      have e0 : (z :: zs)[i]? = some ((z :: zs)[i]) := by simp [hz]
      obtain ⟨bs2, r2, _⟩ := readsAll_atA (vs := its.toArray) (xs := (z :: zs).map encP) (by simpa using rd) i u hv
      have e1 : ((z :: zs).map encP).getD i .none = encP ((z :: zs)[i]) := by
        rw [List.getD, List.getElem?_map, e0]; rfl
      rw [e1] at r2
      have e2 := ((Reads.unique (reads_keeps hk r2) _ _ rd').1)
      have e3 : minD (encP z) (zs.map encP) = encP (minP (z :: zs)) := by
        rw [← minOf_pair]; exact minD_map z zs
      rw [e3] at e2
      exact ⟨ws[i], H, I.kept (t' := tk) hk, ru, q i _ (by simp [hi]) (by rw [e0, encP_inj e2])⟩
theorem c_minP (c : XC P w K mg base k N sc vs ls X) {zs : List (Int × Int)} (ha : DE X B Γ e (rList (rPair rInt rInt)) zs) (hm : mg "min" = none) (hne : zs ≠ []) (hg : glB sc "min" = true := by decide +kernel) (he : starEach [e] X.env = [(false, eval e X.env)] := by rfl) :
    DE X B Γ (.Call (.Name "min" p) [e] [] pos) (rPair rInt rInt) (minP zs) :=
  c_bi1 c (cr_minP c.calm c.room.units) hm (by decide +kernel) ha (fun σ H Q ⟨F, en, q⟩ => ⟨F, en, fun v F1 H1 e1 ⟨p, us, h1, h2, h3⟩ => ⟨p, us, zs, by rw [h1], SqL.of (e1.i _ _ h2), dpAll (eqPair eqInt eqInt) (Rl.imp (fun v a => (rPair rInt rInt).mono e1.i) h3), h3.length, hne, fun i v hv hz => by
    obtain ⟨z, g1, g2⟩ := h3.getV hv
    rw [hz] at g1
    cases g1
    exact q v F1 H1 e1 g2⟩⟩) hg (by decide) (by decide) he
end
end DL
namespace DL
open PySem L2 PySem.Spec PyProof.Rows
theorem sw_const {env : PySem.Env} {ts vs : List Expr} {kt k2 : Nat} {pt pt2 : Pos} (h : vs.all (foldedForSure 8) = true) : swappedStores [.Tuple ts kt pt] (.Tuple vs k2 pt2) env = pure none := by
  unfold swappedStores
  simp only [h, if_true]
  split
  · rfl
  · split
    · rfl
    · split
      · rfl
      · rfl
end DL
namespace DL
open PySem L2 PySem.Spec PyProof.Rows
/-- what stands still, as a thing of one's own -/
def oVal {α : Type} (r : Rp α) : Own α := ⟨fun F _ v a fp => r.rel F v a ∧ ∀ b, ¬ fp b, fun s _ h => ⟨r.mono s h.1, h.2⟩⟩
/-- row by row, apart from one another -/
def Ols {α : Type} (o : Own α) (F H : Hp) : List V → List α → (Addr → Prop) → Prop
  | [], [], fp => ∀ b, ¬ fp b
  | v :: vs, a :: as, fp => ∃ f g : Addr → Prop, o.rel F H v a f ∧ Ols o F H vs as g ∧ (∀ b, f b → ¬ g b) ∧ ∀ b, fp b ↔ (f b ∨ g b)
  | _, _, _ => False
theorem Own.cast {α : Type} {o : Own α} {F H : Hp} {v : V} {a : α} {f g : Addr → Prop} (h : o.rel F H v a f) (e : ∀ b, g b ↔ f b) : o.rel F H v a g := by
  have : g = f := funext fun b => propext (e b)
  rw [this]; exact h
theorem Ols.cast {α : Type} {o : Own α} {F H : Hp} {vs : List V} {as : List α} {f g : Addr → Prop} (h : Ols o F H vs as f) (e : ∀ b, g b ↔ f b) : Ols o F H vs as g := by
  have : g = f := funext fun b => propext (e b)
  rw [this]; exact h
theorem Ols.mono {α : Type} {o : Own α} {F F' H H' : Hp} (s : Same F F') : ∀ {vs : List V} {as : List α} {fp : Addr → Prop}, (∀ b, fp b → H' b = H b) → Ols o F H vs as fp → Ols o F' H' vs as fp
  | [], [], _, _, h => h
  | v :: vs, a :: as, fp, k, ⟨f, g, h1, h2, h3, h4⟩ => ⟨f, g, o.mono s (fun b hb => k b ((h4 b).2 (.inl hb))) h1, Ols.mono s (fun b hb => k b ((h4 b).2 (.inr hb))) h2, h3, h4⟩
  | [], _ :: _, _, _, h => h.elim
  | _ :: _, [], _, _, h => h.elim
theorem Ols.length {α : Type} {o : Own α} {F H : Hp} : ∀ {vs : List V} {as : List α} {fp : Addr → Prop}, Ols o F H vs as fp → vs.length = as.length
  | [], [], _, _ => rfl
  | v :: vs, a :: as, _, ⟨_, _, _, h, _, _⟩ => by simp [Ols.length h]
  | [], _ :: _, _, h => h.elim
  | _ :: _, [], _, h => h.elim
/-- what a part is -/
structure Part {α : Type} (F H : Hp) (o : Own α) (v : V) (a : α) (f fp : Addr → Prop) (R : Hp → Hp → V → α → (Addr → Prop) → Prop) : Prop where
  rel : o.rel F H v a f
  sub : ∀ b, f b → fp b
  put : ∀ F' H' v' a' f', Same F F' → (∀ b, fp b → ¬ f b → H' b = H b) → (∀ b, f' b → f b ∨ ¬ fp b) → o.rel F' H' v' a' f' → R F' H' v' a' (fun b => (fp b ∧ ¬ f b) ∨ f' b)
theorem Ols.get {α : Type} {o : Own α} {F H : Hp} : ∀ {vs : List V} {as : List α} {fp : Addr → Prop} {n : Nat} {a : α}, Ols o F H vs as fp → as[n]? = some a →
    ∃ v f, vs[n]? = some v ∧ Part F H o v a f fp (fun F' H' v' a' g => Ols o F' H' (vs.set n v') (as.set n a') g)
  | [], [], _, _, _, _, h => by simp at h
  | v :: vs, b :: as, fp, 0, a, ⟨f, g, h1, h2, h3, h4⟩, h => by
    have e : b = a := by simpa using h
    subst e
    refine ⟨v, f, rfl, h1, fun b hb => (h4 b).2 (.inl hb), fun F' H' v' a' f' s k n r => ?_⟩
    refine ⟨f', g, r, h2.mono s (fun b hb => k b ((h4 b).2 (.inr hb)) fun z => h3 b z hb), fun b z w => ?_, fun b => ⟨?_, ?_⟩⟩
    · rcases n b z with q | q
      · exact h3 b q w
      · exact q ((h4 b).2 (.inr w))
    · rintro (⟨q1, q2⟩ | q)
      · exact .inr (((h4 b).1 q1).resolve_left q2)
      · exact .inl q
    · rintro (q | q)
      · exact .inr q
      · exact .inl ⟨(h4 b).2 (.inr q), fun z => h3 b z q⟩
  | v :: vs, b :: as, fp, n + 1, a, ⟨f, g, h1, h2, h3, h4⟩, h => by
    obtain ⟨u, f2, q1, q2, q3, q4⟩ := Ols.get (n := n) h2 (by simpa using h)
    refine ⟨u, f2, by simpa using q1, q2, fun b hb => (h4 b).2 (.inr (q3 b hb)), fun F' H' v' a' f' s k n r => ?_⟩
    have hf : ∀ b, f b → ¬ f2 b := fun b z w => h3 b z (q3 b w)
    refine ⟨f, _, o.mono s (fun b hb => k b ((h4 b).2 (.inl hb)) (hf b hb)) h1, q4 F' H' v' a' f' s (fun b z w => k b ((h4 b).2 (.inr z)) w) (fun b z => ?_) r, fun b z w => ?_, fun b => ⟨?_, ?_⟩⟩
    · exact (n b z).imp id fun w q => w ((h4 b).2 (.inr q))
    · rcases w with ⟨w, _⟩ | w
      · exact h3 b z w
      · rcases n b w with q | q
        · exact hf b z q
        · exact q ((h4 b).2 (.inl z))
    · rintro (⟨z, w⟩ | z)
      · exact ((h4 b).1 z).imp id fun q => .inl ⟨q, w⟩
      · exact .inr (.inr z)
    · rintro (z | ⟨z, w⟩ | z)
      · exact .inl ⟨(h4 b).2 (.inl z), hf b z⟩
      · exact .inl ⟨(h4 b).2 (.inr z), w⟩
      · exact .inr z
  | [], _ :: _, _, _, _, h, _ => h.elim
  | _ :: _, [], _, _, _, h, _ => h.elim
theorem Ols.append {α : Type} {o : Own α} {F H : Hp} {v : V} {a : α} {f : Addr → Prop} (h : o.rel F H v a f) : ∀ {vs : List V} {as : List α} {fp : Addr → Prop}, Ols o F H vs as fp → (∀ b, fp b → ¬ f b) → Ols o F H (vs ++ [v]) (as ++ [a]) (fun b => fp b ∨ f b)
  | [], [], fp, z, _ => ⟨f, fun _ => False, h, fun _ w => w, fun _ _ w => w, fun b => ⟨fun q => q.elim (fun w => (z b w).elim) .inl, fun q => q.elim .inr False.elim⟩⟩
  | u :: vs, c :: as, fp, ⟨f1, g, h1, h2, h3, h4⟩, d => by
    refine ⟨f1, _, h1, Ols.append h h2 fun b z => d b ((h4 b).2 (.inr z)), fun b z w => w.elim (h3 b z) fun q => d b ((h4 b).2 (.inl z)) q, fun b => ?_⟩
    show (fp b ∨ f b) ↔ _
    rw [h4 b, or_assoc]
  | [], _ :: _, _, z, _ => z.elim
  | _ :: _, [], _, z, _ => z.elim
theorem ols_val {α : Type} {r : Rp α} {F H : Hp} : ∀ {vs : List V} {as : List α} {fp : Addr → Prop}, Ols (oVal r) F H vs as fp ↔ (Rl (r.rel F) vs as ∧ ∀ b, ¬ fp b)
  | [], [], fp => ⟨fun h => ⟨trivial, h⟩, fun h => h.2⟩
  | v :: vs, a :: as, fp => ⟨fun ⟨f, g, h1, h2, h3, h4⟩ => ⟨⟨h1.1, (ols_val.1 h2).1⟩, fun b z => ((h4 b).1 z).elim (h1.2 b) ((ols_val.1 h2).2 b)⟩,
      fun ⟨⟨h1, h2⟩, h3⟩ => ⟨fun _ => False, fun _ => False, ⟨h1, fun _ z => z⟩, ols_val.2 ⟨h2, fun _ z => z⟩, fun _ z => z.elim, fun b => ⟨fun z => (h3 b z).elim, fun z => z.elim False.elim False.elim⟩⟩⟩
  | [], _ :: _, _ => ⟨fun h => h.elim, fun h => h.1.elim⟩
  | _ :: _, [], _ => ⟨fun h => h.elim, fun h => h.1.elim⟩
/-- a list of things of one's own -/
def oLs {α : Type} (o : Own α) : Own (List α) := ⟨fun F H v as fp => ∃ p vs g, v = .ref p ∧ H p = some (.lst vs) ∧ Ols o F H vs as g ∧ ¬ g p ∧ ∀ b, fp b ↔ (b = p ∨ g b),
  fun s k ⟨p, vs, g, h1, h2, h3, h4, h5⟩ => ⟨p, vs, g, h1, by rw [k p ((h5 p).2 (.inl rfl))]; exact h2, h3.mono s fun b hb => k b ((h5 b).2 (.inr hb)), h4, h5⟩⟩
theorem oList_iff {α : Type} {r : Rp α} {F H : Hp} {v : V} {as : List α} {fp : Addr → Prop} : (oList r).rel F H v as fp ↔ (oLs (oVal r)).rel F H v as fp :=
  ⟨fun ⟨p, vs, h1, h2, h3, h4⟩ => ⟨p, vs, fun _ => False, h1, h3, ols_val.2 ⟨h4, fun _ z => z⟩, fun z => z, fun b => by rw [h2]; simp⟩,
   fun ⟨p, vs, g, h1, h2, h3, h4, h5⟩ => ⟨p, vs, h1, funext fun b => propext ⟨fun z => ((h5 b).1 z).resolve_right ((ols_val.1 h3).2 b), fun z => (h5 b).2 (.inl z)⟩, h2, (ols_val.1 h3).1⟩⟩
theorem join_l {F G : Hp} {b : Addr} (h : G b = none) : join F G b = F b := by unfold join; rw [h]
theorem join_r {F G : Hp} {b : Addr} {o : HO} (h : G b = some o) : join F G b = some o := by unfold join; rw [h]
theorem join_up {F G G' : Hp} (s : Same G G') (n : ∀ b, G' b ≠ none → F b = none) : Same (join F G) (join F G') := fun b u q => by
  cases z : G b with
  | some w => rw [join_r z] at q; cases q; exact join_r (s b _ z)
  | none =>
    rw [join_l z] at q
    rw [join_l]; exact q
    cases w : G' b with
    | none => rfl
    | some x => rw [n b (by rw [w]; intro y; cases y)] at q; cases q
theorem frz_val {α : Type} (r : Rp α) : Frz (oVal r) r := fun F H v a fp hn h => ⟨fun _ => none, (fun b u z => by cases z), r.mono (fun b u q => by rw [join_l rfl]; exact q) h.1⟩
theorem frz_ols {α : Type} {o : Own α} {r : Rp α} (fz : Frz o r) {F H : Hp} : ∀ {vs : List V} {as : List α} {fp : Addr → Prop}, (∀ b, fp b → F b = none) → Ols o F H vs as fp → ∃ G : Hp, (∀ b u, G b = some u → fp b ∧ H b = some u) ∧ Rl (r.rel (join F G)) vs as
  | [], [], fp, _, _ => ⟨fun _ => none, (fun b u z => by cases z), trivial⟩
  | v :: vs, a :: as, fp, hn, ⟨f, g, h1, h2, h3, h4⟩ => by
    obtain ⟨G1, a1, a2⟩ := fz F H v a f (fun b z => hn b ((h4 b).2 (.inl z))) h1
    obtain ⟨G2, b1, b2⟩ := frz_ols fz (fun b z => hn b ((h4 b).2 (.inr z))) h2
    have hs : ∀ b u, join G1 G2 b = some u → fp b ∧ H b = some u := fun b u z => by
      cases w : G2 b with
      | some x => rw [join_r w] at z; cases z; exact ⟨(h4 b).2 (.inr (b1 b _ w).1), (b1 b _ w).2⟩
      | none => rw [join_l w] at z; exact ⟨(h4 b).2 (.inl (a1 b _ z).1), (a1 b _ z).2⟩
    have nn : ∀ b, join G1 G2 b ≠ none → F b = none := fun b z => by
      cases w : join G1 G2 b with
      | none => exact absurd w z
      | some x => exact hn b (hs b x w).1
    refine ⟨join G1 G2, hs, r.mono (join_up (fun b u z => ?_) nn) a2, Rl.imp (fun _ _ => r.mono (join_up (fun b u z => join_r z) nn)) b2⟩
    cases w : G2 b with
    | some x => exact absurd (b1 b x w).1 (h3 b (a1 b u z).1)
    | none => rw [join_l w]; exact z
  | [], _ :: _, _, _, h => h.elim
  | _ :: _, [], _, _, h => h.elim
theorem frz_ls {α : Type} {o : Own α} {r : Rp α} (fz : Frz o r) : Frz (oLs o) (rList r) := fun F H v as fp hn ⟨p, vs, g, h1, h2, h3, h4, h5⟩ => by
  obtain ⟨G, a1, a2⟩ := frz_ols fz (fun b z => hn b ((h5 b).2 (.inr z))) h3
  have gp : G p = none := by
    cases w : G p with
    | none => rfl
    | some x => exact absurd (a1 p x w).1 h4
  have nn : ∀ b, upd G p (.lst vs) b ≠ none → F b = none := fun b z => by
    by_cases e : b = p
    · exact hn b ((h5 b).2 (.inl e))
    · rw [upd_ne e] at z
      cases w : G b with
      | none => exact absurd w z
      | some x => exact hn b ((h5 b).2 (.inr (a1 b x w).1))
  refine ⟨upd G p (.lst vs), fun b u z => ?_, p, vs, h1, join_r upd_same, Rl.imp (fun _ _ => r.mono (join_up (same_new gp) nn)) a2⟩
  by_cases e : b = p
  · subst e; rw [upd_same] at z; cases z; exact ⟨(h5 b).2 (.inl rfl), h2⟩
  · rw [upd_ne e] at z; exact ⟨(h5 b).2 (.inr (a1 b u z).1), (a1 b u z).2⟩

/-! ### expressions that give a new thing of one's own -/
def tDQ {α : Type} (B : Bs) (Γ : Ctx) (o : Own α) (a : α) : TE := fun σ H Q => ∃ F, Env B Γ σ F H ∧ ∀ v F' H' fp, Ext F H F' H' → o.rel F' H' v a fp → (∀ b, fp b → F' b = none ∧ H b = none ∧ H' b ≠ none) → Q v H'
abbrev DQ {α : Type} (X : Cx) (B : Bs) (Γ : Ctx) (e : Expr) (o : Own α) (a : α) : Prop := PE X e (tDQ B Γ o a)
section
variable {P : Program} {w : World} {K : PySem.W.Frag} {mg : Str → Option Value} {base : Heap} {k j : Nat} {N : List Str} {sc : Scope} {vs ls : List Nat} {X : Cx} {α β γ ι ρ : Type} {B : Bs} {Γ Γ' : Ctx} {e a b d tg iter elt : Expr} {es ifs : List Expr} {D : Ends} {rest ss : List Stmt} {p pos apos : Pos} {x y f m : Str} {scope : Scope}
theorem dq_of_de {r : Rp α} {z : α} (h : DE X B Γ e r z) : DQ X B Γ e (oVal r) z := pe_weak h fun σ H Q ⟨F, en, q⟩ => ⟨F, en, fun v F1 H1 e1 h1 => q v F1 H1 (fun _ => False) e1 ⟨h1, fun _ z => z⟩ fun _ z => z.elim⟩
theorem dq_of_dm {r : Rp α} {z : List α} (h : DM X B Γ e r z) : DQ X B Γ e (oList r) z := pe_weak h fun σ H Q ⟨F, en, q⟩ => ⟨F, en, fun p vs F1 H1 e1 h1 h2 h3 h4 => q (.ref p) F1 H1 (fun b => b = p) e1 ⟨p, vs, rfl, rfl, h3, h4⟩ fun b hb => by subst hb; exact ⟨h1, h2, by rw [h3]; intro z; cases z⟩⟩
theorem dq_of_dn {r : Rp α} {z : α} (h : DN X B Γ e r z) : DQ X B Γ e (oAll r) z := pe_weak h fun σ H Q ⟨F, en, q⟩ => ⟨F, en, fun v G H1 s1 s2 s3 h4 => q v F H1 (fun b => G b ≠ none) ⟨Same.refl F, s1, en.same.trans s1, fun b hf _ => hf⟩ ⟨G, fun b u z => ⟨(fun w => by rw [z] at w; cases w), s2 b u z⟩, h4⟩ fun b hb => ⟨en.same.free (s3 b hb), s3 b hb, by
    cases z : G b with
    | none => exact absurd z hb
    | some u => rw [s2 b u z]; intro w; cases w⟩⟩
theorem dq_ls {r : Rp α} {z : List α} (h : DQ X B Γ e (oList r) z) : DQ X B Γ e (oLs (oVal r)) z := pe_weak h fun σ H Q ⟨F, en, q⟩ => ⟨F, en, fun v F1 H1 fp e1 h1 h2 => q v F1 H1 fp e1 (oList_iff.1 h1) h2⟩
theorem dq_eq {o : Own α} {z z' : α} (h : DQ X B Γ e o z) (q : z = z') : DQ X B Γ e o z' := q ▸ h
theorem c_asgO (c : XC P w K mg base k N sc vs ls X) (i : Nat) {pos' : Pos} {o : Own α} {v : α} {Γ' : α → Ctx} (he : DQ X B Γ e o v) (t : ∀ a, To Γ i (.own o a) (Γ' a)) (hr : ∀ a, a = v → SD X B (Γ' a) rest D)
    (hN : N[i]? = some x := by rfl) (hl : ls.contains i = true := by rfl) (hs : swapsWith e (some (.Name x pos')) pos.line X.env = pure false := by rfl) : SD X B Γ (.Assign [.Name x pos'] e pos :: rest) D :=
  have hN' : X.N[i]? = some x := by rw [c.N]; exact hN
  sd_asgO (o := o) he c.nd hN' (c.loc i x hN' hl).1 (c.loc i x hN' hl).2 (fun σ F H Q en q => ⟨F, en, fun u F' H' fi e1 h1 h2 => q u F' H' fi e1 h1 h2⟩) (t v) (hr v rfl) hs

/-! ### comprehensions of new things -/
theorem lc_readO {r : Rp α} {o : Own β} {xs : List α} {Tgt : Ctx → α → Ctx → Prop} {js ws : List Nat} {Γb : α → Ctx} (ff : α → β) (hjs : ∀ j ∈ js, j ∈ ws) (hu : ∀ i ∈ ws, Γ[i]? = some .un) (ht : ∀ x, Tgt Γ x (Γb x)) (hz : xs.length ≤ 1000000)
    (σ : L2.St) (H : Hp) (Q : VK) (h : tDQ B Γ (oLs o) (xs.map ff) σ H Q) :
    tLc (tDI B Γ r xs) (fun v σ H Q => ∃ L, gD (B.lo L) r Tgt js v σ H Q) (fun σ H Q => ∃ i : Hp × α, i.2 ∈ xs ∧ tDT (B.lo i.1) (Γb i.2) true σ H Q) (fun σ H Q => ∃ i : Hp × α, i.2 ∈ xs ∧ tDQ (B.lo i.1) (Γb i.2) o (ff i.2) σ H Q) ws σ H Q := by
  obtain ⟨F, ⟨fp, en⟩, kq⟩ := h
  refine ⟨F, ⟨fp, en⟩, fun J F1 H1 e1 iw Dl hD => ?_⟩
  have en1 := en.ext e1
  have hF1 : F1 Dl = none := e1.i.free hD
  have hBD : B.H Dl = none := en1.base.h.free hD
  have hfp : ∀ j, ¬ fp j Dl := fun j q => (en1.own_at q).2.1 hD
  let res : Nat → List β := fun i => (xs.take i).map ff
  have zlen : ∀ i, (res i).length ≤ 1000000 := fun i => by
    have h3 : (xs.take i).length ≤ xs.length := by rw [List.length_take]; omega
    simp only [res, List.length_map]
    omega
  refine ⟨fun i m H => m = xs.length - i ∧ i ≤ xs.length ∧ ∃ F acc g, EnvF (B.lo F1) Γ σ F H fp ∧ F Dl = none ∧ H Dl = some (.lst acc) ∧ Ols o F H acc (res i) g ∧ (∀ b, g b → F b = none ∧ H1 b = none ∧ H b ≠ none ∧ b ≠ Dl) ∧ Ext F1 H1 F H, ⟨xs.length, by simp, Nat.zero_le _, F1, [], fun _ => False, ?_, hF1, upd_same, fun _ z => z, fun _ z => z.elim, Ext.newH e1.i _ hD⟩, ?_⟩
  · have := en1.side (o := .lst []) hF1 hBD hfp
    exact ⟨this.len, this.base, this.same, Same.refl F1, fun i s hs => by
      have q := this.ok i s hs
      cases s with
      | un => exact q
      | val r a => exact q
      | own o a => exact q, this.out, this.apart⟩
  rintro i m H2 ⟨rfl, hi2, F2, acc, g, en2, hF2, hD2, ha, hg, hs2⟩
  by_cases hlt : i < xs.length
  · refine .inr ⟨iw.go i F2 H2 hlt en2.low en2.same, fun H' => ∃ F acc g, EnvF (B.lo F1) Γ σ F H' fp ∧ F Dl = none ∧ H' Dl = some (.lst acc) ∧ Ols o F H' acc (res (i + 1)) g ∧ (∀ b, g b → F b = none ∧ H1 b = none ∧ H' b ≠ none ∧ b ≠ Dl) ∧ Ext F1 H1 F H', fun H' ⟨F', acc', g', q⟩ => ⟨xs.length - (i + 1), by omega, rfl, hlt, F', acc', g', q⟩, fun v H3 y => ?_⟩
    obtain ⟨F3, x, hx, e3, hv⟩ := iw.yld i F2 H2 v H3 hlt en2.low en2.same y
    have mem : x ∈ xs := List.mem_of_getElem? hx
    have dne : ∀ {F F' H H' : Hp}, Ext F H F' H' → F Dl = none → (∃ acc, H Dl = some (HO.lst acc)) → F' Dl = none := fun {F F' H H'} e h1 ⟨acc, h2⟩ => e.d Dl h1 (by rw [h2]; intro z; cases z)
    have en3 := en2.ext e3
    refine ⟨F1, Γ, x, Γb x, F3, ⟨fp, en3.wipe hu⟩, hv, ht x, fun σ' en' hl' hk' => ⟨wipe_back hl' fun j hj => hk' j fun z => hj (hjs j z), ?_⟩⟩
    refine ⟨(F1, x), mem, F3, en', fun F4 H4 e4 => ?_⟩
    have et : xs.take (i + 1) = xs.take i ++ [x] := by rw [List.take_succ, hx]; rfl
    have hr : res (i + 1) = res i ++ [ff x] := by
      show (xs.take (i + 1)).map ff = _
      rw [et, List.map_append]; rfl
    have h3D : F3 Dl = none := dne e3 hF2 ⟨acc, hD2⟩
    have h3L : H3 Dl = some (.lst acc) := e3.h _ _ hD2
    have h4D : F4 Dl = none := dne e4 h3D ⟨acc, h3L⟩
    have h4L : H4 Dl = some (.lst acc) := e4.h _ _ h3L
    have en4 := en3.ext e4
    show if true = true then _ else _
    rw [if_pos rfl]
    refine ⟨(F1, x), mem, F4, en'.ext e4, fun y5 F5 H5 f5 e5 h5 hn5 => ?_⟩
    have h5D : F5 Dl = none := dne e5 h4D ⟨acc, h4L⟩
    have h5L : H5 Dl = some (.lst acc) := e5.h _ _ h4L
    have en5 := en4.ext e5
    have e25 := e3.trans (e4.trans e5)
    have kp : ∀ b, g b → H5 b = H2 b := fun b hb => by
      cases q : H2 b with
      | none => exact absurd q (hg b hb).2.2.1
      | some u => exact e25.h b u q
    have nD : ∀ b, f5 b → b ≠ Dl := fun b hb z => by have := (hn5 b hb).2.1; rw [z, h4L] at this; cases this
    have ex5 := (hs2.trans e25)
    have ol : Ols o F5 (upd H5 Dl (.lst (acc ++ [y5]))) (acc ++ [y5]) (res (i + 1)) (fun b => g b ∨ f5 b) := by
      rw [hr]
      refine Ols.append (o.mono (Same.refl F5) (fun b hb => upd_ne (nD b hb)) h5) (Ols.mono e25.f (fun b hb => by rw [upd_ne (hg b hb).2.2.2]; exact kp b hb) ha) fun b z w => ?_
      exact (hg b z).2.2.1 ((e3.trans e4).h.free (hn5 b w).2.1)
    refine ⟨acc, h5L, by rw [ha.length]; exact Nat.lt_of_le_of_lt (zlen i) (by decide), F5, acc ++ [y5], fun b => g b ∨ f5 b, en5.side h5D hBD hfp, h5D, upd_same, ol, fun b hb => ?_, ex5.side hD h5D⟩
    rcases hb with hb | hb
    · have q := hg b hb
      exact ⟨e25.d b q.1 q.2.2.1, q.2.1, by rw [upd_ne q.2.2.2, kp b hb]; exact q.2.2.1, q.2.2.2⟩
    · have q := hn5 b hb
      exact ⟨q.1, (hs2.trans (e3.trans e4)).h.free q.2.1, by rw [upd_ne (nD b hb)]; exact q.2.2, nD b hb⟩
  · have e : i = xs.length := by omega
    subst e
    refine .inl ⟨iw.stop F2 H2 en2.low en2.same, ?_⟩
    have hres : res xs.length = xs.map ff := by show (xs.take xs.length).map ff = _; rw [List.take_length]
    rw [hres] at ha
    refine kq (.ref Dl) F2 H2 (fun b => b = Dl ∨ g b) (e1.trans hs2) ⟨Dl, acc, g, rfl, hD2, ha, fun z => (hg Dl z).2.2.2 rfl, fun b => Iff.rfl⟩ fun b hb => ?_
    rcases hb with rfl | hb
    · exact ⟨hF2, e1.h.free hD, by rw [hD2]; intro z; cases z⟩
    · exact ⟨(hg b hb).1, e1.h.free (hg b hb).2.1, (hg b hb).2.2.1⟩
/-- a comprehension whose parts are shown, of new things -/
def LcOkO (X : Cx) (B : Bs) (Γ : Ctx) (elt tg iter : Expr) (scope : Scope) {β : Type} (o : Own β) (res : List β) : Prop :=
  ∃ own wi g tt te, PI X tg iter wi ∧ BlkOk X.N X.env.scope scope own ∧ (∀ (s : Shared) (H : Hp) (C : Addr) (cl : List (Str × Addr)) (fp : List Addr), PG (X.blk s H scope (compEnvC scope cl C X.env) fp) tg g) ∧
    (∀ (s : Shared) (H : Hp) (C : Addr) (cl : List (Str × Addr)) (fp : List Addr), PTs (X.blk s H scope (compEnvC scope cl C X.env) fp) [] tt) ∧
    (∀ (s : Shared) (H : Hp) (C : Addr) (cl : List (Str × Addr)) (fp : List Addr), PE (X.blk s H scope (compEnvC scope cl C X.env) fp) elt te) ∧ (∀ x, foldedSetIterable iter X.env x = pure x) ∧
    ∀ σ H Q, tDQ B Γ (oLs o) res σ H Q → tLc wi g tt te (own.map (·.2)) σ H Q
theorem c_lcO (c : XC P w K mg base k N sc vs ls X) {r : Rp α} {o : Own β} {xs : List α} {Tgt : Ctx → α → Ctx → Prop} {js : List Nat} {Γb : α → Ctx} (own : List (Str × Nat)) (vs' ls' : List Nat) (ff : α → β)
    (hi : DI X B Γ tg iter r xs) (hg : ∀ X' L, XC P w K mg base k N (relS scope sc) vs' ls' X' → DG X' (B.lo L) tg r Tgt js) (ht : ∀ x, Tgt Γ x (Γb x))
    (he : ∀ X' L x, XC P w K mg base k N (relS scope sc) vs' ls' X' → x ∈ xs → DQ X' (B.lo L) (Γb x) elt o (ff x))
    (hz : xs.length ≤ 1000000) (hu : ∀ i ∈ own.map (·.2), Γ[i]? = some .un := by decide)
    (hok : blkC N sc scope own = true := by decide +kernel) (hv : visB N (relS scope sc) vs' = true := by decide +kernel) (hl : locC N scope sc ls' = true := by decide +kernel) (hk : scope.kind = .function := by rfl)
    (hjs : ∀ j ∈ js, j ∈ own.map (·.2) := by decide) (hs : ∀ x, foldedSetIterable iter X.env x = pure x := by intro _; rfl) : LcOkO X B Γ elt tg iter scope o (xs.map ff) := by
  refine ⟨own, tDI B Γ r xs, (fun v σ H Q => ∃ L, gD (B.lo L) r Tgt js v σ H Q), (fun σ H Q => ∃ i : Hp × α, i.2 ∈ xs ∧ tDT (B.lo i.1) (Γb i.2) true σ H Q), (fun σ H Q => ∃ i : Hp × α, i.2 ∈ xs ∧ tDQ (B.lo i.1) (Γb i.2) o (ff i.2) σ H Q), hi, by rw [c.N, c.sc]; exact blkOk_by hok, fun s H C cl fp => ⟨fun pins s' σ H' v u Q J rv ⟨L, q⟩ => (hg _ L (xc_blk c hk hv hl s H C cl fp)).run pins s' σ H' v u Q J rv q⟩,
    fun s H C cl fp => pts_ex (I := Hp × α) (Φ := fun i => i.2 ∈ xs) fun i hm => dts_nil,
    fun s H C cl fp => pe_ex (I := Hp × α) (Φ := fun i => i.2 ∈ xs) fun i hm => he _ i.1 i.2 (xc_blk c hk hv hl s H C cl fp) hm, hs, fun σ H Q h => ?_⟩
  exact lc_readO ff hjs hu ht hz σ H Q h
theorem dq_lc (c : XC P w K mg base k N sc vs ls X) {o : Own β} {res : List β} (h : LcOkO X B Γ elt tg iter scope o res) : DQ X B Γ (.ListComp elt [⟨tg, iter, [], 0⟩] scope pos) (oLs o) res := by
  obtain ⟨own, wi, g, tt, te, h1, h2, h3, h4, h5, h6, h7⟩ := h
  exact pe_weak (pe_lc c.calm c.nd h1 h2 h3 h4 h5 h6) h7
theorem ps_lcO (c : XC P w K mg base k N sc vs ls X) (i : Nat) {y : Str} {py spos : Pos} {o : Own β} {res : List β} (h : LcOkO X B Γ elt tg iter scope o res) (hN : N[i]? = some y) (hl : ls.contains i = true)
    (hsw : (py.line == pos.line) = true) (ha : (scope.names.any fun (n, k) => n == y && (k == .local || k == .cell)) = false) : PS X (.Assign [.Name y py] (.ListComp elt [⟨tg, iter, [], 0⟩] scope pos) spos) (tAsg (tDQ B Γ (oLs o) res) (gName i)) := by
  have hN' : X.N[i]? = some y := by rw [c.N]; exact hN
  obtain ⟨hloc, hfn⟩ := c.loc i y hN' hl
  rcases hloc with z | z
  · obtain ⟨own, wi, g, tt, te, h1, h2, h3, h4, h5, h6, h7⟩ := h
    exact ps_weak (ps_setLc c.calm c.nd hN' z (sw_true c.kind z hsw ha) h1 h2 h3 h4 h5 h6) fun D σ H q => h7 σ H _ q
  · exact ps_set c.nd hN' (.inr z) (dq_lc c h) (sw_cell z) hfn
theorem c_asgLcO (c : XC P w K mg base k N sc vs ls X) (i : Nat) {y : Str} {py spos : Pos} {o : Own β} {res : List β} {Γ' : List β → Ctx} (h : LcOkO X B Γ elt tg iter scope o res) (t : ∀ a, To Γ i (.own (oLs o) a) (Γ' a)) (hr : ∀ a, a = res → SD X B (Γ' a) rest D)
    (hN : N[i]? = some y := by rfl) (hl : ls.contains i = true := by rfl) (hsw : (py.line == pos.line) = true := by rfl) (ha : (scope.names.any fun (n, k) => n == y && (k == .local || k == .cell)) = false := by decide +kernel) :
    SD X B Γ (.Assign [.Name y py] (.ListComp elt [⟨tg, iter, [], 0⟩] scope pos) spos :: rest) D :=
  sd_cons (ps_lcO c i h hN hl hsw ha) (fun D' l σ H ⟨F, en⟩ => ⟨F, en, fun u F' H' fi e1 h1 h2 => l.nx _ _ ⟨F', en.putOwn (t res) e1 h1 h2⟩⟩) (hr res rfl)

/-! ### paths to parts -/
/-- e gives the part b of the own thing at i; whoever changes it to b' changes that to put b' -/
def tDP (B : Bs) (Γ : Ctx) (i : Nat) {α β : Type} (o : Own α) (a : α) (o' : Own β) (b : β) (put : β → α) : TE := fun σ H Q => ∃ F fp, EnvF B Γ σ F H fp ∧ ∀ v' F' H', Ext F H F' H' →
  (∃ v f, σ[i]? = some (some v) ∧ Part F' H' o' v' b f (fp i) (fun F2 H2 w' b' g => w' = v' → o.rel F2 H2 v (put b') g)) → Q v' H'
abbrev DP (X : Cx) (B : Bs) (Γ : Ctx) (e : Expr) (i : Nat) {α β : Type} (o : Own α) (a : α) (o' : Own β) (b : β) (put : β → α) : Prop := PE X e (tDP B Γ i o a o' b put)
theorem Part.ext {o' : Own β} {F H F' H' : Hp} {v : V} {z : β} {f fp : Addr → Prop} {R : Hp → Hp → V → β → (Addr → Prop) → Prop} (h : Part F H o' v z f fp R) (s : Same F F') (k : ∀ b, fp b → H' b = H b) : Part F' H' o' v z f fp R :=
  ⟨o'.mono s (fun b hb => k b (h.sub b hb)) h.rel, h.sub, fun F2 H2 v' a' f' s2 k2 n r => h.put F2 H2 v' a' f' (s.trans s2) (fun b q w => (k2 b q w).trans (k b q)) n r⟩
theorem EnvF.kept {σ : L2.St} {F H F' H' : Hp} {fp : Nat → Addr → Prop} (h : EnvF B Γ σ F H fp) (e : Ext F H F' H') (i : Nat) : ∀ b, fp i b → H' b = H b := fun b hb => by
  cases q : H b with
  | none => exact absurd q (h.own_at hb).2.1
  | some u => exact e.h b u q
theorem dp_name (c : XC P w K mg base k N sc vs ls X) (i : Nat) {o : Own α} {z : α} (at_ : At Γ i (.own o z)) (hN : N[i]? = some x := by rfl) (hv : vs.contains i = true := by rfl)
    (hd : (x == ("__debug__" : Str)) = false := by decide) (hcd : (x == ("__classdict__" : Str)) = false := by decide) : DP X B Γ (.Name x pos) i o z o z id := by
  have hN' : X.N[i]? = some x := by rw [c.N]; exact hN
  refine pe_weak (pe_var hN' (c.vis i x hN' hv) hd hcd) fun σ H Q ⟨F, fp, en, q⟩ => ?_
  obtain ⟨⟨v, hv, hr⟩, hn⟩ := en.ok i _ at_.get
  refine ⟨v, hv, q v F H (Ext.refl en.same) ⟨v, fp i, hv, hr, fun _ z => z, fun F2 H2 v' a' f' s k n r e => ?_⟩⟩
  subst e
  exact Own.cast r fun b => ⟨fun z => z.elim (fun w => absurd w.1 w.2) id, .inr⟩
theorem dp_l {i : Nat} {o : Own α} {z : α} {r : Rp β} {us : List β} {put : List β → α} (h : DP X B Γ e i o z (oList r) us put) : DP X B Γ e i o z (oLs (oVal r)) us put :=
  pe_weak h fun σ H Q ⟨F, fp, en, q⟩ => ⟨F, fp, en, fun v' F1 H1 e1 ⟨v, f, h1, h2⟩ => q v' F1 H1 e1 ⟨v, f, h1, oList_iff.1 h2.rel, h2.sub, fun F2 H2 v' a' f' s k n r => h2.put F2 H2 v' a' f' s k n (oList_iff.2 r)⟩⟩
theorem atI_get {us : List α} {ix : Int} (h : -(us.length : Int) ≤ ix ∧ ix < us.length) : ∃ n, ixN us.length ix = some n ∧ n < us.length := by
  unfold ixN
  by_cases h0 : 0 ≤ ix
  · rw [if_pos h0, if_pos h.2]; exact ⟨_, rfl, by omega⟩
  · rw [if_neg h0, if_pos h.1]; exact ⟨_, rfl, by omega⟩
/-- a part of a list that is a part -/
theorem dp_ix [Inhabited β] {i : Nat} {o : Own α} {z : α} {o1 : Own β} {us : List β} {put : List β → α} {ix : Int} (ha : DP X B Γ a i o z (oLs o1) us put) (hb : DE X B Γ b rInt ix) (h : -(us.length : Int) ≤ ix ∧ ix < us.length) (hs : PlainIx b := by intro _ _; rfl) :
    DP X B Γ (.Subscript a b pos) i o z o1 (gI us ix) (fun y => put (setL' us ix y)) :=
  pe_weak (pe_ix ix_list ha hb hs) fun σ H Q ⟨F, fp, en, q⟩ => ⟨F, fp, en, fun v' F1 H1 e1 ⟨v, f, h1, h2⟩ => ⟨F1, ⟨fp, en.ext e1⟩, fun u F2 H2 e2 h4 => by
    have h3 := h2.ext e2.f ((en.ext e1).kept e2 i)
    obtain ⟨p, ws, g, rfl, g1, g2, g3, g4⟩ := h3.rel
    obtain ⟨n, n1, n2⟩ := atI_get h
    have eg : us[n]? = some (gI us ix) := by
      have := atI_in h
      unfold atI at this
      rw [n1] at this
      exact this
    obtain ⟨y', f2, k1, k2⟩ := g2.get eg
    have hat : L2.atI ws ix = some y' := by
      unfold L2.atI
      rw [g2.length, n1]
      exact k1
    refine ⟨p, ws, ix, y', rfl, h4, SqL.of g1, hat, q y' F2 H2 (e1.trans e2) ⟨v, f2, h1, k2.rel, fun b hb => h3.sub b ((g4 b).2 (.inr (k2.sub b hb))), fun F3 H3 v3 a3 f3 s3 kp3 n3 r3 ev => ?_⟩⟩
    subst ev
    have pp : ¬ f2 p := fun z => g3 (k2.sub p z)
    have hp3 : H3 p = some (.lst ws) := by rw [kp3 p (h3.sub p ((g4 p).2 (.inl rfl))) pp]; exact g1
    have k3 := k2.put F3 H3 v3 a3 f3 s3 (fun b zb nb => kp3 b (h3.sub b ((g4 b).2 (.inr zb))) nb) (fun b zb => (n3 b zb).imp id fun w zz => w (h3.sub b ((g4 b).2 (.inr zz)))) r3
    have ews : ws.set n v3 = ws := by
      have hl : n < ws.length := by rw [g2.length]; exact n2
      rw [List.getElem?_eq_getElem hl] at k1
      cases k1
      exact List.set_getElem_self hl
    rw [ews] at k3
    have es : setL' us ix a3 = us.set n a3 := by unfold setL'; rw [n1]
    have rr : (oLs o1).rel F3 H3 (.ref p) (setL' us ix a3) (fun b => b = p ∨ ((g b ∧ ¬ f2 b) ∨ f3 b)) := by
      refine ⟨p, ws, _, rfl, hp3, by rw [es]; exact k3, fun zz => ?_, fun b => Iff.rfl⟩
      rcases zz with ⟨zz, _⟩ | zz
      · exact g3 zz
      · rcases n3 p zz with w | w
        · exact pp w
        · exact w (h3.sub p ((g4 p).2 (.inl rfl)))
    have fin := h3.put F3 H3 (.ref p) _ _ s3 (fun b zb nb => kp3 b zb fun w => nb ((g4 b).2 (.inr (k2.sub b w)))) (fun b zb => ?_) rr rfl
    · refine Own.cast fin fun b => ⟨?_, ?_⟩
      · rintro (⟨w1, w2⟩ | w)
        · by_cases wf : f b
          · rcases (g4 b).1 wf with w3 | w3
            · exact .inr (.inl w3)
            · exact .inr (.inr (.inl ⟨w3, w2⟩))
          · exact .inl ⟨w1, wf⟩
        · exact .inr (.inr (.inr w))
      · rintro (⟨w1, w2⟩ | w | ⟨w1, w2⟩ | w)
        · exact .inl ⟨w1, fun zz => w2 ((g4 b).2 (.inr (k2.sub b zz)))⟩
        · subst w; exact .inl ⟨h3.sub _ ((g4 _).2 (.inl rfl)), pp⟩
        · exact .inl ⟨h3.sub _ ((g4 _).2 (.inr w1)), w2⟩
        · exact .inr w
    · rcases zb with w | ⟨w, _⟩ | w
      · exact .inl ((g4 b).2 (.inl w))
      · exact .inl ((g4 b).2 (.inr w))
      · exact (n3 b w).imp (fun zz => (g4 b).2 (.inr (k2.sub b zz))) id⟩⟩
/-- a part changed: what stands in the slots then -/
theorem EnvF.part {σ : L2.St} {F H H' : Hp} {fp : Nat → Addr → Prop} {i : Nat} {o : Own α} {z : α} {o' : Own β} {b' : β} {v v' : V} {f f' : Addr → Prop} {zz : β} {put : β → α} (h : EnvF B Γ σ F H fp) (at_ : At Γ i (.own o z)) (t : To Γ i (.own o (put b')) Γ') (hv : σ[i]? = some (some v))
    (hp : Part F H o' v' zz f (fp i) (fun F2 H2 w' b' g => w' = v' → o.rel F2 H2 v (put b') g)) (k : ∀ b, H b ≠ none → ¬ f b → H' b = H b) (n : ∀ b, f' b → H' b ≠ none ∧ (f b ∨ (F b = none ∧ B.H b = none ∧ ∀ j, ¬ fp j b))) (r : o'.rel F H' v' b' f') :
    Env B Γ' σ F H' := by
  have nf : ∀ j b, j ≠ i → fp j b → ¬ f b := fun j b hj q w => h.apart j i hj b q (hp.sub b w)
  have fo : ∀ b, f b → F b = none ∧ H b ≠ none ∧ B.H b = none := fun b w => h.own_at (hp.sub b w)
  have kF : ∀ b u, F b = some u → H' b = some u := fun b u q => by
    rw [k b (by rw [h.same b u q]; intro w; cases w) fun w => by rw [(fo b w).1] at q; cases q]
    exact h.same b u q
  refine ⟨_, h.putG (fi := fun b => (fp i b ∧ ¬ f b) ∨ f' b) t rfl (fun j hj => rfl) ⟨h.base.f, fun b u q => ?_, kF, h.base.d⟩ kF (Same.refl F) (fun j b hj q => ⟨k b (h.own_at q).2.1 (nf j b hj q), (h.own_at q).1⟩) ⟨⟨v, hv, ?_⟩, fun b hb => ?_⟩ (fun j b hj q w => ?_)⟩
  · rw [k b (by rw [h.base.h b u q]; intro w; cases w) fun w => by rw [(fo b w).2.2] at q; cases q]
    exact h.base.h b u q
  · exact hp.put F H' v' b' f' (Same.refl F) (fun b q w => k b (h.own_at q).2.1 w) (fun b q => (n b q).2.imp id fun w => w.2.2 i) r rfl
  · rcases hb with ⟨q, w⟩ | q
    · have z := h.own_at q
      exact ⟨z.1, by rw [k b z.2.1 w]; exact z.2.1, z.2.2⟩
    · rcases (n b q).2 with w | w
      · exact ⟨(fo b w).1, (n b q).1, (fo b w).2.2⟩
      · exact ⟨w.1, (n b q).1, w.2.1⟩
  · rcases w with ⟨w, _⟩ | w
    · exact h.apart j i hj b q w
    · rcases (n b w).2 with z | z
      · exact nf j b hj q z
      · exact z.2.2 j q
end
end DL
namespace DL
open PySem L2 PySem.Spec PyProof.Rows
section
variable {P : Program} {w : World} {K : PySem.W.Frag} {mg : Str → Option Value} {base : Heap} {k j : Nat} {N : List Str} {sc : Scope} {vs ls : List Nat} {X : Cx} {α β γ ι ρ : Type} {B : Bs} {Γ Γ' : Ctx} {e a b d tg iter elt : Expr} {es ifs : List Expr} {D : Ends} {rest ss : List Stmt} {p pos apos : Pos} {x y f m : Str} {scope : Scope}
/-- e[b] = val, e a part that is a list -/
theorem c_setP (c : XC P w K mg base k N sc vs ls X) {i : Nat} {o : Own α} {z : α} {o1 : Own β} {us : List β} {put : List β → α} {yv : β} {ix : Int} {val : Expr} {p2 : Pos} (at_ : At Γ i (.own o z)) (ha : DP X B Γ a i o z (oLs o1) us put) (hv : DQ X B Γ val o1 yv) (hi : DE X B Γ d rInt ix)
    (t : To Γ i (.own o (put (setL' us ix yv))) Γ') (hr : SD X B Γ' rest D) (hz : -(us.length : Int) ≤ ix ∧ ix < us.length)
    (hass : ∀ v, assign (.Subscript a d p2) X.env v = (do
      let ov ← holding [v] (eval a X.env)
      let iv ← holding [v, ov] (eval d X.env)
      standAt p2
      holding [v, ov, iv] (setItem ov iv v)
      release [v, ov, iv] []) := by intro _; rfl)
    (hs : swapsWithSole [.Subscript a d p2] val pos.line X.env = pure false := by rfl) (hw : swappedStores [.Subscript a d p2] val X.env = pure none := by rfl) :
    SD X B Γ (.Assign [.Subscript a d p2] val pos :: rest) D := by
  refine sd_cons (ps_asg hv (pg_sub ha hi set_list hass) hs hw) (fun D' l σ H ⟨F, fp, en⟩ => ⟨F, ⟨fp, en⟩, fun u F1 H1 f5 e1 h1 hn1 => ?_⟩) hr
  refine ⟨F1, fp, en.ext e1, fun v' F2 H2 e2 ⟨v, fl, q1, q2⟩ => ?_⟩
  refine ⟨F2, ⟨fp, (en.ext e1).ext e2⟩, fun ui F3 H3 e3 h5 => ?_⟩
  have en3 := ((en.ext e1).ext e2).ext e3
  have q3 := q2.ext e3.f (((en.ext e1).ext e2).kept e3 i)
  obtain ⟨q, ws, g, rfl, g1, g2, g3, g4⟩ := id q3.rel
  obtain ⟨n, n1, n2⟩ := atI_get hz
  have eg : us[n]? = some us[n] := List.getElem?_eq_getElem n2
  obtain ⟨y', f2, k1, k2⟩ := g2.get eg
  have fpq : fp i q := q3.sub q ((g4 q).2 (.inl rfl))
  have nq : ∀ b, f5 b → ∀ jj, ¬ fp jj b := fun b hb jj zz => (en.own_at zz).2.1 (hn1 b hb).2.1
  have k13 : ∀ b, f5 b → H3 b = H1 b := fun b hb => by
    cases zz : H1 b with
    | none => exact absurd zz (hn1 b hb).2.2
    | some w => exact e3.h _ _ (e2.h _ _ zz)
  have bq : ∀ b, f5 b → b ≠ q := fun b hb zz => nq b hb i (by rw [zz]; exact fpq)
  have k3 := k2.put F3 (upd H3 q (.lst (ws.set n u))) u yv f5 (Same.refl F3) (fun b zb _ => upd_ne fun zz => g3 (by rw [← zz]; exact zb)) (fun b hb => .inr fun zz => nq b hb i (q3.sub b ((g4 b).2 (.inr zz)))) (o1.mono (e2.f.trans e3.f) (fun b hb => by rw [upd_ne (bq b hb)]; exact k13 b hb) h1)
  have es : setL' us ix yv = us.set n yv := by unfold setL'; rw [n1]
  refine ⟨q, ws, ix, n, rfl, h5, g1, by rw [g2.length]; exact n1, l.nx _ _ ⟨F3, ?_⟩⟩
  refine en3.part (f' := fun b => b = q ∨ ((g b ∧ ¬ f2 b) ∨ f5 b)) at_ t q1 q3 (fun b hb nb => upd_ne fun zz => nb ((g4 b).2 (.inl zz))) (fun b hb => ?_) ⟨q, _, _, rfl, upd_same, by rw [es]; exact k3, fun zz => ?_, fun b => Iff.rfl⟩
  · rcases hb with rfl | ⟨hb, _⟩ | hb
    · exact ⟨(by rw [upd_same]; intro zz; cases zz), .inl ((g4 _).2 (.inl rfl))⟩
    · have hfb : fl b := (g4 b).2 (.inr hb)
      exact ⟨by rw [upd_ne fun zz => g3 (by rw [← zz]; exact hb)]; exact (en3.own_at (q3.sub b hfb)).2.1, .inl hfb⟩
    · have q6 := hn1 b hb
      exact ⟨by rw [upd_ne (bq b hb), k13 b hb]; exact q6.2.2, .inr ⟨(e2.trans e3).d b q6.1 q6.2.2, en.base.h.free q6.2.1, nq b hb⟩⟩
  · rcases zz with ⟨zz, _⟩ | zz
    · exact g3 zz
    · exact bq q zz rfl
/-- e.append(val), e a part that is a list -/
theorem c_appP (c : XC P w K mg base k N sc vs ls X) {i : Nat} {o : Own α} {z : α} {o1 : Own β} {us : List β} {put : List β → α} {yv : β} (at_ : At Γ i (.own o z)) (ha : DP X B Γ a i o z (oLs o1) us put) (hv : DQ X B Γ e o1 yv)
    (t : To Γ i (.own o (put (us ++ [yv]))) Γ') (hr : SD X B Γ' rest D) (hz : us.length ≤ 1000000)
    (hbase : attributeBase a "append" X.env (eval a X.env) = eval a X.env := by rfl)
    (hfew : ((backTo p (starEach [e] X.env)).all (fun x => !x.1) && (backToKw p (keywordEach [] X.env)).all (fun x => x.1.isSome) && decide ([e].length + ([] : List Keyword).length + (if ([] : List Keyword).isEmpty then 0 else 1) < 30)) = true := by rfl)
    (hline : (apos.endLine == p.line) = true := by rfl) (hs : starEach [e] X.env = (false, eval e X.env) :: starEach [] X.env := by rfl) (hsw : swapsWith (.Call (.Attribute a "append" apos) [e] [] p) none pos.line X.env = pure false := by rfl) :
    SD X B Γ (.Expr (.Call (.Attribute a "append" apos) [e] [] p) pos :: rest) D := by
  refine sd_cons (ps_expr (pe_bm PySem.F.plainAttrs_list PySem.F.slot_list_append PySem.F.type_list_append mt_append ha (pa_cons hv pa_nil hs) hbase hfew hline hs (by rfl)) hsw) (fun D' l σ H ⟨F, fp, en⟩ => ⟨F, fp, en, fun v' F1 H1 e1 ⟨v, fl, q1, q2⟩ => ?_⟩) hr
  obtain ⟨q, ws, g, rfl, g1, g2, g3, g4⟩ := id q2.rel
  refine ⟨.inl ⟨rfl, ws, SqL.of g1⟩, F1, ⟨fp, en.ext e1⟩, fun u F2 H2 f5 e2 h5 hn5 => ?_⟩
  have en2 := (en.ext e1).ext e2
  have q3 := q2.ext e2.f ((en.ext e1).kept e2 i)
  have g1' : H2 q = some (.lst ws) := e2.h _ _ g1
  have g2' := g2.mono e2.f (H' := H2) fun b hb => ((en.ext e1).kept e2 i) b (q2.sub b ((g4 b).2 (.inr hb)))
  have nq : ∀ b, f5 b → ∀ jj, ¬ fp jj b := fun b hb jj zz => ((en.ext e1).own_at zz).2.1 (hn5 b hb).2.1
  have fpq : fp i q := q2.sub q ((g4 q).2 (.inl rfl))
  have bq : ∀ b, f5 b → b ≠ q := fun b hb zz => nq b hb i (by rw [zz]; exact fpq)
  refine ⟨q, ws, u, rfl, rfl, g1', by rw [g2.length]; exact Nat.lt_of_le_of_lt hz (by decide), l.nx _ _ ⟨F2, ?_⟩⟩
  refine en2.part (f' := fun b => b = q ∨ (g b ∨ f5 b)) at_ t q1 q3 (fun b hb nb => upd_ne fun zz => nb ((g4 b).2 (.inl zz))) (fun b hb => ?_) ⟨q, _, _, rfl, upd_same, Ols.append (o1.mono (Same.refl F2) (fun b hb => upd_ne (bq b hb)) h5) (g2'.mono (Same.refl F2) fun b hb => upd_ne fun zz => g3 (by rw [← zz]; exact hb)) (fun b zb zz => nq b zz i (q2.sub b ((g4 b).2 (.inr zb)))), fun zz => ?_, fun b => Iff.rfl⟩
  · rcases hb with rfl | hb | hb
    · exact ⟨(by rw [upd_same]; intro zz; cases zz), .inl ((g4 _).2 (.inl rfl))⟩
    · have hfb : fl b := (g4 b).2 (.inr hb)
      exact ⟨by rw [upd_ne fun zz => g3 (by rw [← zz]; exact hb)]; exact (en2.own_at (q3.sub b hfb)).2.1, .inl hfb⟩
    · have q6 := hn5 b hb
      exact ⟨by rw [upd_ne (bq b hb)]; exact q6.2.2, .inr ⟨q6.1, (en.ext e1).base.h.free q6.2.1, nq b hb⟩⟩
  · rcases zz with zz | zz
    · exact g3 zz
    · exact bq q zz rfl
theorem Part.whole {o : Own α} {F H : Hp} {v : V} {z : α} {fp : Addr → Prop} (h : o.rel F H v z fp) : Part F H o v z fp fp (fun F2 H2 w' b' g => w' = v → o.rel F2 H2 v b' g) :=
  ⟨h, fun _ w => w, fun F2 H2 v' a' f' s k n r e => by subst e; exact Own.cast r fun b => ⟨fun w => w.elim (fun q => absurd q.1 q.2) id, .inr⟩⟩
/-- the n-th of a list's own parts -/
theorem ls_part {o1 : Own β} {F H : Hp} {p : Addr} {us : List β} {ws : List V} {fp : Addr → Prop} {n : Nat} {z : β} (h : (oLs o1).rel F H (.ref p) us fp) (hp : H p = some (.lst ws)) (hn : us[n]? = some z) :
    ∃ v f, ws[n]? = some v ∧ ¬ f p ∧ fp p ∧ Part F H o1 v z f fp (fun F2 H2 w' b' g => w' = v → (oLs o1).rel F2 H2 (.ref p) (us.set n b') g) := by
  obtain ⟨p', ws', g, e, g1, g2, g3, g4⟩ := h
  cases e
  rw [hp] at g1
  cases g1
  obtain ⟨v, f, k1, k2⟩ := g2.get hn
  have pp : ¬ f p := fun zz => g3 (k2.sub p zz)
  refine ⟨v, f, k1, pp, (g4 p).2 (.inl rfl), k2.rel, fun b hb => (g4 b).2 (.inr (k2.sub b hb)), fun F2 H2 v' a' f' s kp nn r ev => ?_⟩
  subst ev
  have hl : n < ws.length := by rw [g2.length]; exact (List.getElem?_eq_some_iff.mp hn).1
  have ews : ws.set n v' = ws := by
    rw [List.getElem?_eq_getElem hl] at k1
    cases k1
    exact List.set_getElem_self hl
  have k3 := k2.put F2 H2 v' a' f' s (fun b zb nb => kp b ((g4 b).2 (.inr zb)) nb) (fun b zb => (nn b zb).imp id fun w zz => w ((g4 b).2 (.inr zz))) r
  rw [ews] at k3
  refine ⟨p, ws, _, rfl, by rw [kp p ((g4 p).2 (.inl rfl)) pp]; exact hp, k3, fun zz => ?_, fun b => ?_⟩
  · rcases zz with ⟨zz, _⟩ | zz
    · exact g3 zz
    · exact (nn p zz).elim pp fun w => w ((g4 p).2 (.inl rfl))
  · constructor
    · rintro (⟨w1, w2⟩ | w)
      · exact ((g4 b).1 w1).imp id fun w3 => .inl ⟨w3, w2⟩
      · exact .inr (.inr w)
    · rintro (w | ⟨w1, w2⟩ | w)
      · subst w; exact .inl ⟨(g4 _).2 (.inl rfl), pp⟩
      · exact .inl ⟨(g4 _).2 (.inr w1), w2⟩
      · exact .inr w
/-- for x in xs: x.append(e), xs an own list of own lists -/
theorem c_forApp (c : XC P w K mg base k N sc vs ls X) (i jx : Nat) {xn xr : Str} {p1 p2 p3 pos2 : Pos} {r : Rp β} {as : List (List β)} {yv : β} {Γs : List (List β) → Ctx} (at_ : At Γ i (.own (oLs (oList r)) as)) (un_ : At Γ jx .un)
    (t : ∀ as', To Γ i (.own (oLs (oList r)) as') (Γs as')) (ats : ∀ as', At (Γs as') i (.own (oLs (oList r)) as')) (ts : ∀ as' as'', To (Γs as') i (.own (oLs (oList r)) as'') (Γs as'')) (tu : ∀ as', To (Γs as') jx .un (Γs as')) (he : ∀ L as', DE X (B.lo L) (Γs as') e r yv) (hr : SD X B (Γs (as.map fun l => l ++ [yv])) rest D) (hz : ∀ l ∈ as, l.length ≤ 1000000)
    (hN : N[i]? = some xr := by rfl) (hv : vs.contains i = true := by rfl) (hN2 : N[jx]? = some xn := by rfl) (hl2 : ls.contains jx = true := by rfl) (hv2 : vs.contains jx = true := by rfl) (hij : jx ≠ i := by decide)
    (hd : (xr == ("__debug__" : Str)) = false := by decide) (hcd : (xr == ("__classdict__" : Str)) = false := by decide) (hd2 : (xn == ("__debug__" : Str)) = false := by decide) (hcd2 : (xn == ("__classdict__" : Str)) = false := by decide)
    (hbase : attributeBase (.Name xn p3) "append" X.env (eval (.Name xn p3) X.env) = eval (.Name xn p3) X.env := by rfl)
    (hfew : ((backTo p (starEach [e] X.env)).all (fun x => !x.1) && (backToKw p (keywordEach [] X.env)).all (fun x => x.1.isSome) && decide ([e].length + ([] : List Keyword).length + (if ([] : List Keyword).isEmpty then 0 else 1) < 30)) = true := by rfl)
    (hline : (apos.endLine == p.line) = true := by rfl) (hst : starEach [e] X.env = (false, eval e X.env) :: starEach [] X.env := by rfl) (hsw : swapsWith (.Call (.Attribute (.Name xn p3) "append" apos) [e] [] p) none pos2.line X.env = pure false := by rfl)
    (hs : ∀ x, foldedSetIterable (.Name xr p2) X.env x = pure x := by intro _; rfl) :
    SD X B Γ (.For (.Name xn p1) (.Name xr p2) [.Expr (.Call (.Attribute (.Name xn p3) "append" apos) [e] [] p) pos2] [] pos :: rest) D := by
  have hN' : X.N[i]? = some xr := by rw [c.N]; exact hN
  have hN2' : X.N[jx]? = some xn := by rw [c.N]; exact hN2
  have HE := pe_ex (I := Hp × List (List β)) (Φ := fun _ => True) (t := fun q => tD (B.lo q.1) (Γs q.2) r yv) fun q _ => he q.1 q.2
  have HB := pss_cons (ps_expr (pe_bm PySem.F.plainAttrs_list PySem.F.slot_list_append PySem.F.type_list_append mt_append (pe_var hN2' (c.vis jx xn hN2' hv2) hd2 hcd2) (pa_cons HE pa_nil hst) hbase hfew hline hst (by rfl)) hsw) pss_nil
  have HG : PG X (.Name xn p1) (gName jx) := pg_name c.nd hN2' (c.loc jx xn hN2' hl2).1 (c.loc jx xn hN2' hl2).2
  refine pss_weak (pss_cons (ps_for c.po c.calm (pi_list (tg := .Name xn p1) (pe_var hN' (c.vis i xr hN' hv) hd hcd)) HG HB hs) hr) fun D' σ H ⟨hD, F, en⟩ => ?_
  obtain ⟨fp, en0⟩ := id en
  obtain ⟨⟨v, hvs, hrel⟩, hn⟩ := en0.ok i _ at_.get
  obtain ⟨q, ws, g, rfl, g1, g2, g3, g4⟩ := id hrel
  have hlen : ws.length = as.length := g2.length
  let fz : Nat → List (List β) := fun i => (as.take i).map (fun l => l ++ [yv]) ++ as.drop i
  refine ⟨.ref q, hvs, q, rfl, ⟨ws, SqL.of g1⟩, ?_⟩
  refine ⟨fun n m σ' H' => m = as.length - n ∧ n ≤ as.length ∧ ∃ F', Env (B.lo B.L) (Γs (fz n)) σ' F' H' ∧ σ'[i]? = some (some (.ref q)) ∧ H' q = some (.lst ws), ⟨as.length, by simp, Nat.zero_le _, F, ?_, hvs, g1⟩, ?_⟩
  · have e0 : fz 0 = as := by simp [fz]
    rw [e0]
    have : Γs as = Γ := by
      have h1 := (t as).set.1
      rw [h1]
      have h2 := at_.get
      have h3 := (t as).set.2
      rw [List.getElem?_eq_getElem h3] at h2
      have h4 : Γ[i] = .own (oLs (oList r)) as := Option.some.inj h2
      rw [← h4]
      exact List.set_getElem_self h3
    rw [this]
    exact en
  rintro n m σ2 H2 ⟨rfl, hn2, F2, en2, hσ2, hq2⟩
  by_cases hlt : n < as.length
  · refine .inr ⟨⟨ws, ws[n]'(by omega), SqL.of hq2, by simp⟩, fun σ' H' => ∃ F', Env B (Γs (fz (n + 1))) σ' F' H' ∧ σ'[i]? = some (some (.ref q)) ∧ H' q = some (.lst ws), fun σ' H' ⟨F', z1, z2, z3⟩ => ⟨as.length - (n + 1), by omega, rfl, hlt, F', z1, z2, z3⟩, fun x H' y => ?_⟩
    obtain ⟨rfl, y⟩ := y
    have hx : ws[n]? = some x := y ws (SqL.of hq2)
    obtain ⟨fp2, en2'⟩ := en2
    have hjl : jx < (Γs (fz n)).length := (tu (fz n)).set.2
    have en3 : Env B (Γs (fz n)) (σ2.set jx (some x)) F2 H' := en2'.put (tu (fz n)) (fun _ z => z)
    obtain ⟨fp3, en3'⟩ := id en3
    have hσ3 : (σ2.set jx (some x))[i]? = some (some (.ref q)) := by rw [List.getElem?_set_ne hij]; exact hσ2
    have hx3 : (σ2.set jx (some x))[jx]? = some (some x) := List.getElem?_set_self (by rw [en2'.len]; exact hjl)
    obtain ⟨⟨v3, hv3, hrel3⟩, hn3⟩ := en3'.ok i _ (ats (fz n)).get
    rw [hσ3] at hv3
    cases hv3
    have efz : (fz n)[n]? = some (as[n]'hlt) := by
      show ((as.take n).map _ ++ as.drop n)[n]? = _
      have ht : ((as.take n).map fun l => l ++ [yv]).length = n := by simp; omega
      rw [List.getElem?_append_right (by omega), ht, Nat.sub_self]
      simp [hlt]
    obtain ⟨v4, f4, w1, w2, w3, w4⟩ := ls_part hrel3 hq2 efz
    rw [hx] at w1
    cases w1
    obtain ⟨q5, us5, e5, w5, w6, w7⟩ := id w4.rel
    subst e5
    refine ⟨.ref q5, hx3, .inl ⟨rfl, us5, SqL.of w6⟩, (B.L, fz n), trivial, F2, en3, fun u F6 H6 e6 h6 => ?_⟩
    have en6 := en3'.ext e6
    have w8 := w4.ext e6.f (en3'.kept e6 i)
    have hq6 : H6 q = some (.lst ws) := e6.h _ _ hq2
    have w6' : H6 q5 = some (.lst us5) := e6.h _ _ w6
    have hqq : q ≠ q5 := fun zz => w2 (by rw [w5]; exact zz)
    refine ⟨q5, us5, u, rfl, rfl, w6', by rw [w7.length]; exact Nat.lt_of_le_of_lt (hz _ (List.getElem_mem hlt)) (by decide), F6, ?_, hσ3, by rw [upd_ne hqq]; exact hq6⟩
    have es : fz (n + 1) = (fz n).set n (as[n]'hlt ++ [yv]) := by
      show (as.take (n + 1)).map _ ++ as.drop (n + 1) = ((as.take n).map _ ++ as.drop n).set n _
      have ht : ((as.take n).map fun l => l ++ [yv]).length = n := by simp; omega
      have e9 : (as.take (n + 1)).map (fun l => l ++ [yv]) = (as.take n).map (fun l => l ++ [yv]) ++ [as[n]'hlt ++ [yv]] := by
        rw [List.take_succ, List.getElem?_eq_getElem hlt, List.map_append]; rfl
      rw [List.set_append_right _ _ (by omega), ht, Nat.sub_self, List.drop_eq_getElem_cons hlt, List.set_cons_zero, e9, List.append_assoc]
      rfl
    rw [es]
    refine en6.part (o := oLs (oList r)) (put := fun b' => (fz n).set n b') (f' := fun b => b = q5) (ats (fz n)) (ts _ _) hσ3 w8 (fun b hb nb => upd_ne fun zz => nb (by rw [w5]; exact zz)) (fun b hb => ?_) ⟨q5, _, rfl, rfl, upd_same, Rl.append (Rl.imp (fun _ _ => r.mono e6.f) w7) (Rl.one h6)⟩
    subst hb
    exact ⟨(by rw [upd_same]; intro zz; cases zz), .inl (by rw [w5])⟩
  · have e : n = as.length := by omega
    subst e
    refine .inl ⟨⟨ws, SqL.of hq2, by omega⟩, hD, F2, ?_⟩
    have e0 : fz as.length = as.map fun l => l ++ [yv] := by show (as.take as.length).map _ ++ as.drop as.length = _; rw [List.take_length, List.drop_length, List.append_nil]
    rw [e0] at en2
    exact en2
end
end DL
namespace DL
open PySem L2 PySem.Spec PyProof.Rows
/-- all of it is in its own addresses -/
def FrzN {α : Type} (o : Own α) (r : Rp α) : Prop := ∀ F H v a fp, o.rel F H v a fp → ∃ G : Hp, (∀ b u, G b = some u → fp b ∧ H b = some u) ∧ r.rel G v a
theorem frz_of {α : Type} {o : Own α} {r : Rp α} (h : FrzN o r) : Frz o r := fun F H v a fp hn q => by
  obtain ⟨G, a1, a2⟩ := h F H v a fp q
  exact ⟨G, a1, r.mono (fun b u z => join_r z) a2⟩
theorem frzN_val {α : Type} {r : Rp α} (sc : Sc r) : FrzN (oVal r) r := fun F H v a fp q => ⟨fun _ => none, (fun b u z => by cases z), sc _ _ _ _ q.1⟩
theorem frzN_ols {α : Type} {o : Own α} {r : Rp α} (fz : FrzN o r) {F H : Hp} : ∀ {vs : List V} {as : List α} {fp : Addr → Prop}, Ols o F H vs as fp → ∃ G : Hp, (∀ b u, G b = some u → fp b ∧ H b = some u) ∧ Rl (r.rel G) vs as
  | [], [], fp, _ => ⟨fun _ => none, (fun b u z => by cases z), trivial⟩
  | v :: vs, a :: as, fp, ⟨f, g, h1, h2, h3, h4⟩ => by
    obtain ⟨G1, a1, a2⟩ := fz F H v a f h1
    obtain ⟨G2, b1, b2⟩ := frzN_ols fz h2
    refine ⟨join G1 G2, fun b u z => ?_, r.mono (fun b u z => ?_) a2, Rl.imp (fun _ _ => r.mono fun b u z => join_r z) b2⟩
    · cases w : G2 b with
      | some x => rw [join_r w] at z; cases z; exact ⟨(h4 b).2 (.inr (b1 b _ w).1), (b1 b _ w).2⟩
      | none => rw [join_l w] at z; exact ⟨(h4 b).2 (.inl (a1 b _ z).1), (a1 b _ z).2⟩
    · cases w : G2 b with
      | some x => exact absurd (b1 b x w).1 (h3 b (a1 b u z).1)
      | none => rw [join_l w]; exact z
  | [], _ :: _, _, h => h.elim
  | _ :: _, [], _, h => h.elim
theorem frzN_ls {α : Type} {o : Own α} {r : Rp α} (fz : FrzN o r) : FrzN (oLs o) (rList r) := fun F H v as fp ⟨p, vs, g, h1, h2, h3, h4, h5⟩ => by
  obtain ⟨G, a1, a2⟩ := frzN_ols fz h3
  have gp : G p = none := by
    cases w : G p with
    | none => rfl
    | some x => exact absurd (a1 p x w).1 h4
  refine ⟨upd G p (.lst vs), fun b u z => ?_, p, vs, h1, upd_same, Rl.imp (fun _ _ => r.mono (same_new gp)) a2⟩
  by_cases e : b = p
  · subst e; rw [upd_same] at z; cases z; exact ⟨(h5 b).2 (.inl rfl), h2⟩
  · rw [upd_ne e] at z; exact ⟨(h5 b).2 (.inr (a1 b u z).1), (a1 b u z).2⟩
theorem frzN_list {α : Type} {r : Rp α} (sc : Sc r) : FrzN (oList r) (rList r) := fun F H v as fp q => frzN_ls (frzN_val sc) F H v as fp (oList_iff.1 q)
/-- what it is leans on nothing that stands still -/
def Cl {α : Type} (o : Own α) : Prop := ∀ F F' H v a fp, o.rel F H v a fp → o.rel F' H v a fp
theorem cl_val {α : Type} {r : Rp α} (sc : Sc r) : Cl (oVal r) := fun F F' H v a fp h => ⟨sc _ _ _ _ h.1, h.2⟩
theorem cl_list {α : Type} {r : Rp α} (sc : Sc r) : Cl (oList r) := fun F F' H v a fp ⟨p, vs, h1, h2, h3, h4⟩ => ⟨p, vs, h1, h2, h3, Rl.imp (fun _ _ => sc _ _ _ _) h4⟩
theorem cl_all {α : Type} {r : Rp α} : Cl (oAll r) := fun F F' H v a fp h => h
theorem cl_ols {α : Type} {o : Own α} (cl : Cl o) {F F' H : Hp} : ∀ {vs : List V} {as : List α} {fp : Addr → Prop}, Ols o F H vs as fp → Ols o F' H vs as fp
  | [], [], fp, h => h
  | v :: vs, a :: as, fp, ⟨f, g, h1, h2, h3, h4⟩ => ⟨f, g, cl _ _ _ _ _ _ h1, cl_ols cl h2, h3, h4⟩
  | [], _ :: _, _, h => h.elim
  | _ :: _, [], _, h => h.elim
theorem cl_ls {α : Type} {o : Own α} (cl : Cl o) : Cl (oLs o) := fun F F' H v a fp ⟨p, vs, g, h1, h2, h3, h4, h5⟩ => ⟨p, vs, g, h1, h2, cl_ols cl h3, h4, h5⟩
section
variable {P : Program} {w : World} {K : PySem.W.Frag} {mg : Str → Option Value} {base : Heap} {k j : Nat} {N : List Str} {sc : Scope} {vs ls : List Nat} {X : Cx} {α β γ ι ρ : Type} {B : Bs} {Γ Γ' : Ctx} {e a b d tg iter elt : Expr} {es ifs : List Expr} {D : Ends} {rest ss : List Stmt} {p pos apos : Pos} {x y f m : Str} {scope : Scope}
theorem ve_q {o : Own α} {v : α} (h : DQ X B Γ e o v) : VE X B Γ e (.own o v) := pe_weak h fun σ H Q ⟨F, en, q⟩ => ⟨F, en, fun u F' H' fp e1 h1 h2 => q u F' H' e1 ⟨fp, h1, h2⟩⟩
theorem dn_of_dq {o : Own α} {r : Rp α} {z : α} (fz : FrzN o r) (h : DQ X B Γ e o z) : DN X B Γ e r z := pe_weak h fun σ H Q ⟨F, en, q⟩ => ⟨F, en, fun v F1 H1 fp e1 h1 h2 => by
  obtain ⟨G, a1, a2⟩ := fz F1 H1 v z fp h1
  refine q v G H1 e1.h (fun b u w => (a1 b u w).2) (fun b hb => ?_) a2
  cases w : G b with
  | none => exact absurd w hb
  | some u => exact (h2 b (a1 b u w).1).2.1⟩
theorem de_of_dq {o : Own α} {r : Rp α} {z : α} (fz : Frz o r) (h : DQ X B Γ e o z) : DE X B Γ e r z := pe_weak h fun σ H Q ⟨F, en, q⟩ => ⟨F, en, fun v F1 H1 fp e1 h1 h2 => by
  obtain ⟨G, a1, a2⟩ := fz F1 H1 v z fp (fun b hb => (h2 b hb).1) h1
  have s1 : Same F1 (join F1 G) := fun b u w => by
    rw [join_l]; exact w
    cases w2 : G b with
    | none => rfl
    | some x => rw [(h2 b (a1 b x w2).1).1] at w; cases w
  refine q v (join F1 G) H1 ⟨e1.f.trans s1, e1.h, fun b u w => ?_, fun b hf hh => ?_⟩ a2
  · cases w2 : G b with
    | none => rw [join_l w2] at w; exact e1.i b u w
    | some x => rw [join_r w2] at w; cases w; exact (a1 b _ w2).2
  · cases w2 : G b with
    | none => rw [join_l w2]; exact e1.d b hf hh
    | some x => exact absurd (h2 b (a1 b x w2).1).2.1 hh⟩
/-- a new thing, read through own ones -/
theorem dq_thaw {Γp : Ctx} {i : Nat} {o' : Own β} {r' : Rp β} {z' : β} {o : Own α} {z : α} (fz : Frz o' r') (at_ : At Γ i (.own o' z')) (t : To Γ i (.val r' z') Γp) (cl : Cl o) (h : DQ X B Γp e o z) : DQ X B Γ e o z :=
  pe_weak h fun σ H Q ⟨F, en, q⟩ => by
    obtain ⟨F', en'⟩ := EnvP.freeze fz at_ t σ H ⟨F, en⟩
    refine ⟨F', en', fun v F1 H1 fp e1 h1 h2 => q v F H1 fp ⟨Same.refl F, e1.h, en.same.trans e1.h, fun b hf _ => hf⟩ (cl _ _ _ _ _ _ h1) fun b hb => ⟨en.same.free (h2 b hb).2.1, (h2 b hb).2⟩⟩
end
end DL
namespace DL
open PySem L2 PySem.Spec PyProof.Rows
theorem binds_dfl {K : PySem.W.Frag} {fd : FuncData} {ps : List Str} {T : Addr} {o : Obj} {its : Array Value} {n : Nat} (lT : K.lookup T = some o) (oT : o.data = .seq its n)
    (h : ∀ us : List Value, us.length = ps.length → ∃ k, bindArgs fd ⟨us, []⟩ = seqItems? (.ref T) >>= k ∧ k (some its) = pure (ps.zip us)) : Binds K fd ps [] := fun s us X hl => by
  rw [List.append_nil] at hl ⊢
  obtain ⟨k, e1, e2⟩ := h us hl
  refine BindsTo.of_looks fun M => ?_
  rw [e1]
  exact looks_items X lT oT (.of_pure e2)
/-- the last values are the defaults -/
theorem binds_dfl1 {K : PySem.W.Frag} {fd : FuncData} {ps : List Str} {T : Addr} {o : Obj} {its : Array Value} {m : Nat} {ds : List Value} (n : Nat) (lT : K.lookup T = some o) (oT : o.data = .seq its m)
    (h : ∀ us : List Value, us.length = n → ∃ k, bindArgs fd ⟨us, []⟩ = seqItems? (.ref T) >>= k ∧ k (some its) = pure (ps.zip (us ++ ds))) (hn : n + ds.length = ps.length := by rfl) : Binds K fd ps ds := fun s us X hl => by
  obtain ⟨k, e1, e2⟩ := h us (by rw [List.length_append] at hl; omega)
  refine BindsTo.of_looks fun M => ?_
  rw [e1]
  exact looks_items X lT oT (.of_pure e2)
end DL
namespace DL
open PySem L2 PySem.Spec PyProof.Rows
/-- fields, apart from one another -/
def FOk (F H : Hp) : List V → Ctx → (Addr → Prop) → Prop
  | [], [], fp => ∀ b, ¬ fp b
  | v :: vs, .own o a :: Δ, fp => ∃ f g : Addr → Prop, o.rel F H v a f ∧ FOk F H vs Δ g ∧ (∀ b, f b → ¬ g b) ∧ ∀ b, fp b ↔ (f b ∨ g b)
  | _, _, _ => False
theorem FOk.mono {F F' H H' : Hp} (s : Same F F') : ∀ {vs : List V} {Δ : Ctx} {fp : Addr → Prop}, (∀ b, fp b → H' b = H b) → FOk F H vs Δ fp → FOk F' H' vs Δ fp
  | [], [], _, _, h => h
  | v :: vs, .own o a :: Δ, fp, k, ⟨f, g, h1, h2, h3, h4⟩ => ⟨f, g, o.mono s (fun b hb => k b ((h4 b).2 (.inl hb))) h1, FOk.mono s (fun b hb => k b ((h4 b).2 (.inr hb))) h2, h3, h4⟩
  | _ :: _, .un :: _, _, _, h => h.elim
  | _ :: _, .val _ _ :: _, _, _, h => h.elim
  | [], _ :: _, _, _, h => h.elim
  | _ :: _, [], _, _, h => h.elim
theorem FOk.length {F H : Hp} : ∀ {vs : List V} {Δ : Ctx} {fp : Addr → Prop}, FOk F H vs Δ fp → vs.length = Δ.length
  | [], [], _, _ => rfl
  | v :: vs, .own o a :: Δ, _, ⟨_, _, _, h, _, _⟩ => by simp [FOk.length h]
  | _ :: _, .un :: _, _, h => h.elim
  | _ :: _, .val _ _ :: _, _, h => h.elim
  | [], _ :: _, _, h => h.elim
  | _ :: _, [], _, h => h.elim
theorem FOk.get {F H : Hp} {α : Type} {o : Own α} {a : α} : ∀ {vs : List V} {Δ : Ctx} {fp : Addr → Prop} {n : Nat}, FOk F H vs Δ fp → Δ[n]? = some (.own o a) →
    ∃ v f, vs[n]? = some v ∧ Part F H o v a f fp (fun F' H' v' a' g => FOk F' H' (vs.set n v') (Δ.set n (.own o a')) g)
  | [], [], _, _, _, h => by simp at h
  | v :: vs, .own o' b :: Δ, fp, 0, ⟨f, g, h1, h2, h3, h4⟩, h => by
    have e : Sl.own o' b = .own o a := by simpa using h
    cases e
    refine ⟨v, f, rfl, h1, fun b hb => (h4 b).2 (.inl hb), fun F' H' v' a' f' s k n r => ?_⟩
    refine ⟨f', g, r, h2.mono s (fun b hb => k b ((h4 b).2 (.inr hb)) fun z => h3 b z hb), fun b z w => ?_, fun b => ⟨?_, ?_⟩⟩
    · rcases n b z with q | q
      · exact h3 b q w
      · exact q ((h4 b).2 (.inr w))
    · rintro (⟨q1, q2⟩ | q)
      · exact .inr (((h4 b).1 q1).resolve_left q2)
      · exact .inl q
    · rintro (q | q)
      · exact .inr q
      · exact .inl ⟨(h4 b).2 (.inr q), fun z => h3 b z q⟩
  | v :: vs, .own o' b :: Δ, fp, n + 1, ⟨f, g, h1, h2, h3, h4⟩, h => by
    obtain ⟨u, f2, q1, q2, q3, q4⟩ := FOk.get (n := n) h2 (by simpa using h)
    refine ⟨u, f2, by simpa using q1, q2, fun b hb => (h4 b).2 (.inr (q3 b hb)), fun F' H' v' a' f' s k n r => ?_⟩
    have hf : ∀ b, f b → ¬ f2 b := fun b z w => h3 b z (q3 b w)
    refine ⟨f, _, o'.mono s (fun b hb => k b ((h4 b).2 (.inl hb)) (hf b hb)) h1, q4 F' H' v' a' f' s (fun b z w => k b ((h4 b).2 (.inr z)) w) (fun b z => ?_) r, fun b z w => ?_, fun b => ⟨?_, ?_⟩⟩
    · exact (n b z).imp id fun w q => w ((h4 b).2 (.inr q))
    · rcases w with ⟨w, _⟩ | w
      · exact h3 b z w
      · rcases n b w with q | q
        · exact hf b z q
        · exact q ((h4 b).2 (.inl z))
    · rintro (⟨z, w⟩ | z)
      · exact ((h4 b).1 z).imp id fun q => .inl ⟨q, w⟩
      · exact .inr (.inr z)
    · rintro (z | ⟨z, w⟩ | z)
      · exact .inl ⟨(h4 b).2 (.inl z), hf b z⟩
      · exact .inl ⟨(h4 b).2 (.inr z), w⟩
      · exact .inr z
  | _ :: _, .un :: _, _, _, h, _ => h.elim
  | _ :: _, .val _ _ :: _, _, _, h, _ => h.elim
  | [], _ :: _, _, _, h, _ => h.elim
  | _ :: _, [], _, _, h, _ => h.elim
theorem FOk.append {F H : Hp} {α : Type} {o : Own α} {v : V} {a : α} {f : Addr → Prop} (h : o.rel F H v a f) : ∀ {vs : List V} {Δ : Ctx} {fp : Addr → Prop}, FOk F H vs Δ fp → (∀ b, fp b → ¬ f b) → FOk F H (vs ++ [v]) (Δ ++ [.own o a]) (fun b => fp b ∨ f b)
  | [], [], fp, z, _ => ⟨f, fun _ => False, h, fun _ w => w, fun _ _ w => w, fun b => ⟨fun q => q.elim (fun w => (z b w).elim) .inl, fun q => q.elim .inr False.elim⟩⟩
  | u :: vs, .own o' c :: Δ, fp, ⟨f1, g, h1, h2, h3, h4⟩, d => by
    refine ⟨f1, _, h1, FOk.append h h2 fun b z => d b ((h4 b).2 (.inr z)), fun b z w => w.elim (h3 b z) fun q => d b ((h4 b).2 (.inl z)) q, fun b => ?_⟩
    show (fp b ∨ f b) ↔ _
    rw [h4 b, or_assoc]
  | _ :: _, .un :: _, _, h, _ => h.elim
  | _ :: _, .val _ _ :: _, _, h, _ => h.elim
  | [], _ :: _, _, z, _ => z.elim
  | _ :: _, [], _, z, _ => z.elim
/-- an instance of one's own -/
def oIns {α : Type} (cls : α → Addr) (names : List Str) (flds : α → Ctx) : Own α :=
  ⟨fun F H v a fp => ∃ (y dx : Addr) (fs : List (Str × V)) (g : Addr → Prop), v = .ref y ∧ H y = some (.ins (cls a) dx fs) ∧ fs.map Prod.fst = names ∧ FOk F H (fs.map Prod.snd) (flds a) g ∧ ¬ g y ∧ ∀ b, fp b ↔ (b = y ∨ g b),
   fun s k ⟨y, dx, fs, g, h1, h2, h3, h4, h5, h6⟩ => ⟨y, dx, fs, g, h1, by rw [k y ((h6 y).2 (.inl rfl))]; exact h2, h3, h4.mono s fun b hb => k b ((h6 b).2 (.inr hb)), h5, h6⟩⟩
/-- one in the making -/
def oInsQ (C : Addr) (names : List Str) (sls : Ctx) : Own (Addr × Addr) :=
  ⟨fun F H v a fp => v = .ref a.1 ∧ ∃ (fs : List (Str × V)) (g : Addr → Prop), H a.1 = some (.ins C a.2 fs) ∧ fs.map Prod.fst = names ∧ FOk F H (fs.map Prod.snd) sls g ∧ ¬ g a.1 ∧ ∀ b, fp b ↔ (b = a.1 ∨ g b),
   fun {F F' H H' v a fp} s k ⟨h1, fs, g, h2, h3, h4, h5, h6⟩ => ⟨h1, fs, g, by rw [k a.1 ((h6 a.1).2 (.inl rfl))]; exact h2, h3, h4.mono s fun b hb => k b ((h6 b).2 (.inr hb)), h5, h6⟩⟩
inductive FrzC : Ctx → Ctx → Prop where
  | nil : FrzC [] []
  | cons {α : Type} {o : Own α} {r : Rp α} {a : α} {Δ Θ : Ctx} : FrzN o r → FrzC Δ Θ → FrzC (.own o a :: Δ) (.val r a :: Θ)
theorem frzN_fok {F H : Hp} {Δ Θ : Ctx} (c : FrzC Δ Θ) : ∀ {vs : List V} {fp : Addr → Prop}, FOk F H vs Δ fp → ∃ G : Hp, (∀ b u, G b = some u → fp b ∧ H b = some u) ∧ SlsOk G vs Θ := by
  induction c with
  | nil =>
    intro vs fp h
    cases vs with
    | nil => exact ⟨fun _ => none, (fun b u z => by cases z), trivial⟩
    | cons v vs => exact h.elim
  | cons fz c ih =>
    intro vs fp h
    cases vs with
    | nil => exact h.elim
    | cons v vs =>
      obtain ⟨f, g, h1, h2, h3, h4⟩ := h
      obtain ⟨G1, a1, a2⟩ := fz _ _ _ _ _ h1
      obtain ⟨G2, b1, b2⟩ := ih h2
      refine ⟨join G1 G2, fun b u z => ?_, ⟨Rp.mono _ (fun b u z => ?_) a2, SlsOk.mono (fun b u z => join_r z) b2⟩⟩
      · cases w : G2 b with
        | some x => rw [join_r w] at z; cases z; exact ⟨(h4 b).2 (.inr (b1 b _ w).1), (b1 b _ w).2⟩
        | none => rw [join_l w] at z; exact ⟨(h4 b).2 (.inl (a1 b _ z).1), (a1 b _ z).2⟩
      · cases w : G2 b with
        | some x => exact absurd (b1 b x w).1 (h3 b (a1 b u z).1)
        | none => rw [join_l w]; exact z
theorem frzN_ins {α : Type} {cls : α → Addr} {names : List Str} {flds fv : α → Ctx} (c : ∀ a, FrzC (flds a) (fv a)) : FrzN (oIns cls names flds) (rObj cls names fv) := fun F H v a fp ⟨y, dx, fs, g, h1, h2, h3, h4, h5, h6⟩ => by
  obtain ⟨G, a1, a2⟩ := frzN_fok (c a) h4
  have gy : G y = none := by
    cases w : G y with
    | none => rfl
    | some x => exact absurd (a1 y x w).1 h5
  refine ⟨upd G y (.ins (cls a) dx fs), fun b u z => ?_, y, dx, fs, h1, upd_same, h3, SlsOk.mono (same_new gy) a2⟩
  by_cases e : b = y
  · subst e; rw [upd_same] at z; cases z; exact ⟨(h6 b).2 (.inl rfl), h2⟩
  · rw [upd_ne e] at z; exact ⟨(h6 b).2 (.inr (a1 b u z).1), (a1 b u z).2⟩
inductive ClC : Ctx → Prop where
  | nil : ClC []
  | cons {α : Type} {o : Own α} {a : α} {Δ : Ctx} : Cl o → ClC Δ → ClC (.own o a :: Δ)
theorem cl_fok {F F' H : Hp} {Δ : Ctx} (c : ClC Δ) : ∀ {vs : List V} {fp : Addr → Prop}, FOk F H vs Δ fp → FOk F' H vs Δ fp := by
  induction c with
  | nil =>
    intro vs fp h
    cases vs with
    | nil => exact h
    | cons v vs => exact h.elim
  | cons cl c ih =>
    intro vs fp h
    cases vs with
    | nil => exact h.elim
    | cons v vs =>
      obtain ⟨f, g, h1, h2, h3, h4⟩ := h
      exact ⟨f, g, cl _ _ _ _ _ _ h1, ih h2, h3, h4⟩
theorem cl_ins {α : Type} {cls : α → Addr} {names : List Str} {flds : α → Ctx} (c : ∀ a, ClC (flds a)) : Cl (oIns cls names flds) := fun F F' H v a fp ⟨y, dx, fs, g, h1, h2, h3, h4, h5, h6⟩ => ⟨y, dx, fs, g, h1, h2, h3, cl_fok (c a) h4, h5, h6⟩
/-- nothing stands still -/
def F00 : Hp := fun _ => none
theorem same00 {H : Hp} : Same F00 H := fun b u z => by cases z
def SpIQ {ι : Type} (C : Addr) (args : ι → Ctx) (pre : ι → Prop) (names : List Str) (flds : ι → Ctx) : Sp := fun vs H Q _ => ∃ F i x dx us, vs = .ref x :: us ∧ Same F H ∧ F x = none ∧ H x = some (.ins C dx []) ∧ SlsOk F us (args i) ∧ pre i ∧
  ∀ (H' : Hp) (fs : List (Str × V)) (g : Addr → Prop), (∀ b o, b ≠ x → H b = some o → H' b = some o) → H' x = some (.ins C dx fs) → fs.map Prod.fst = names → FOk F00 H' (fs.map Prod.snd) (flds i) g → (∀ b, g b → H b = none ∧ H' b ≠ none) → Q .non H'
def SpQ {ι ρ : Type} (args : ι → Ctx) (pre : ι → Prop) (o : Own ρ) (f : ι → ρ) : Sp := fun vs H Q _ =>
  ∃ F i, Same F H ∧ SlsOk F vs (args i) ∧ pre i ∧ ∀ v H' fp, Same H H' → o.rel F00 H' v (f i) fp → (∀ b, fp b → H b = none ∧ H' b ≠ none) → Q v H'
def RtQ {ρ : Type} (B : Bs) (o : Own ρ) (res : ρ) (D : Ends) : Prop := ∀ v H' fp, Same B.H H' → o.rel F00 H' v res fp → (∀ b, fp b → B.H b = none ∧ H' b ≠ none) → D.rt v H'
section
variable {P : Program} {w : World} {K : PySem.W.Frag} {mg : Str → Option Value} {base : Heap} {k j : Nat} {N : List Str} {sc : Scope} {vs ls : List Nat} {X : Cx} {α β γ ι ρ : Type} {B : Bs} {Γ Γ' : Ctx} {e a b d : Expr} {es : List Expr} {D : Ends} {rest ss : List Stmt} {p pos apos : Pos} {x y f m q : Str} {cls : α → Addr} {names : List Str} {flds : α → Ctx} {ps : List Str} {C : Addr} {st : Stmt} {args : ι → Ctx} {pre : ι → Prop}
/-- self.f = e, e new and own -/
theorem c_setFQ (c : XC P w K mg base k N sc vs ls X) (i : Nat) {sls : Ctx} {xd : Addr × Addr} {o : Own β} {v : β} {p1 p2 : Pos} (h : At Γ i (.own (oInsQ C names sls) xd)) (he : DQ X B Γ e o v) (hc : Cls K C) (hn : NoAttr K C f)
    (t : To Γ i (.own (oInsQ C (names ++ [f]) (sls ++ [.own o v])) xd) Γ') (hr : SD X B Γ' rest D) (hnm : names.contains f = false := by decide +kernel) (hz : decide (names.length < 1000) = true := by decide +kernel) (hN : N[i]? = some x := by rfl) (hv : vs.contains i = true := by rfl)
    (hd : (x == ("__debug__" : Str)) = false := by decide) (hcd : (x == ("__classdict__" : Str)) = false := by decide) (hs : swapsWith e (some (.Attribute (.Name x p1) f p2)) pos.line X.env = pure false := by rfl) :
    SD X B Γ (.Assign [.Attribute (.Name x p1) f p2] e pos :: rest) D := by
  have hN' : X.N[i]? = some x := by rw [c.N]; exact hN
  refine sd_cons (ps_fld (pe_var hN' (c.vis i x hN' hv) hd hcd) he hs) (fun D' l σ H ⟨F, fp, en0⟩ => ⟨F, ⟨fp, en0⟩, fun u F1 H1 fu ex h1 hnu => ?_⟩) hr
  have en1 := en0.ext ex
  obtain ⟨⟨s, hs, rfl, fs, g, q4, q5, q6, q7, q8⟩, hown⟩ := en1.ok i _ h.get
  have hfx : fp i xd.1 := (q8 _).2 (.inl rfl)
  refine ⟨.ref xd.1, hs, xd.1, C, xd.2, fs, rfl, q4, by rw [c.K]; exact hc, by rw [c.K]; exact hn, by have := congrArg List.length q5; simp at this; rw [this]; exact of_decide_eq_true hz, l.nx _ _ ?_⟩
  have hx := hown xd.1 hfx
  have nfu : ∀ j b, fp j b → ¬ fu b := fun j b z w => (en0.own_at z).2.1 (hnu b w).2.1
  refine ⟨F1, _, en1.putG (fi := fun b => fp i b ∨ fu b) t rfl (fun j hj => rfl) ⟨en1.base.f, fun b o z => ?_, fun b o z => ?_, en1.base.d⟩ (fun b o z => ?_) (Same.refl F1) (fun j b hj z => ?_) ?_ (fun j b hj z w => ?_)⟩
  · rw [upd_ne (ne_of_none z hx.2.2)]; exact en1.base.h b o z
  · rw [upd_ne (ne_of_none z hx.1)]; exact en1.same b o z
  · rw [upd_ne (ne_of_none z hx.1)]; exact en1.same b o z
  · have nb : b ≠ xd.1 := fun w => en1.apart j i hj b z (by rw [w]; exact hfx)
    exact ⟨by rw [upd_ne nb], (en1.own_at z).1⟩
  · have nx : ¬ fu xd.1 := nfu i _ hfx
    refine ⟨⟨.ref xd.1, hs, rfl, putF f u fs, fun b => g b ∨ fu b, upd_same, ?_, ?_, fun z => z.elim q7 nx, fun b => ?_⟩, fun b hb => ?_⟩
    · rw [putF_new q5 hnm, List.map_append, q5]; rfl
    · rw [putF_new q5 hnm, List.map_append]
      exact FOk.append (o.mono (Same.refl F1) (fun b hb => upd_ne fun z => nx (by rw [← z]; exact hb)) h1) (q6.mono (Same.refl F1) fun b hb => upd_ne fun z => q7 (by rw [← z]; exact hb)) fun b z w => nfu i b ((q8 b).2 (.inr z)) w
    · show (fp i b ∨ fu b) ↔ (b = xd.1 ∨ (g b ∨ fu b))
      rw [q8 b, or_assoc]
    · have hb' : F1 b = none ∧ H1 b ≠ none ∧ B.H b = none := by
        rcases hb with hb | hb
        · exact hown b hb
        · exact ⟨(hnu b hb).1, (hnu b hb).2.2, en0.base.h.free (hnu b hb).2.1⟩
      refine ⟨hb'.1, ?_, hb'.2.2⟩
      by_cases z : b = xd.1
      · rw [z, upd_same]; intro w; cases w
      · rw [upd_ne z]; exact hb'.2.1
  · rcases w with w | w
    · exact en1.apart j i hj b z w
    · exact nfu j b z w
theorem fnIQ {fl : ι → Ctx} (Γ0 : ι → Addr × Addr → Ctx) (T : FTk K mg x q C st ps) (S : FnScope N ps (defScope st)) (hv : locB N (defScope st) vs = true) (hl : ∀ i, (args i).length + 1 = ps.length) (hΓ : ∀ i xd, .own (oInsQ C [] []) xd :: args i ++ List.replicate (N.length - ps.length) .un = Γ0 i xd) (hcl : ∀ i, ClC (fl i))
    (body : ∀ (X : Cx) (B : Bs) (D : Ends) (i : ι) (xd : Addr × Addr), XC P w K mg base k N (defScope st) vs vs X → pre i → (∀ σ H' Γ', EnvP B (.own (oInsQ C names (fl i)) xd :: Γ') σ H' → D.nx σ H') → SD X B (Γ0 i xd) (defBody st) D) :
    FMk P w K mg base (k + 1) x C ps (SpIQ C args pre names fl) := by
  obtain ⟨fa, fd, F, hm, hk, hb⟩ := T
  refine ⟨fa, fd, fun_ok F S (fun us H Q E ⟨F0, i, x, dx, us', e, _, _, _, h, _⟩ => by rw [e, List.length_cons, h.length, hl]) (fun cdv A outer s H us Q E hr ⟨F0, i, y, dy, us', e, s0, hy, hH, h, hp, kq⟩ => ?_), hm, hk, hb⟩
  subst e
  have hN : ps.length ≤ N.length := by have := congrArg List.length S.pre; rw [List.length_take] at this; omega
  let H0 : Hp := fun b => if b = y then none else H b
  have h0y : H0 y = none := if_pos rfl
  have h0 : ∀ b, b ≠ y → H0 b = H b := fun b hb => if_neg hb
  refine ⟨_, body _ ⟨F0, H0, F0⟩ { nx := fun _ H' => Q .non H', rt := Q } i (y, dy) (xc_of S hv hr) hp (fun σ H' Γ' ⟨F', fp, en⟩ => ?_), Le.refl _, F0, ?_⟩
  · obtain ⟨⟨v, _, _, fs, g, g1, g2, g3, g4, g5⟩, hown⟩ := en.ok 0 _ rfl
    refine kq H' fs g (fun b o hb z => en.base.h b o (by show H0 b = _; rw [h0 b hb]; exact z)) g1 g2 (cl_fok (hcl i) g3) fun b hb => ?_
    have z := hown b ((g5 b).2 (.inr hb))
    have nb : b ≠ y := fun e => g4 (by rw [e] at hb; exact hb)
    have z' : H0 b = none := z.2.2
    rw [h0 b nb] at z'
    exact ⟨z', z.2.1⟩
  · have s00 : Same F0 H0 := fun b u z => by
      have hb : b ≠ y := fun w => by rw [w, hy] at z; cases z
      rw [h0 b hb]; exact s0 b u z
    obtain ⟨fp, en⟩ := env_start (N := N) (ps := ps) (us := .ref y :: us') (Δ := .val rAny () :: args i) (Γ0 := .val rAny () :: args i ++ List.replicate (N.length - ps.length) .un) (F := F0) (H := H0) s00 ⟨trivial, h⟩ (by rw [List.length_cons, hl]) hN rfl
    rw [← hΓ]
    have t : To (.val rAny () :: (args i ++ List.replicate (N.length - ps.length) .un)) 0 (.own (oInsQ C [] []) (y, dy)) (.own (oInsQ C [] []) (y, dy) :: (args i ++ List.replicate (N.length - ps.length) .un)) := .z
    have s0H : Same H0 H := fun b u z => by
      have hb : b ≠ y := fun w => by rw [w, h0y] at z; cases z
      rw [← h0 b hb]; exact z
    have hz : ∀ j b, fp j b → False := fun j b z => by
      cases q : (Sl.val rAny () :: args i ++ List.replicate (N.length - ps.length) Sl.un)[j]? with
      | none => exact en.out j q b z
      | some s =>
        have w := en.ok j s q
        cases s with
        | un => exact w b z
        | val r a => exact w.1 b z
        | own o a =>
          have hm := List.mem_of_getElem? q
          have : ∀ {us : List V} {Δ : Ctx}, SlsOk F0 us Δ → Sl.own o a ∉ Δ := fun {us Δ} h => by
            induction Δ generalizing us with
            | nil => simp
            | cons s Δ ih =>
              cases us with
              | nil => exact h.elim
              | cons v us =>
                intro z
                rcases List.mem_cons.mp z with z | z
                · subst z; exact h.1
                · exact ih h.2 z
          rcases List.mem_append.mp hm with hm | hm
          · rcases List.mem_cons.mp hm with hm | hm
            · cases hm
            · exact this h hm
          · have := List.eq_of_mem_replicate hm
            cases this
    refine ⟨_, en.putG (fi := fun b => b = y) t rfl (fun j hj => rfl) ⟨Same.refl F0, s0H, s0, fun b hb _ => hb⟩ s0 (Same.refl F0) (fun j b hj z => (hz j b z).elim) ?_ (fun j b hj z w => hz j b z)⟩
    have hs : (L2.start N (.ref y :: us'))[0]? = some (some (.ref y)) := by unfold L2.start; simp
    rw [hs]
    exact ⟨⟨_, rfl, rfl, [], fun _ => False, hH, rfl, fun _ z => z, fun z => z, fun b => by simp⟩, fun b hb => by subst hb; exact ⟨hy, (by rw [hH]; intro w; cases w), h0y⟩⟩
theorem c_makeQ (c : XC P w K mg base k N sc vs ls X) {fl : ι → Ctx} {o : α} (i : ι) (h : FMk P w K mg base j x C ps (SpIQ C args pre names fl)) (ha : DA X B Γ (a :: es) (args i)) (hp : pre i) (hC : cls o = C) (hf : flds o = fl i) (hj : j + 1 ≤ k := by decide) (hg : glB sc x = true := by decide +kernel)
    (hdb : (x == ("__debug__" : Str)) = false := by decide) (he : starEach (a :: es) X.env = (false, eval a X.env) :: starEach es X.env := by rfl) (hpl : (backTo pos (starEach es X.env)).any (·.1) = false := by rfl) :
    DQ X B Γ (.Call (.Name x p) (a :: es) [] pos) (oIns cls names flds) o := by
  obtain ⟨fa, fd, G, h1, h2, h3⟩ := h
  have G' : FnOk X.prog X.w X.K X.mg X.base CX0 j fa fd ps (SpIQ C args pre names fl) := by rw [c.p, c.w, c.K, c.mg, c.b]; exact G
  refine pe_weak (pe_make (by rw [c.K]; exact h2) G' (c.room.mono hj) (gl_of c.sc hg) (by rw [c.mg]; exact h1) (by rw [c.K]; exact h3) .nil pass0 ha hdb he hpl) fun σ H Q ⟨F, en, q⟩ => ⟨F, en, fun us F1 H1 e1 h5 => ?_⟩
  intro y dy n1 n2 ne
  rw [List.append_nil]
  have s1 : Same H1 (upd (upd H1 dy (.own y)) y (.ins C dy [])) := fun b u z => by rw [upd_ne (ne_of_none z n1), upd_ne (ne_of_none z n2)]; exact z
  have f1 : F1 y = none := e1.i.free n1
  refine ⟨F1, i, y, dy, us, rfl, e1.i.trans s1, f1, upd_same, h5, hp, fun H' fs g g2 g6 g7 g8 g9 => ⟨rfl, ?_⟩⟩
  have gy : ¬ g y := fun z => by
    have := (g9 y z).1
    rw [upd_same] at this
    cases this
  have g2' : Same H1 H' := fun b u z => g2 b u (ne_of_none z n1) (s1 b u z)
  have en' := e1.h.trans g2'
  refine q (.ref y) F H' (fun b => b = y ∨ g b) ⟨Same.refl F, en', en.same.trans en', fun b hf _ => hf⟩ ⟨y, dy, fs, g, rfl, by rw [hC]; exact g6, g7, by rw [hf]; exact g8.mono same00 fun _ _ => rfl, gy, fun b => Iff.rfl⟩ fun b hb => ?_
  rcases hb with rfl | hb
  · exact ⟨en.same.free (e1.h.free n1), e1.h.free n1, by rw [g6]; intro z; cases z⟩
  · have z := e1.h.free (s1.free (g9 b hb).1)
    exact ⟨en.same.free z, z, (g9 b hb).2⟩
/-! ### what a def hands back -/
theorem sd_retQ {o : Own ρ} {res v : ρ} (hD : RtQ B o res D) (he : DQ X B Γ e o v) (hv : v = res) (cl : Cl o) : SD X B Γ (.Return (some e) pos :: rest) D :=
  pss_weak (pss_cons (ps_ret he) pss_never) fun D' σ H ⟨hd, F, en⟩ => by
    subst hv
    exact ⟨F, en, fun u F' H' fp e1 h1 h2 => hd.rt _ _ (hD u H' fp (en.base.h.trans e1.h) (cl _ _ _ _ _ _ h1) fun b hb => ⟨en.base.h.free (h2 b hb).2.1, (h2 b hb).2.2⟩)⟩
theorem c_retQO (c : XC P w K mg base k N sc vs ls X) (i : Nat) {o : Own ρ} {res v : ρ} (hD : RtQ B o res D) (h : At Γ i (.own o v)) (hv : v = res) (cl : Cl o) (hN : N[i]? = some x := by rfl) (hvs : vs.contains i = true := by rfl)
    (hd : (x == ("__debug__" : Str)) = false := by decide) (hcd : (x == ("__classdict__" : Str)) = false := by decide) : SD X B Γ (.Return (some (.Name x p)) pos :: rest) D := by
  have hN' : X.N[i]? = some x := by rw [c.N]; exact hN
  refine pss_weak (pss_cons (ps_ret (pe_var hN' (c.vis i x hN' hvs) hd hcd)) pss_never) fun D' σ H ⟨hd, F, fp, en⟩ => ?_
  obtain ⟨⟨u, hu, hr⟩, hn⟩ := en.ok i _ h.get
  subst hv
  exact ⟨_, hu, hd.rt _ _ (hD u H (fp i) en.base.h (cl _ _ _ _ _ _ hr) fun b hb => ⟨(hn b hb).2.2, (hn b hb).2.1⟩)⟩
theorem fnQ {o : Own ρ} {f : ι → ρ} (Γ0 : ι → Ctx) (T : FT K mg x q st ps) (S : FnScope N ps (defScope st)) (hv : locB N (defScope st) vs = true) (hl : ∀ i, (args i).length = ps.length) (hΓ : ∀ i, args i ++ List.replicate (N.length - ps.length) .un = Γ0 i)
    (body : ∀ (X : Cx) (B : Bs) (D : Ends) (i : ι), XC P w K mg base k N (defScope st) vs vs X → pre i → RtQ B o (f i) D → SD X B (Γ0 i) (defBody st) D) :
    FN P w K mg base CX0 (k + 1) x ps (SpQ args pre o f) := by
  obtain ⟨fa, fd, F, hm, hb⟩ := T
  refine ⟨fa, fd, fun_ok F S (fun us H Q E ⟨F0, i, _, h, _⟩ => by rw [h.length, hl]) (fun cdv A outer s H us Q E hr ⟨F0, i, s0, h, hp, hk⟩ => ?_), hm, F.kp, hb, fun_look F⟩
  refine ⟨_, body _ ⟨F0, H, F0⟩ { nx := fun _ H' => Q .non H', rt := Q } i (xc_of S hv hr) hp hk, Le.refl _, F0, env_start s0 h (hl i) ?_ (hΓ i)⟩
  have := congrArg List.length S.pre; rw [List.length_take] at this; omega
theorem c_callQ (c : XC P w K mg base k N sc vs ls X) {o : Own ρ} {f : ι → ρ} (h : FN P w K mg base CX0 j x ps (SpQ args pre o f)) (i : ι) (ha : DA X B Γ (e :: es) (args i)) (hp : pre i) (hj : j ≤ k := by decide) (hg : glB sc x = true := by decide +kernel)
    (hdb : (x == ("__debug__" : Str)) = false := by decide) (he : starEach (e :: es) X.env = (false, eval e X.env) :: starEach es X.env := by rfl) (hpl : (backTo pos (starEach es X.env)).any (·.1) = false := by rfl) :
    DQ X B Γ (.Call (.Name x p) (e :: es) [] pos) o (f i) :=
  pe_weak (c_callG c h ha hj hg hdb he hpl) fun σ H Q ⟨F, en, q⟩ => ⟨F, en, fun vs F1 H1 e1 h1 => by
    show SpQ args pre o f (vs ++ []) H1 Q E0
    rw [List.append_nil]
    refine ⟨F1, i, e1.i, h1, hp, fun v H2 fp s1 h2 h3 => ?_⟩
    have s2 := e1.h.trans s1
    exact q v F H2 fp ⟨Same.refl F, s2, en.same.trans s2, fun b hf _ => hf⟩ (o.mono same00 (fun _ _ => rfl) h2) fun b hb => ⟨en.same.free (e1.h.free (h3 b hb).1), e1.h.free (h3 b hb).1, (h3 b hb).2⟩⟩
/-! ### a field's part -/
theorem dp_fld (c : XC P w K mg base k N sc vs ls X) {i : Nat} {oz : Own γ} {z : γ} {put : α → γ} {v : α} (n : Nat) {o1 : Own β} {u : β} (setf : β → α) (ha : DP X B Γ a i oz z (oIns cls names flds) v put) (hf : (flds v)[n]? = some (.own o1 u)) (hset : ∀ u', flds (setf u') = (flds v).set n (.own o1 u') ∧ cls (setf u') = cls v)
    (hc : Cls K (cls v)) (hn : NoAttr K (cls v) f) (h1 : names[n]? = some f := by rfl) (h2 : (names.take n).contains f = false := by decide +kernel) (hb : attributeBase a f X.env (eval a X.env) = eval a X.env := by rfl) :
    DP X B Γ (.Attribute a f pos) i oz z o1 u (fun y => put (setf y)) :=
  pe_weak (pe_fld ha hb) fun σ H Q ⟨F, fp, en, q⟩ => ⟨F, fp, en, fun v' F1 H1 e1 ⟨s, fl, g1, g2⟩ => by
    obtain ⟨y, dx, fs, g, rfl, k1, k2, k3, k4, k5⟩ := id g2.rel
    obtain ⟨w0, q1, q2⟩ := look_at k2 h1 h2
    obtain ⟨w1, f2, r1, r2⟩ := k3.get hf
    rw [q1] at r1
    cases r1
    refine ⟨y, cls v, dx, fs, w0, rfl, k1, by rw [c.K]; exact hc, by rw [c.K]; exact hn, q2, q w0 F1 H1 e1 ⟨s, f2, g1, r2.rel, fun b hb => g2.sub b ((k5 b).2 (.inr (r2.sub b hb))), fun F3 H3 v3 a3 f3 s3 kp3 n3 r3 ev => ?_⟩⟩
    subst ev
    have pp : ¬ f2 y := fun z => k4 (r2.sub y z)
    have hp3 : H3 y = some (.ins (cls v) dx fs) := by rw [kp3 y (g2.sub y ((k5 y).2 (.inl rfl))) pp]; exact k1
    have k3' := r2.put F3 H3 v3 a3 f3 s3 (fun b zb nb => kp3 b (g2.sub b ((k5 b).2 (.inr zb))) nb) (fun b zb => (n3 b zb).imp id fun w zz => w (g2.sub b ((k5 b).2 (.inr zz)))) r3
    have ews : (fs.map Prod.snd).set n v3 = fs.map Prod.snd := by
      have hl : n < (fs.map Prod.snd).length := (List.getElem?_eq_some_iff.mp q1).1
      rw [List.getElem?_eq_getElem hl] at q1
      cases q1
      exact List.set_getElem_self hl
    rw [ews] at k3'
    have rr : (oIns cls names flds).rel F3 H3 (.ref y) (setf a3) (fun b => b = y ∨ ((g b ∧ ¬ f2 b) ∨ f3 b)) := by
      refine ⟨y, dx, fs, _, rfl, by rw [(hset a3).2]; exact hp3, k2, by rw [(hset a3).1]; exact k3', fun zz => ?_, fun b => Iff.rfl⟩
      rcases zz with ⟨zz, _⟩ | zz
      · exact k4 zz
      · rcases n3 y zz with w | w
        · exact pp w
        · exact w (g2.sub y ((k5 y).2 (.inl rfl)))
    have fin := g2.put F3 H3 (.ref y) _ _ s3 (fun b zb nb => kp3 b zb fun w => nb ((k5 b).2 (.inr (r2.sub b w)))) (fun b zb => ?_) rr rfl
    · refine Own.cast fin fun b => ⟨?_, ?_⟩
      · rintro (⟨w1, w2⟩ | w)
        · by_cases wf : fl b
          · rcases (k5 b).1 wf with w3 | w3
            · exact .inr (.inl w3)
            · exact .inr (.inr (.inl ⟨w3, w2⟩))
          · exact .inl ⟨w1, wf⟩
        · exact .inr (.inr (.inr w))
      · rintro (⟨w1, w2⟩ | w | ⟨w1, w2⟩ | w)
        · exact .inl ⟨w1, fun zz => w2 ((k5 b).2 (.inr (r2.sub b zz)))⟩
        · subst w; exact .inl ⟨g2.sub _ ((k5 _).2 (.inl rfl)), pp⟩
        · exact .inl ⟨g2.sub _ ((k5 _).2 (.inr w1)), w2⟩
        · exact .inr w
    · rcases zb with w | ⟨w, _⟩ | w
      · exact .inl ((k5 b).2 (.inl w))
      · exact .inl ((k5 b).2 (.inr w))
      · exact (n3 b w).imp (fun zz => (k5 b).2 (.inr (r2.sub b zz))) id⟩
end
end DL
namespace DL
open PySem L2 PySem.Spec PyProof.Rows
section
variable {P : Program} {w : World} {K : PySem.W.Frag} {mg : Str → Option Value} {base : Heap} {k j : Nat} {N : List Str} {sc : Scope} {vs ls : List Nat} {X : Cx} {β ρ : Type} {B : Bs} {Γ Γ' : Ctx} {D : Ends} {rest ss : List Stmt} {p pos apos : Pos} {x q f m : Str} {ps : List Str} {st : Stmt} {C : Addr}
abbrev SpQ1 {α1 : Type} {ρ : Type} (r1 : Rp α1) (pre : α1 → Prop) (rr : Own ρ) (f : α1 → ρ) : Sp := SpQ (fun i : α1 => [.val r1 i]) (fun i => pre (i)) rr (fun i => f (i))
theorem c_callQ1 (c : XC P w K mg base k N sc vs ls X) {α1 : Type} {r1 : Rp α1} {pre : α1 → Prop} {rr : Own ρ} {f : α1 → ρ} {e1 : Expr} {x1 : α1} (h : FN P w K mg base CX0 j x ps (SpQ1 r1 pre rr f)) (h1 : DE X B Γ e1 r1 x1) (hp : pre x1) (hj : j ≤ k := by decide) (hg : glB sc x = true := by decide +kernel)
    (hdb : (x == ("__debug__" : Str)) = false := by decide) (s1 : starEach [e1] X.env = (false, eval e1 X.env) :: starEach [] X.env := by rfl) (hpl : (backTo pos (starEach [] X.env)).any (·.1) = false := by rfl) :
    DQ X B Γ (.Call (.Name x p) [e1] [] pos) rr (f x1) := c_callQ c h x1 (da_cons h1 da_nil s1) hp hj hg hdb s1 hpl
theorem fnQ1 {α1 : Type} {r1 : Rp α1} {pre : α1 → Prop} {rr : Own ρ} {f : α1 → ρ} (T : FT K mg x q st ps) (S : FnScope N ps (defScope st)) (hv : locB N (defScope st) vs = true) (Γu : Ctx) (hl : ps.length = 1 := by rfl) (hu : List.replicate (N.length - ps.length) .un = Γu := by rfl)
    (body : ∀ (X : Cx) (B : Bs) (D : Ends) (x1 : α1), XC P w K mg base k N (defScope st) vs vs X → pre x1 → RtQ B rr (f x1) D → SD X B (.val r1 x1 :: Γu) (defBody st) D) : FN P w K mg base CX0 (k + 1) x ps (SpQ1 r1 pre rr f) :=
  fnQ (fun i => .val r1 i :: Γu) T S hv (fun _ => hl.symm) (fun i => by rw [hu]; rfl) (fun X B D i c hp hD => body X B D (i) c hp hD)
abbrev SpIQ1 {α1 : Type} (C : Addr) (r1 : Rp α1) (pre : α1 → Prop) (names : List Str) (fl : α1 → Ctx) : Sp := SpIQ C (fun i : α1 => [.val r1 i]) (fun i => pre (i)) names (fun i => fl (i))
theorem fnIQ1 {α1 : Type} {r1 : Rp α1} {pre : α1 → Prop} {names : List Str} {fl : α1 → Ctx} (T : FTk K mg x q C st ps) (S : FnScope N ps (defScope st)) (hv : locB N (defScope st) vs = true) (Γu : Ctx) (hcl : ∀ x1, ClC (fl x1)) (hl : ps.length = 2 := by rfl) (hu : List.replicate (N.length - ps.length) .un = Γu := by rfl)
    (body : ∀ (X : Cx) (B : Bs) (D : Ends) (x1 : α1) (xd : Addr × Addr), XC P w K mg base k N (defScope st) vs vs X → pre x1 → (∀ σ H' Γ', EnvP B (.own (oInsQ C names (fl x1)) xd :: Γ') σ H' → D.nx σ H') → SD X B (.own (oInsQ C [] []) xd :: .val r1 x1 :: Γu) (defBody st) D) : FMk P w K mg base (k + 1) x C ps (SpIQ1 C r1 pre names fl) :=
  fnIQ (fun i xd => .own (oInsQ C [] []) xd :: .val r1 i :: Γu) T S hv (fun _ => hl.symm) (fun i xd => by rw [hu]; rfl) (fun i => hcl (i)) (fun X B D i xd c hp hD => body X B D (i) xd c hp hD)
theorem c_makeQ1 (c : XC P w K mg base k N sc vs ls X) {α1 : Type} {r1 : Rp α1} {pre : α1 → Prop} {names : List Str} {fl : α1 → Ctx} {cls : β → Addr} {flds : β → Ctx} {e1 : Expr} {x1 : α1} (o : β) (h : FMk P w K mg base j x C ps (SpIQ1 C r1 pre names fl)) (h1 : DE X B Γ e1 r1 x1) (hp : pre x1) (hC : cls o = C := by rfl) (hf : flds o = fl x1 := by rfl) (hj : j + 1 ≤ k := by decide) (hg : glB sc x = true := by decide +kernel)
    (hdb : (x == ("__debug__" : Str)) = false := by decide) (s1 : starEach [e1] X.env = (false, eval e1 X.env) :: starEach [] X.env := by rfl) (hpl : (backTo pos (starEach [] X.env)).any (·.1) = false := by rfl) :
    DQ X B Γ (.Call (.Name x p) [e1] [] pos) (oIns cls names flds) o := c_makeQ c x1 h (da_cons h1 da_nil s1) hp hC hf hj hg hdb s1 hpl
abbrev SpQ2 {α1 α2 : Type} {ρ : Type} (r1 : Rp α1) (r2 : Rp α2) (pre : α1 → α2 → Prop) (rr : Own ρ) (f : α1 → α2 → ρ) : Sp := SpQ (fun i : α1 × α2 => [.val r1 (i.1), .val r2 (i.2)]) (fun i => pre (i.1) (i.2)) rr (fun i => f (i.1) (i.2))
theorem c_callQ2 (c : XC P w K mg base k N sc vs ls X) {α1 α2 : Type} {r1 : Rp α1} {r2 : Rp α2} {pre : α1 → α2 → Prop} {rr : Own ρ} {f : α1 → α2 → ρ} {e1 e2 : Expr} {x1 : α1} {x2 : α2} (h : FN P w K mg base CX0 j x ps (SpQ2 r1 r2 pre rr f)) (h1 : DE X B Γ e1 r1 x1) (h2 : DE X B Γ e2 r2 x2) (hp : pre x1 x2) (hj : j ≤ k := by decide) (hg : glB sc x = true := by decide +kernel)
    (hdb : (x == ("__debug__" : Str)) = false := by decide) (s1 : starEach [e1, e2] X.env = (false, eval e1 X.env) :: starEach [e2] X.env := by rfl) (s2 : starEach [e2] X.env = (false, eval e2 X.env) :: starEach [] X.env := by rfl) (hpl : (backTo pos (starEach [e2] X.env)).any (·.1) = false := by rfl) :
    DQ X B Γ (.Call (.Name x p) [e1, e2] [] pos) rr (f x1 x2) := c_callQ c h (x1, x2) (da_cons h1 (da_cons h2 da_nil s2) s1) hp hj hg hdb s1 hpl
theorem fnQ2 {α1 α2 : Type} {r1 : Rp α1} {r2 : Rp α2} {pre : α1 → α2 → Prop} {rr : Own ρ} {f : α1 → α2 → ρ} (T : FT K mg x q st ps) (S : FnScope N ps (defScope st)) (hv : locB N (defScope st) vs = true) (Γu : Ctx) (hl : ps.length = 2 := by rfl) (hu : List.replicate (N.length - ps.length) .un = Γu := by rfl)
    (body : ∀ (X : Cx) (B : Bs) (D : Ends) (x1 : α1) (x2 : α2), XC P w K mg base k N (defScope st) vs vs X → pre x1 x2 → RtQ B rr (f x1 x2) D → SD X B (.val r1 x1 :: .val r2 x2 :: Γu) (defBody st) D) : FN P w K mg base CX0 (k + 1) x ps (SpQ2 r1 r2 pre rr f) :=
  fnQ (fun i => .val r1 (i.1) :: .val r2 (i.2) :: Γu) T S hv (fun _ => hl.symm) (fun i => by rw [hu]; rfl) (fun X B D i c hp hD => body X B D (i.1) (i.2) c hp hD)
abbrev SpIQ2 {α1 α2 : Type} (C : Addr) (r1 : Rp α1) (r2 : Rp α2) (pre : α1 → α2 → Prop) (names : List Str) (fl : α1 → α2 → Ctx) : Sp := SpIQ C (fun i : α1 × α2 => [.val r1 (i.1), .val r2 (i.2)]) (fun i => pre (i.1) (i.2)) names (fun i => fl (i.1) (i.2))
theorem fnIQ2 {α1 α2 : Type} {r1 : Rp α1} {r2 : Rp α2} {pre : α1 → α2 → Prop} {names : List Str} {fl : α1 → α2 → Ctx} (T : FTk K mg x q C st ps) (S : FnScope N ps (defScope st)) (hv : locB N (defScope st) vs = true) (Γu : Ctx) (hcl : ∀ x1 x2, ClC (fl x1 x2)) (hl : ps.length = 3 := by rfl) (hu : List.replicate (N.length - ps.length) .un = Γu := by rfl)
    (body : ∀ (X : Cx) (B : Bs) (D : Ends) (x1 : α1) (x2 : α2) (xd : Addr × Addr), XC P w K mg base k N (defScope st) vs vs X → pre x1 x2 → (∀ σ H' Γ', EnvP B (.own (oInsQ C names (fl x1 x2)) xd :: Γ') σ H' → D.nx σ H') → SD X B (.own (oInsQ C [] []) xd :: .val r1 x1 :: .val r2 x2 :: Γu) (defBody st) D) : FMk P w K mg base (k + 1) x C ps (SpIQ2 C r1 r2 pre names fl) :=
  fnIQ (fun i xd => .own (oInsQ C [] []) xd :: .val r1 (i.1) :: .val r2 (i.2) :: Γu) T S hv (fun _ => hl.symm) (fun i xd => by rw [hu]; rfl) (fun i => hcl (i.1) (i.2)) (fun X B D i xd c hp hD => body X B D (i.1) (i.2) xd c hp hD)
theorem c_makeQ2 (c : XC P w K mg base k N sc vs ls X) {α1 α2 : Type} {r1 : Rp α1} {r2 : Rp α2} {pre : α1 → α2 → Prop} {names : List Str} {fl : α1 → α2 → Ctx} {cls : β → Addr} {flds : β → Ctx} {e1 e2 : Expr} {x1 : α1} {x2 : α2} (o : β) (h : FMk P w K mg base j x C ps (SpIQ2 C r1 r2 pre names fl)) (h1 : DE X B Γ e1 r1 x1) (h2 : DE X B Γ e2 r2 x2) (hp : pre x1 x2) (hC : cls o = C := by rfl) (hf : flds o = fl x1 x2 := by rfl) (hj : j + 1 ≤ k := by decide) (hg : glB sc x = true := by decide +kernel)
    (hdb : (x == ("__debug__" : Str)) = false := by decide) (s1 : starEach [e1, e2] X.env = (false, eval e1 X.env) :: starEach [e2] X.env := by rfl) (s2 : starEach [e2] X.env = (false, eval e2 X.env) :: starEach [] X.env := by rfl) (hpl : (backTo pos (starEach [e2] X.env)).any (·.1) = false := by rfl) :
    DQ X B Γ (.Call (.Name x p) [e1, e2] [] pos) (oIns cls names flds) o := c_makeQ c (x1, x2) h (da_cons h1 (da_cons h2 da_nil s2) s1) hp hC hf hj hg hdb s1 hpl
abbrev SpQ3 {α1 α2 α3 : Type} {ρ : Type} (r1 : Rp α1) (r2 : Rp α2) (r3 : Rp α3) (pre : α1 → α2 → α3 → Prop) (rr : Own ρ) (f : α1 → α2 → α3 → ρ) : Sp := SpQ (fun i : α1 × α2 × α3 => [.val r1 (i.1), .val r2 (i.2.1), .val r3 (i.2.2)]) (fun i => pre (i.1) (i.2.1) (i.2.2)) rr (fun i => f (i.1) (i.2.1) (i.2.2))
theorem c_callQ3 (c : XC P w K mg base k N sc vs ls X) {α1 α2 α3 : Type} {r1 : Rp α1} {r2 : Rp α2} {r3 : Rp α3} {pre : α1 → α2 → α3 → Prop} {rr : Own ρ} {f : α1 → α2 → α3 → ρ} {e1 e2 e3 : Expr} {x1 : α1} {x2 : α2} {x3 : α3} (h : FN P w K mg base CX0 j x ps (SpQ3 r1 r2 r3 pre rr f)) (h1 : DE X B Γ e1 r1 x1) (h2 : DE X B Γ e2 r2 x2) (h3 : DE X B Γ e3 r3 x3) (hp : pre x1 x2 x3) (hj : j ≤ k := by decide) (hg : glB sc x = true := by decide +kernel)
    (hdb : (x == ("__debug__" : Str)) = false := by decide) (s1 : starEach [e1, e2, e3] X.env = (false, eval e1 X.env) :: starEach [e2, e3] X.env := by rfl) (s2 : starEach [e2, e3] X.env = (false, eval e2 X.env) :: starEach [e3] X.env := by rfl) (s3 : starEach [e3] X.env = (false, eval e3 X.env) :: starEach [] X.env := by rfl) (hpl : (backTo pos (starEach [e2, e3] X.env)).any (·.1) = false := by rfl) :
    DQ X B Γ (.Call (.Name x p) [e1, e2, e3] [] pos) rr (f x1 x2 x3) := c_callQ c h (x1, x2, x3) (da_cons h1 (da_cons h2 (da_cons h3 da_nil s3) s2) s1) hp hj hg hdb s1 hpl
theorem fnQ3 {α1 α2 α3 : Type} {r1 : Rp α1} {r2 : Rp α2} {r3 : Rp α3} {pre : α1 → α2 → α3 → Prop} {rr : Own ρ} {f : α1 → α2 → α3 → ρ} (T : FT K mg x q st ps) (S : FnScope N ps (defScope st)) (hv : locB N (defScope st) vs = true) (Γu : Ctx) (hl : ps.length = 3 := by rfl) (hu : List.replicate (N.length - ps.length) .un = Γu := by rfl)
    (body : ∀ (X : Cx) (B : Bs) (D : Ends) (x1 : α1) (x2 : α2) (x3 : α3), XC P w K mg base k N (defScope st) vs vs X → pre x1 x2 x3 → RtQ B rr (f x1 x2 x3) D → SD X B (.val r1 x1 :: .val r2 x2 :: .val r3 x3 :: Γu) (defBody st) D) : FN P w K mg base CX0 (k + 1) x ps (SpQ3 r1 r2 r3 pre rr f) :=
  fnQ (fun i => .val r1 (i.1) :: .val r2 (i.2.1) :: .val r3 (i.2.2) :: Γu) T S hv (fun _ => hl.symm) (fun i => by rw [hu]; rfl) (fun X B D i c hp hD => body X B D (i.1) (i.2.1) (i.2.2) c hp hD)
abbrev SpIQ3 {α1 α2 α3 : Type} (C : Addr) (r1 : Rp α1) (r2 : Rp α2) (r3 : Rp α3) (pre : α1 → α2 → α3 → Prop) (names : List Str) (fl : α1 → α2 → α3 → Ctx) : Sp := SpIQ C (fun i : α1 × α2 × α3 => [.val r1 (i.1), .val r2 (i.2.1), .val r3 (i.2.2)]) (fun i => pre (i.1) (i.2.1) (i.2.2)) names (fun i => fl (i.1) (i.2.1) (i.2.2))
theorem fnIQ3 {α1 α2 α3 : Type} {r1 : Rp α1} {r2 : Rp α2} {r3 : Rp α3} {pre : α1 → α2 → α3 → Prop} {names : List Str} {fl : α1 → α2 → α3 → Ctx} (T : FTk K mg x q C st ps) (S : FnScope N ps (defScope st)) (hv : locB N (defScope st) vs = true) (Γu : Ctx) (hcl : ∀ x1 x2 x3, ClC (fl x1 x2 x3)) (hl : ps.length = 4 := by rfl) (hu : List.replicate (N.length - ps.length) .un = Γu := by rfl)
    (body : ∀ (X : Cx) (B : Bs) (D : Ends) (x1 : α1) (x2 : α2) (x3 : α3) (xd : Addr × Addr), XC P w K mg base k N (defScope st) vs vs X → pre x1 x2 x3 → (∀ σ H' Γ', EnvP B (.own (oInsQ C names (fl x1 x2 x3)) xd :: Γ') σ H' → D.nx σ H') → SD X B (.own (oInsQ C [] []) xd :: .val r1 x1 :: .val r2 x2 :: .val r3 x3 :: Γu) (defBody st) D) : FMk P w K mg base (k + 1) x C ps (SpIQ3 C r1 r2 r3 pre names fl) :=
  fnIQ (fun i xd => .own (oInsQ C [] []) xd :: .val r1 (i.1) :: .val r2 (i.2.1) :: .val r3 (i.2.2) :: Γu) T S hv (fun _ => hl.symm) (fun i xd => by rw [hu]; rfl) (fun i => hcl (i.1) (i.2.1) (i.2.2)) (fun X B D i xd c hp hD => body X B D (i.1) (i.2.1) (i.2.2) xd c hp hD)
theorem c_makeQ3 (c : XC P w K mg base k N sc vs ls X) {α1 α2 α3 : Type} {r1 : Rp α1} {r2 : Rp α2} {r3 : Rp α3} {pre : α1 → α2 → α3 → Prop} {names : List Str} {fl : α1 → α2 → α3 → Ctx} {cls : β → Addr} {flds : β → Ctx} {e1 e2 e3 : Expr} {x1 : α1} {x2 : α2} {x3 : α3} (o : β) (h : FMk P w K mg base j x C ps (SpIQ3 C r1 r2 r3 pre names fl)) (h1 : DE X B Γ e1 r1 x1) (h2 : DE X B Γ e2 r2 x2) (h3 : DE X B Γ e3 r3 x3) (hp : pre x1 x2 x3) (hC : cls o = C := by rfl) (hf : flds o = fl x1 x2 x3 := by rfl) (hj : j + 1 ≤ k := by decide) (hg : glB sc x = true := by decide +kernel)
    (hdb : (x == ("__debug__" : Str)) = false := by decide) (s1 : starEach [e1, e2, e3] X.env = (false, eval e1 X.env) :: starEach [e2, e3] X.env := by rfl) (s2 : starEach [e2, e3] X.env = (false, eval e2 X.env) :: starEach [e3] X.env := by rfl) (s3 : starEach [e3] X.env = (false, eval e3 X.env) :: starEach [] X.env := by rfl) (hpl : (backTo pos (starEach [e2, e3] X.env)).any (·.1) = false := by rfl) :
    DQ X B Γ (.Call (.Name x p) [e1, e2, e3] [] pos) (oIns cls names flds) o := c_makeQ c (x1, x2, x3) h (da_cons h1 (da_cons h2 (da_cons h3 da_nil s3) s2) s1) hp hC hf hj hg hdb s1 hpl
abbrev SpQ4 {α1 α2 α3 α4 : Type} {ρ : Type} (r1 : Rp α1) (r2 : Rp α2) (r3 : Rp α3) (r4 : Rp α4) (pre : α1 → α2 → α3 → α4 → Prop) (rr : Own ρ) (f : α1 → α2 → α3 → α4 → ρ) : Sp := SpQ (fun i : α1 × α2 × α3 × α4 => [.val r1 (i.1), .val r2 (i.2.1), .val r3 (i.2.2.1), .val r4 (i.2.2.2)]) (fun i => pre (i.1) (i.2.1) (i.2.2.1) (i.2.2.2)) rr (fun i => f (i.1) (i.2.1) (i.2.2.1) (i.2.2.2))
theorem c_callQ4 (c : XC P w K mg base k N sc vs ls X) {α1 α2 α3 α4 : Type} {r1 : Rp α1} {r2 : Rp α2} {r3 : Rp α3} {r4 : Rp α4} {pre : α1 → α2 → α3 → α4 → Prop} {rr : Own ρ} {f : α1 → α2 → α3 → α4 → ρ} {e1 e2 e3 e4 : Expr} {x1 : α1} {x2 : α2} {x3 : α3} {x4 : α4} (h : FN P w K mg base CX0 j x ps (SpQ4 r1 r2 r3 r4 pre rr f)) (h1 : DE X B Γ e1 r1 x1) (h2 : DE X B Γ e2 r2 x2) (h3 : DE X B Γ e3 r3 x3) (h4 : DE X B Γ e4 r4 x4) (hp : pre x1 x2 x3 x4) (hj : j ≤ k := by decide) (hg : glB sc x = true := by decide +kernel)
    (hdb : (x == ("__debug__" : Str)) = false := by decide) (s1 : starEach [e1, e2, e3, e4] X.env = (false, eval e1 X.env) :: starEach [e2, e3, e4] X.env := by rfl) (s2 : starEach [e2, e3, e4] X.env = (false, eval e2 X.env) :: starEach [e3, e4] X.env := by rfl) (s3 : starEach [e3, e4] X.env = (false, eval e3 X.env) :: starEach [e4] X.env := by rfl) (s4 : starEach [e4] X.env = (false, eval e4 X.env) :: starEach [] X.env := by rfl) (hpl : (backTo pos (starEach [e2, e3, e4] X.env)).any (·.1) = false := by rfl) :
    DQ X B Γ (.Call (.Name x p) [e1, e2, e3, e4] [] pos) rr (f x1 x2 x3 x4) := c_callQ c h (x1, x2, x3, x4) (da_cons h1 (da_cons h2 (da_cons h3 (da_cons h4 da_nil s4) s3) s2) s1) hp hj hg hdb s1 hpl
theorem fnQ4 {α1 α2 α3 α4 : Type} {r1 : Rp α1} {r2 : Rp α2} {r3 : Rp α3} {r4 : Rp α4} {pre : α1 → α2 → α3 → α4 → Prop} {rr : Own ρ} {f : α1 → α2 → α3 → α4 → ρ} (T : FT K mg x q st ps) (S : FnScope N ps (defScope st)) (hv : locB N (defScope st) vs = true) (Γu : Ctx) (hl : ps.length = 4 := by rfl) (hu : List.replicate (N.length - ps.length) .un = Γu := by rfl)
    (body : ∀ (X : Cx) (B : Bs) (D : Ends) (x1 : α1) (x2 : α2) (x3 : α3) (x4 : α4), XC P w K mg base k N (defScope st) vs vs X → pre x1 x2 x3 x4 → RtQ B rr (f x1 x2 x3 x4) D → SD X B (.val r1 x1 :: .val r2 x2 :: .val r3 x3 :: .val r4 x4 :: Γu) (defBody st) D) : FN P w K mg base CX0 (k + 1) x ps (SpQ4 r1 r2 r3 r4 pre rr f) :=
  fnQ (fun i => .val r1 (i.1) :: .val r2 (i.2.1) :: .val r3 (i.2.2.1) :: .val r4 (i.2.2.2) :: Γu) T S hv (fun _ => hl.symm) (fun i => by rw [hu]; rfl) (fun X B D i c hp hD => body X B D (i.1) (i.2.1) (i.2.2.1) (i.2.2.2) c hp hD)
abbrev SpIQ4 {α1 α2 α3 α4 : Type} (C : Addr) (r1 : Rp α1) (r2 : Rp α2) (r3 : Rp α3) (r4 : Rp α4) (pre : α1 → α2 → α3 → α4 → Prop) (names : List Str) (fl : α1 → α2 → α3 → α4 → Ctx) : Sp := SpIQ C (fun i : α1 × α2 × α3 × α4 => [.val r1 (i.1), .val r2 (i.2.1), .val r3 (i.2.2.1), .val r4 (i.2.2.2)]) (fun i => pre (i.1) (i.2.1) (i.2.2.1) (i.2.2.2)) names (fun i => fl (i.1) (i.2.1) (i.2.2.1) (i.2.2.2))
theorem fnIQ4 {α1 α2 α3 α4 : Type} {r1 : Rp α1} {r2 : Rp α2} {r3 : Rp α3} {r4 : Rp α4} {pre : α1 → α2 → α3 → α4 → Prop} {names : List Str} {fl : α1 → α2 → α3 → α4 → Ctx} (T : FTk K mg x q C st ps) (S : FnScope N ps (defScope st)) (hv : locB N (defScope st) vs = true) (Γu : Ctx) (hcl : ∀ x1 x2 x3 x4, ClC (fl x1 x2 x3 x4)) (hl : ps.length = 5 := by rfl) (hu : List.replicate (N.length - ps.length) .un = Γu := by rfl)
    (body : ∀ (X : Cx) (B : Bs) (D : Ends) (x1 : α1) (x2 : α2) (x3 : α3) (x4 : α4) (xd : Addr × Addr), XC P w K mg base k N (defScope st) vs vs X → pre x1 x2 x3 x4 → (∀ σ H' Γ', EnvP B (.own (oInsQ C names (fl x1 x2 x3 x4)) xd :: Γ') σ H' → D.nx σ H') → SD X B (.own (oInsQ C [] []) xd :: .val r1 x1 :: .val r2 x2 :: .val r3 x3 :: .val r4 x4 :: Γu) (defBody st) D) : FMk P w K mg base (k + 1) x C ps (SpIQ4 C r1 r2 r3 r4 pre names fl) :=
  fnIQ (fun i xd => .own (oInsQ C [] []) xd :: .val r1 (i.1) :: .val r2 (i.2.1) :: .val r3 (i.2.2.1) :: .val r4 (i.2.2.2) :: Γu) T S hv (fun _ => hl.symm) (fun i xd => by rw [hu]; rfl) (fun i => hcl (i.1) (i.2.1) (i.2.2.1) (i.2.2.2)) (fun X B D i xd c hp hD => body X B D (i.1) (i.2.1) (i.2.2.1) (i.2.2.2) xd c hp hD)
theorem c_makeQ4 (c : XC P w K mg base k N sc vs ls X) {α1 α2 α3 α4 : Type} {r1 : Rp α1} {r2 : Rp α2} {r3 : Rp α3} {r4 : Rp α4} {pre : α1 → α2 → α3 → α4 → Prop} {names : List Str} {fl : α1 → α2 → α3 → α4 → Ctx} {cls : β → Addr} {flds : β → Ctx} {e1 e2 e3 e4 : Expr} {x1 : α1} {x2 : α2} {x3 : α3} {x4 : α4} (o : β) (h : FMk P w K mg base j x C ps (SpIQ4 C r1 r2 r3 r4 pre names fl)) (h1 : DE X B Γ e1 r1 x1) (h2 : DE X B Γ e2 r2 x2) (h3 : DE X B Γ e3 r3 x3) (h4 : DE X B Γ e4 r4 x4) (hp : pre x1 x2 x3 x4) (hC : cls o = C := by rfl) (hf : flds o = fl x1 x2 x3 x4 := by rfl) (hj : j + 1 ≤ k := by decide) (hg : glB sc x = true := by decide +kernel)
    (hdb : (x == ("__debug__" : Str)) = false := by decide) (s1 : starEach [e1, e2, e3, e4] X.env = (false, eval e1 X.env) :: starEach [e2, e3, e4] X.env := by rfl) (s2 : starEach [e2, e3, e4] X.env = (false, eval e2 X.env) :: starEach [e3, e4] X.env := by rfl) (s3 : starEach [e3, e4] X.env = (false, eval e3 X.env) :: starEach [e4] X.env := by rfl) (s4 : starEach [e4] X.env = (false, eval e4 X.env) :: starEach [] X.env := by rfl) (hpl : (backTo pos (starEach [e2, e3, e4] X.env)).any (·.1) = false := by rfl) :
    DQ X B Γ (.Call (.Name x p) [e1, e2, e3, e4] [] pos) (oIns cls names flds) o := c_makeQ c (x1, x2, x3, x4) h (da_cons h1 (da_cons h2 (da_cons h3 (da_cons h4 da_nil s4) s3) s2) s1) hp hC hf hj hg hdb s1 hpl
abbrev SpQ5 {α1 α2 α3 α4 α5 : Type} {ρ : Type} (r1 : Rp α1) (r2 : Rp α2) (r3 : Rp α3) (r4 : Rp α4) (r5 : Rp α5) (pre : α1 → α2 → α3 → α4 → α5 → Prop) (rr : Own ρ) (f : α1 → α2 → α3 → α4 → α5 → ρ) : Sp := SpQ (fun i : α1 × α2 × α3 × α4 × α5 => [.val r1 (i.1), .val r2 (i.2.1), .val r3 (i.2.2.1), .val r4 (i.2.2.2.1), .val r5 (i.2.2.2.2)]) (fun i => pre (i.1) (i.2.1) (i.2.2.1) (i.2.2.2.1) (i.2.2.2.2)) rr (fun i => f (i.1) (i.2.1) (i.2.2.1) (i.2.2.2.1) (i.2.2.2.2))
theorem c_callQ5 (c : XC P w K mg base k N sc vs ls X) {α1 α2 α3 α4 α5 : Type} {r1 : Rp α1} {r2 : Rp α2} {r3 : Rp α3} {r4 : Rp α4} {r5 : Rp α5} {pre : α1 → α2 → α3 → α4 → α5 → Prop} {rr : Own ρ} {f : α1 → α2 → α3 → α4 → α5 → ρ} {e1 e2 e3 e4 e5 : Expr} {x1 : α1} {x2 : α2} {x3 : α3} {x4 : α4} {x5 : α5} (h : FN P w K mg base CX0 j x ps (SpQ5 r1 r2 r3 r4 r5 pre rr f)) (h1 : DE X B Γ e1 r1 x1) (h2 : DE X B Γ e2 r2 x2) (h3 : DE X B Γ e3 r3 x3) (h4 : DE X B Γ e4 r4 x4) (h5 : DE X B Γ e5 r5 x5) (hp : pre x1 x2 x3 x4 x5) (hj : j ≤ k := by decide) (hg : glB sc x = true := by decide +kernel)
    (hdb : (x == ("__debug__" : Str)) = false := by decide) (s1 : starEach [e1, e2, e3, e4, e5] X.env = (false, eval e1 X.env) :: starEach [e2, e3, e4, e5] X.env := by rfl) (s2 : starEach [e2, e3, e4, e5] X.env = (false, eval e2 X.env) :: starEach [e3, e4, e5] X.env := by rfl) (s3 : starEach [e3, e4, e5] X.env = (false, eval e3 X.env) :: starEach [e4, e5] X.env := by rfl) (s4 : starEach [e4, e5] X.env = (false, eval e4 X.env) :: starEach [e5] X.env := by rfl) (s5 : starEach [e5] X.env = (false, eval e5 X.env) :: starEach [] X.env := by rfl) (hpl : (backTo pos (starEach [e2, e3, e4, e5] X.env)).any (·.1) = false := by rfl) :
    DQ X B Γ (.Call (.Name x p) [e1, e2, e3, e4, e5] [] pos) rr (f x1 x2 x3 x4 x5) := c_callQ c h (x1, x2, x3, x4, x5) (da_cons h1 (da_cons h2 (da_cons h3 (da_cons h4 (da_cons h5 da_nil s5) s4) s3) s2) s1) hp hj hg hdb s1 hpl
theorem fnQ5 {α1 α2 α3 α4 α5 : Type} {r1 : Rp α1} {r2 : Rp α2} {r3 : Rp α3} {r4 : Rp α4} {r5 : Rp α5} {pre : α1 → α2 → α3 → α4 → α5 → Prop} {rr : Own ρ} {f : α1 → α2 → α3 → α4 → α5 → ρ} (T : FT K mg x q st ps) (S : FnScope N ps (defScope st)) (hv : locB N (defScope st) vs = true) (Γu : Ctx) (hl : ps.length = 5 := by rfl) (hu : List.replicate (N.length - ps.length) .un = Γu := by rfl)
    (body : ∀ (X : Cx) (B : Bs) (D : Ends) (x1 : α1) (x2 : α2) (x3 : α3) (x4 : α4) (x5 : α5), XC P w K mg base k N (defScope st) vs vs X → pre x1 x2 x3 x4 x5 → RtQ B rr (f x1 x2 x3 x4 x5) D → SD X B (.val r1 x1 :: .val r2 x2 :: .val r3 x3 :: .val r4 x4 :: .val r5 x5 :: Γu) (defBody st) D) : FN P w K mg base CX0 (k + 1) x ps (SpQ5 r1 r2 r3 r4 r5 pre rr f) :=
  fnQ (fun i => .val r1 (i.1) :: .val r2 (i.2.1) :: .val r3 (i.2.2.1) :: .val r4 (i.2.2.2.1) :: .val r5 (i.2.2.2.2) :: Γu) T S hv (fun _ => hl.symm) (fun i => by rw [hu]; rfl) (fun X B D i c hp hD => body X B D (i.1) (i.2.1) (i.2.2.1) (i.2.2.2.1) (i.2.2.2.2) c hp hD)
abbrev SpIQ5 {α1 α2 α3 α4 α5 : Type} (C : Addr) (r1 : Rp α1) (r2 : Rp α2) (r3 : Rp α3) (r4 : Rp α4) (r5 : Rp α5) (pre : α1 → α2 → α3 → α4 → α5 → Prop) (names : List Str) (fl : α1 → α2 → α3 → α4 → α5 → Ctx) : Sp := SpIQ C (fun i : α1 × α2 × α3 × α4 × α5 => [.val r1 (i.1), .val r2 (i.2.1), .val r3 (i.2.2.1), .val r4 (i.2.2.2.1), .val r5 (i.2.2.2.2)]) (fun i => pre (i.1) (i.2.1) (i.2.2.1) (i.2.2.2.1) (i.2.2.2.2)) names (fun i => fl (i.1) (i.2.1) (i.2.2.1) (i.2.2.2.1) (i.2.2.2.2))
theorem fnIQ5 {α1 α2 α3 α4 α5 : Type} {r1 : Rp α1} {r2 : Rp α2} {r3 : Rp α3} {r4 : Rp α4} {r5 : Rp α5} {pre : α1 → α2 → α3 → α4 → α5 → Prop} {names : List Str} {fl : α1 → α2 → α3 → α4 → α5 → Ctx} (T : FTk K mg x q C st ps) (S : FnScope N ps (defScope st)) (hv : locB N (defScope st) vs = true) (Γu : Ctx) (hcl : ∀ x1 x2 x3 x4 x5, ClC (fl x1 x2 x3 x4 x5)) (hl : ps.length = 6 := by rfl) (hu : List.replicate (N.length - ps.length) .un = Γu := by rfl)
    (body : ∀ (X : Cx) (B : Bs) (D : Ends) (x1 : α1) (x2 : α2) (x3 : α3) (x4 : α4) (x5 : α5) (xd : Addr × Addr), XC P w K mg base k N (defScope st) vs vs X → pre x1 x2 x3 x4 x5 → (∀ σ H' Γ', EnvP B (.own (oInsQ C names (fl x1 x2 x3 x4 x5)) xd :: Γ') σ H' → D.nx σ H') → SD X B (.own (oInsQ C [] []) xd :: .val r1 x1 :: .val r2 x2 :: .val r3 x3 :: .val r4 x4 :: .val r5 x5 :: Γu) (defBody st) D) : FMk P w K mg base (k + 1) x C ps (SpIQ5 C r1 r2 r3 r4 r5 pre names fl) :=
  fnIQ (fun i xd => .own (oInsQ C [] []) xd :: .val r1 (i.1) :: .val r2 (i.2.1) :: .val r3 (i.2.2.1) :: .val r4 (i.2.2.2.1) :: .val r5 (i.2.2.2.2) :: Γu) T S hv (fun _ => hl.symm) (fun i xd => by rw [hu]; rfl) (fun i => hcl (i.1) (i.2.1) (i.2.2.1) (i.2.2.2.1) (i.2.2.2.2)) (fun X B D i xd c hp hD => body X B D (i.1) (i.2.1) (i.2.2.1) (i.2.2.2.1) (i.2.2.2.2) xd c hp hD)
theorem c_makeQ5 (c : XC P w K mg base k N sc vs ls X) {α1 α2 α3 α4 α5 : Type} {r1 : Rp α1} {r2 : Rp α2} {r3 : Rp α3} {r4 : Rp α4} {r5 : Rp α5} {pre : α1 → α2 → α3 → α4 → α5 → Prop} {names : List Str} {fl : α1 → α2 → α3 → α4 → α5 → Ctx} {cls : β → Addr} {flds : β → Ctx} {e1 e2 e3 e4 e5 : Expr} {x1 : α1} {x2 : α2} {x3 : α3} {x4 : α4} {x5 : α5} (o : β) (h : FMk P w K mg base j x C ps (SpIQ5 C r1 r2 r3 r4 r5 pre names fl)) (h1 : DE X B Γ e1 r1 x1) (h2 : DE X B Γ e2 r2 x2) (h3 : DE X B Γ e3 r3 x3) (h4 : DE X B Γ e4 r4 x4) (h5 : DE X B Γ e5 r5 x5) (hp : pre x1 x2 x3 x4 x5) (hC : cls o = C := by rfl) (hf : flds o = fl x1 x2 x3 x4 x5 := by rfl) (hj : j + 1 ≤ k := by decide) (hg : glB sc x = true := by decide +kernel)
    (hdb : (x == ("__debug__" : Str)) = false := by decide) (s1 : starEach [e1, e2, e3, e4, e5] X.env = (false, eval e1 X.env) :: starEach [e2, e3, e4, e5] X.env := by rfl) (s2 : starEach [e2, e3, e4, e5] X.env = (false, eval e2 X.env) :: starEach [e3, e4, e5] X.env := by rfl) (s3 : starEach [e3, e4, e5] X.env = (false, eval e3 X.env) :: starEach [e4, e5] X.env := by rfl) (s4 : starEach [e4, e5] X.env = (false, eval e4 X.env) :: starEach [e5] X.env := by rfl) (s5 : starEach [e5] X.env = (false, eval e5 X.env) :: starEach [] X.env := by rfl) (hpl : (backTo pos (starEach [e2, e3, e4, e5] X.env)).any (·.1) = false := by rfl) :
    DQ X B Γ (.Call (.Name x p) [e1, e2, e3, e4, e5] [] pos) (oIns cls names flds) o := c_makeQ c (x1, x2, x3, x4, x5) h (da_cons h1 (da_cons h2 (da_cons h3 (da_cons h4 (da_cons h5 da_nil s5) s4) s3) s2) s1) hp hC hf hj hg hdb s1 hpl
end
end DL
namespace DL
open PySem L2 PySem.Spec PyProof.Rows
def minI : List Int → Int
  | [] => 0
  | x :: xs => xs.foldl min x
def maxI : List Int → Int
  | [] => 0
  | x :: xs => xs.foldl max x
theorem foldl_min : ∀ (xs : List Int) (a : Int), (xs.foldl min a = a ∨ xs.foldl min a ∈ xs) ∧ xs.foldl min a ≤ a ∧ ∀ y ∈ xs, xs.foldl min a ≤ y
  | [], a => ⟨.inl rfl, Int.le_refl _, fun y hy => by cases hy⟩
  | x :: xs, a => by
    obtain ⟨h1, h2, h3⟩ := foldl_min xs (min a x)
    rw [List.foldl_cons]
    refine ⟨?_, by omega, fun y hy => ?_⟩
    · rcases h1 with h | h
      · by_cases z : a ≤ x
        · left; rw [h]; omega
        · right; rw [h]; have : min a x = x := by omega
          rw [this]; simp
      · right; simp [h]
    · rcases List.mem_cons.mp hy with rfl | hy
      · omega
      · exact h3 y hy
theorem foldl_max : ∀ (xs : List Int) (a : Int), (xs.foldl max a = a ∨ xs.foldl max a ∈ xs) ∧ a ≤ xs.foldl max a ∧ ∀ y ∈ xs, y ≤ xs.foldl max a
  | [], a => ⟨.inl rfl, Int.le_refl _, fun y hy => by cases hy⟩
  | x :: xs, a => by
    obtain ⟨h1, h2, h3⟩ := foldl_max xs (max a x)
    rw [List.foldl_cons]
    refine ⟨?_, by omega, fun y hy => ?_⟩
    · rcases h1 with h | h
      · by_cases z : x ≤ a
        · left; rw [h]; omega
        · right; rw [h]; have : max a x = x := by omega
          rw [this]; simp
      · right; simp [h]
    · rcases List.mem_cons.mp hy with rfl | hy
      · omega
      · exact h3 y hy
theorem minI_mem {xs : List Int} (h : xs ≠ []) : minI xs ∈ xs := by
  cases xs with
  | nil => exact absurd rfl h
  | cons x xs =>
    rcases (foldl_min xs x).1 with e | e
    · show xs.foldl min x ∈ _; rw [e]; simp
    · exact List.mem_cons_of_mem _ e
theorem minI_le {xs : List Int} {y : Int} (h : y ∈ xs) : minI xs ≤ y := by
  cases xs with
  | nil => cases h
  | cons x xs =>
    rcases List.mem_cons.mp h with rfl | h
    · exact (foldl_min xs y).2.1
    · exact (foldl_min xs x).2.2 y h
theorem maxI_mem {xs : List Int} (h : xs ≠ []) : maxI xs ∈ xs := by
  cases xs with
  | nil => exact absurd rfl h
  | cons x xs =>
    rcases (foldl_max xs x).1 with e | e
    · show xs.foldl max x ∈ _; rw [e]; simp
    · exact List.mem_cons_of_mem _ e
theorem maxI_le {xs : List Int} {y : Int} (h : y ∈ xs) : y ≤ maxI xs := by
  cases xs with
  | nil => cases h
  | cons x xs =>
    rcases List.mem_cons.mp h with rfl | h
    · exact (foldl_max xs y).2.1
    · exact (foldl_max xs x).2.2 y h
/-- a def called without its last arguments -/
def FND (P : Program) (w : World) (K : PySem.W.Frag) (mg : Str → Option Value) (base : Heap) (CX : CXT) (k : Nat) (x : Str) (ps : List Str) (dvs : List V) (sp : Sp) : Prop :=
  ∃ fa fd ds, FnOk P w K mg base CX k fa fd ps sp ∧ mg x = some (.ref fa) ∧ PySem.W.keepIn K (.ref fa) = true ∧ Binds K fd ps ds ∧ Vals dvs ds
theorem fn_dflt {P : Program} {w : World} {K : PySem.W.Frag} {mg : Str → Option Value} {base : Heap} {CX : CXT} {k : Nat} {x : Str} {ps : List Str} {sp : Sp} {f0 : Addr} {fd0 : FuncData} {oc : Value} {od : Option Addr} {osl : Array (Option Value)} {dvs : List V} {ds : List Value}
    (h : FN P w K mg base CX k x ps sp) (hm : mg x = some (.ref f0)) (hl : K.lookup f0 = some ⟨oc, od, .func fd0, osl⟩) (hb : Binds K fd0 ps ds) (hv : Vals dvs ds) : FND P w K mg base CX k x ps dvs sp := by
  obtain ⟨fa, fd, F, m, kp, _, o, od', sl, lk⟩ := h
  have e1 : fa = f0 := by rw [m] at hm; cases hm; rfl
  subst e1
  have e2 : fd = fd0 := by rw [lk] at hl; cases hl; rfl
  subst e2
  exact ⟨fa, fd, ds, F, m, kp, hb, hv⟩
def FTD (K : PySem.W.Frag) (mg : Str → Option Value) (x : Str) (ps : List Str) (dvs : List V) : Prop :=
  ∃ (f0 : Addr) (fd0 : FuncData) (oc : Value) (od : Option Addr) (osl : Array (Option Value)) (ds : List Value), mg x = some (.ref f0) ∧ K.lookup f0 = some ⟨oc, od, .func fd0, osl⟩ ∧ Binds K fd0 ps ds ∧ Vals dvs ds
theorem fn_dfl {P : Program} {w : World} {K : PySem.W.Frag} {mg : Str → Option Value} {base : Heap} {CX : CXT} {k : Nat} {x : Str} {ps : List Str} {sp : Sp} {dvs : List V} (h : FN P w K mg base CX k x ps sp) (T : FTD K mg x ps dvs) : FND P w K mg base CX k x ps dvs sp := by
  obtain ⟨f0, fd0, oc, od, osl, ds, h1, h2, h3, h4⟩ := T
  exact fn_dflt h h1 h2 h3 h4
section
variable {P : Program} {w : World} {K : PySem.W.Frag} {mg : Str → Option Value} {base : Heap} {k j : Nat} {N : List Str} {sc : Scope} {vs ls : List Nat} {X : Cx} {α β γ ι ρ : Type} {B : Bs} {Γ Γ' : Ctx} {e a b d : Expr} {es : List Expr} {D : Ends} {rest ss : List Stmt} {p pos apos : Pos} {x y f m q : Str} {ps : List Str} {args : ι → Ctx} {pre : ι → Prop} {dvs : List V}
theorem c_minL (c : XC P w K mg base k N sc vs ls X) {xs : List Int} (ha : DE X B Γ e (rList rInt) xs) (hm : mg "min" = none) (hne : xs ≠ []) (hg : glB sc "min" = true := by decide +kernel) (he : starEach [e] X.env = [(false, eval e X.env)] := by rfl) : DE X B Γ (.Call (.Name "min" p) [e] [] pos) rInt (minI xs) :=
  c_bi1 c (cr_min c.calm) hm (by decide +kernel) ha (fun σ H Q ⟨F, en, q⟩ => ⟨F, en, fun v F1 H1 e1 ⟨p, us, h1, h2, h3⟩ => ⟨p, xs, by rw [h1], by rw [← rl_int h3]; exact SqL.of (e1.i _ _ h2), List.length_pos_iff.mpr hne, fun m h4 h5 => by
    have : m = minI xs := Int.le_antisymm (h5 _ (minI_mem hne)) (minI_le h4)
    rw [this]; exact q _ F1 H1 e1 rfl⟩⟩) hg (by decide) (by decide) he
theorem c_maxL (c : XC P w K mg base k N sc vs ls X) {xs : List Int} (ha : DE X B Γ e (rList rInt) xs) (hm : mg "max" = none) (hne : xs ≠ []) (hg : glB sc "max" = true := by decide +kernel) (he : starEach [e] X.env = [(false, eval e X.env)] := by rfl) : DE X B Γ (.Call (.Name "max" p) [e] [] pos) rInt (maxI xs) :=
  c_bi1 c (cr_max c.calm) hm (by decide +kernel) ha (fun σ H Q ⟨F, en, q⟩ => ⟨F, en, fun v F1 H1 e1 ⟨p, us, h1, h2, h3⟩ => ⟨p, xs, by rw [h1], by rw [← rl_int h3]; exact SqL.of (e1.i _ _ h2), List.length_pos_iff.mpr hne, fun m h4 h5 => by
    have : m = maxI xs := Int.le_antisymm (maxI_le h4) (h5 _ (maxI_mem hne))
    rw [this]; exact q _ F1 H1 e1 rfl⟩⟩) hg (by decide) (by decide) he
theorem c_callGd (c : XC P w K mg base k N sc vs ls X) {sp : Sp} (h : FND P w K mg base CX0 j x ps dvs sp) {t : TA} (ha : PA X (e :: es) t) (hj : j ≤ k) (hg : glB sc x = true)
    (hdb : (x == ("__debug__" : Str)) = false) (he : starEach (e :: es) X.env = (false, eval e X.env) :: starEach es X.env) (hpl : (backTo pos (starEach es X.env)).any (·.1) = false) :
    PE X (.Call (.Name x p) (e :: es) [] pos) (tCall sp dvs E0 t) := by
  obtain ⟨fa, fd, ds, F, h1, h2, h3, h4⟩ := h
  have F' : FnOk X.prog X.w X.K X.mg X.base CX0 j fa fd ps sp := by rw [c.p, c.w, c.K, c.mg, c.b]; exact F
  exact pe_call F' (c.room.mono hj) (gl_of c.sc hg) (by rw [c.mg]; exact h1) (by rw [c.K]; exact h2) (by rw [c.K]; exact h3) h4 pass0 ha hdb he hpl
theorem c_callFd (c : XC P w K mg base k N sc vs ls X) {rr : Rp ρ} {f : ι → ρ} {Δ Θ : Ctx} (h : FND P w K mg base CX0 j x ps dvs (SpF args pre rr f)) (i : ι) (ha : DA X B Γ (e :: es) Δ) (hp : pre i) (hi : args i = Δ ++ Θ) (hd : ∀ F, SlsOk F dvs Θ) (hj : j ≤ k := by decide) (hg : glB sc x = true := by decide +kernel)
    (hdb : (x == ("__debug__" : Str)) = false := by decide) (he : starEach (e :: es) X.env = (false, eval e X.env) :: starEach es X.env := by rfl) (hpl : (backTo pos (starEach es X.env)).any (·.1) = false := by rfl) :
    DE X B Γ (.Call (.Name x p) (e :: es) [] pos) rr (f i) :=
  pe_weak (c_callGd c h ha hj hg hdb he hpl) fun σ H Q ⟨F, en, q⟩ => ⟨F, en, fun vs F1 H1 e1 h1 =>
    ⟨F1, i, e1.i, by rw [hi]; exact slsOk_app h1 (hd F1), hp, fun v F2 H2 e2 h2 => q v F2 H2 (e1.trans e2) h2⟩⟩
theorem c_callQd (c : XC P w K mg base k N sc vs ls X) {o : Own ρ} {f : ι → ρ} {Δ Θ : Ctx} (h : FND P w K mg base CX0 j x ps dvs (SpQ args pre o f)) (i : ι) (ha : DA X B Γ (e :: es) Δ) (hp : pre i) (hi : args i = Δ ++ Θ) (hd : ∀ F, SlsOk F dvs Θ) (hj : j ≤ k := by decide) (hg : glB sc x = true := by decide +kernel)
    (hdb : (x == ("__debug__" : Str)) = false := by decide) (he : starEach (e :: es) X.env = (false, eval e X.env) :: starEach es X.env := by rfl) (hpl : (backTo pos (starEach es X.env)).any (·.1) = false := by rfl) :
    DQ X B Γ (.Call (.Name x p) (e :: es) [] pos) o (f i) :=
  pe_weak (c_callGd c h ha hj hg hdb he hpl) fun σ H Q ⟨F, en, q⟩ => ⟨F, en, fun vs F1 H1 e1 h1 => by
    refine ⟨F1, i, e1.i, by rw [hi]; exact slsOk_app h1 (hd F1), hp, fun v H2 fp s1 h2 h3 => ?_⟩
    have s2 := e1.h.trans s1
    exact q v F H2 fp ⟨Same.refl F, s2, en.same.trans s2, fun b hf _ => hf⟩ (o.mono same00 (fun _ _ => rfl) h2) fun b hb => ⟨en.same.free (e1.h.free (h3 b hb).1), e1.h.free (h3 b hb).1, (h3 b hb).2⟩⟩
end
end DL
namespace DL
open PySem L2 PySem.Spec PyProof.Rows
/-! ### rows in order -/
def insS (x : Int) : List Int → List Int
  | [] => [x]
  | y :: r => if x ≤ y then x :: y :: r else y :: insS x r
def srtI (l : List Int) : List Int := l.foldr insS []
theorem insS_perm (x : Int) : ∀ l : List Int, (insS x l).Perm (x :: l)
  | [] => List.Perm.refl _
  | y :: r => by
    unfold insS
    by_cases h : x ≤ y
    · rw [if_pos h]
    · rw [if_neg h]; exact ((insS_perm x r).cons y).trans (List.Perm.swap x y r)
theorem insS_srt (x : Int) : ∀ {l : List Int}, l.Pairwise (· ≤ ·) → (insS x l).Pairwise (· ≤ ·)
  | [], _ => by simp [insS]
  | y :: r, h => by
    have hh := List.pairwise_cons.mp h
    unfold insS
    by_cases q : x ≤ y
    · rw [if_pos q]
      refine List.pairwise_cons.mpr ⟨fun z hz => ?_, h⟩
      rcases List.mem_cons.mp hz with rfl | hz
      · exact q
      · have := hh.1 z hz; omega
    · rw [if_neg q]
      refine List.pairwise_cons.mpr ⟨fun z hz => ?_, insS_srt x hh.2⟩
      rcases List.mem_cons.mp ((insS_perm x r).mem_iff.mp hz) with rfl | hz
      · omega
      · exact hh.1 z hz
theorem srtI_perm : ∀ l : List Int, (srtI l).Perm l
  | [] => List.Perm.refl _
  | x :: r => (insS_perm x (srtI r)).trans ((srtI_perm r).cons x)
theorem srtI_srt : ∀ l : List Int, (srtI l).Pairwise (· ≤ ·)
  | [] => List.Pairwise.nil
  | x :: r => insS_srt x (srtI_srt r)
theorem srt_uniq : ∀ {a b : List Int}, a.Perm b → a.Pairwise (· ≤ ·) → b.Pairwise (· ≤ ·) → a = b
  | [], b, h, _, _ => by rw [List.Perm.nil_eq h]
  | x :: a, [], h, _, _ => by have := h.length_eq; simp at this
  | x :: a, y :: b, h, h1, h2 => by
    have p1 := List.pairwise_cons.mp h1
    have p2 := List.pairwise_cons.mp h2
    have e : x = y := by
      have hx := h.mem_iff.mp (List.mem_cons_self (a := x) (l := a))
      have hy := h.mem_iff.mpr (List.mem_cons_self (a := y) (l := b))
      rcases List.mem_cons.mp hx with e | hx
      · exact e
      · rcases List.mem_cons.mp hy with e | hy
        · exact e.symm
        · have := p1.1 y hy; have := p2.1 x hx; omega
    subst e
    rw [srt_uniq (List.Perm.cons_inv h) p1.2 p2.2]
/-! rows in order, each once -/
def insU (x : Int) : List Int → List Int
  | [] => [x]
  | y :: r => if x < y then x :: y :: r else if x = y then y :: r else y :: insU x r
def srtU (l : List Int) : List Int := l.foldr insU []
theorem insU_mem (x z : Int) : ∀ l : List Int, z ∈ insU x l ↔ z = x ∨ z ∈ l
  | [] => by simp [insU]
  | y :: r => by
    unfold insU
    by_cases h : x < y
    · rw [if_pos h]; simp
    · rw [if_neg h]
      by_cases q : x = y
      · rw [if_pos q]; subst q; simp
      · rw [if_neg q, List.mem_cons, insU_mem x z r, List.mem_cons]
        constructor
        · rintro (h | h | h)
          · exact .inr (.inl h)
          · exact .inl h
          · exact .inr (.inr h)
        · rintro (h | h | h)
          · exact .inr (.inl h)
          · exact .inl h
          · exact .inr (.inr h)
theorem insU_srt (x : Int) : ∀ {l : List Int}, l.Pairwise (· < ·) → (insU x l).Pairwise (· < ·)
  | [], _ => by simp [insU]
  | y :: r, h => by
    have hh := List.pairwise_cons.mp h
    unfold insU
    by_cases q : x < y
    · rw [if_pos q]
      refine List.pairwise_cons.mpr ⟨fun z hz => ?_, h⟩
      rcases List.mem_cons.mp hz with rfl | hz
      · exact q
      · have := hh.1 z hz; omega
    · rw [if_neg q]
      by_cases e : x = y
      · rw [if_pos e]; exact h
      · rw [if_neg e]
        refine List.pairwise_cons.mpr ⟨fun z hz => ?_, insU_srt x hh.2⟩
        rcases (insU_mem x z r).mp hz with rfl | hz
        · omega
        · exact hh.1 z hz
theorem srtU_mem (z : Int) : ∀ l : List Int, z ∈ srtU l ↔ z ∈ l
  | [] => by simp [srtU]
  | x :: r => by
    show z ∈ insU x (srtU r) ↔ _
    rw [insU_mem, srtU_mem z r, List.mem_cons]
theorem srtU_srt : ∀ l : List Int, (srtU l).Pairwise (· < ·)
  | [] => List.Pairwise.nil
  | x :: r => insU_srt x (srtU_srt r)
theorem srtU_uniq : ∀ {a b : List Int}, (∀ z, z ∈ a ↔ z ∈ b) → a.Pairwise (· < ·) → b.Pairwise (· < ·) → a = b
  | [], [], _, _, _ => rfl
  | [], y :: b, h, _, _ => by have := (h y).mpr (by simp); cases this
  | x :: a, [], h, _, _ => by have := (h x).mp (by simp); cases this
  | x :: a, y :: b, h, h1, h2 => by
    have p1 := List.pairwise_cons.mp h1
    have p2 := List.pairwise_cons.mp h2
    have e : x = y := by
      rcases List.mem_cons.mp ((h x).mp (by simp)) with e | hx
      · exact e
      · rcases List.mem_cons.mp ((h y).mpr (by simp)) with e | hy
        · exact e.symm
        · have := p1.1 y hy; have := p2.1 x hx; omega
    subst e
    rw [srtU_uniq (fun z => ?_) p1.2 p2.2]
    constructor
    · intro hz
      rcases List.mem_cons.mp ((h z).mp (by simp [hz])) with e | q
      · have := p1.1 z hz; omega
      · exact q
    · intro hz
      rcases List.mem_cons.mp ((h z).mpr (by simp [hz])) with e | q
      · have := p2.1 z hz; omega
      · exact q
theorem srtU_len : ∀ l : List Int, (srtU l).length ≤ l.length
  | [] => Nat.le_refl _
  | x :: r => by
    have : ∀ m : List Int, (insU x m).length ≤ m.length + 1 := fun m => by
      induction m with
      | nil => simp [insU]
      | cons y m ih =>
        unfold insU
        split
        · simp
        · split
          · simp
          · simp; omega
    have h1 := this (srtU r)
    have h2 := srtU_len r
    show (insU x (srtU r)).length ≤ _
    rw [List.length_cons]
    omega
/-- y put in at i -/
def insAt {α : Type} (xs : List α) (i : Int) (y : α) : List α := xs.take i.toNat ++ [y] ++ xs.drop i.toNat
theorem Rl.insAt {α : Type} {R : V → α → Prop} {vs : List V} {as : List α} {v : V} {a : α} (i : Int) (h : Rl R vs as) (hv : R v a) : Rl R (DL.insAt vs i v) (DL.insAt as i a) :=
  Rl.append (Rl.append (Rl.take _ h) (Rl.one hv)) (Rl.drop _ h)
section
variable {P : Program} {w : World} {K : PySem.W.Frag} {mg : Str → Option Value} {base : Heap} {k j : Nat} {N : List Str} {sc : Scope} {vs ls : List Nat} {X : Cx} {α β γ ι ρ : Type} {B : Bs} {Γ Γ' : Ctx} {e a b d : Expr} {es : List Expr} {D : Ends} {rest ss body : List Stmt} {p pos apos : Pos} {x y f m q : Str}
/-- while: Inv what stays true, mes what grows less -/
theorem sd_while (hpo : PassesOwn (model X.prog X.w) X.A X.env X.xe) {S : Type} (Γs : S → Ctx) (Iv : S → Prop) (mes : S → Nat) (s0 : S) {tf : S → Bool} (h0 : Cv Γ (Γs s0)) (i0 : Iv s0)
    (ht : ∀ L s, Iv s → DT X (B.lo L) (Γs s) e (tf s))
    (hb : ∀ L s, Iv s → tf s = true → SD X (B.lo L) (Γs s) body { nx := fun σ H => ∃ s', (Iv s' ∧ mes s' < mes s) ∧ EnvP (B.lo L) (Γs s') σ H, ct := fun σ H => ∃ s', (Iv s' ∧ mes s' < mes s) ∧ EnvP (B.lo L) (Γs s') σ H, bk := fun _ _ => False, rt := D.rt })
    (hr : ∀ s, Iv s → tf s = false → SD X B (Γs s) rest D) : SD X B Γ (.While e body [] pos :: rest) D := by
  have HT := pt_ex (I := Hp × S) (Φ := fun i => Iv i.2) fun i h => ht i.1 i.2 h
  have HB := pss_ex (I := Hp × S) (Φ := fun i => Iv i.2 ∧ tf i.2 = true) fun i h => hb i.1 i.2 h.1 h.2
  have HR := pss_ex (I := S) (Φ := fun s => Iv s ∧ tf s = false) fun s h => hr s h.1 h.2
  refine pss_weak (pss_cons (ps_while hpo HT HB) HR) fun D' σ H ⟨hD, F, en⟩ => ?_
  refine ⟨fun n σ H => ∃ s, n = mes s ∧ Iv s ∧ EnvP B (Γs s) σ H, ⟨mes s0, s0, rfl, i0, F, en.cv h0⟩, ?_⟩
  rintro n σ2 H2 ⟨s, rfl, hi, F2, en2⟩
  refine ⟨(B.L, s), hi, F2, en2, fun F3 H3 e3 => ?_⟩
  cases hf : tf s with
  | true =>
    rw [if_pos rfl]
    refine ⟨fun σ' H' => ∃ s', (Iv s' ∧ mes s' < mes s) ∧ EnvP B (Γs s') σ' H', fun σ' H' ⟨s', ⟨i', m'⟩, en'⟩ => ⟨mes s', m', s', rfl, i', en'⟩, (B.L, s), ⟨hi, hf⟩, ?_, F3, en2.ext e3⟩
    exact ⟨fun _ _ h => h, fun v H h => hD.rt v H h, fun _ _ h => h.elim, fun _ _ h => h⟩
  | false =>
    rw [if_neg (by decide)]
    exact ⟨s, ⟨hi, hf⟩, hD, F3, en2.ext e3⟩
/-- x.insert(a, e), x an own list -/
theorem c_insert (c : XC P w K mg base k N sc vs ls X) (i : Nat) {r : Rp α} {as : List α} {yv : α} {ix : Int} {p1 : Pos} (at_ : At Γ i (.own (oList r) as)) (hi : DE X B Γ a rInt ix) (he : DE X B Γ e r yv) (t : To Γ i (.own (oList r) (insAt as ix yv)) Γ') (hr : SD X B Γ' rest D) (hz : as.length ≤ 1000000 ∧ 0 ≤ ix ∧ ix < 2 ^ 62) (hN : N[i]? = some x := by rfl) (hv : vs.contains i = true := by rfl)
    (hd : (x == ("__debug__" : Str)) = false := by decide) (hcd : (x == ("__classdict__" : Str)) = false := by decide)
    (hbase : attributeBase (.Name x p1) "insert" X.env (eval (.Name x p1) X.env) = eval (.Name x p1) X.env := by rfl)
    (hfew : ((backTo p (starEach [a, e] X.env)).all (fun x => !x.1) && (backToKw p (keywordEach [] X.env)).all (fun x => x.1.isSome) && decide ([a, e].length + ([] : List Keyword).length + (if ([] : List Keyword).isEmpty then 0 else 1) < 30)) = true := by rfl)
    (hline : (apos.endLine == p.line) = true := by rfl) (hs : starEach [a, e] X.env = (false, eval a X.env) :: starEach [e] X.env := by rfl) (hs2 : starEach [e] X.env = (false, eval e X.env) :: starEach [] X.env := by rfl) (hpl : (backTo p (starEach [e] X.env)).any (·.1) = false := by rfl)
    (hsw : swapsWith (.Call (.Attribute (.Name x p1) "insert" apos) [a, e] [] p) none pos.line X.env = pure false := by rfl) :
    SD X B Γ (.Expr (.Call (.Attribute (.Name x p1) "insert" apos) [a, e] [] p) pos :: rest) D := by
  have hN' : X.N[i]? = some x := by rw [c.N]; exact hN
  refine sd_mut (pe_bm PySem.F.plainAttrs_list PySem.F.slot_list_insert PySem.F.type_list_insert mt_insert (pe_var hN' (c.vis i x hN' hv) hd hcd) (pa_cons hi (pa_cons he pa_nil hs2) hs) hbase hfew hline hs hpl) hsw at_ t (fun σ F H Q en q => ?_) hr
  obtain ⟨fp, en0⟩ := id en
  obtain ⟨⟨v, hv, p, us, rfl, h2, h3, h4⟩, hn⟩ := en0.ok i _ at_.get
  refine ⟨_, hv, .inl ⟨rfl, us, SqL.of h3⟩, F, en, fun ui F1 H1 e1 h1 => ⟨F1, en.ext e1, fun u F2 H2 e2 h5 => ?_⟩⟩
  have e12 := e1.trans e2
  have h3' : H2 p = some (.lst us) := e12.h _ _ h3
  have h4' : Rl (r.rel F2) us as := Rl.imp (fun _ _ => r.mono e12.f) h4
  cases h1
  exact ⟨p, us, ix, u, rfl, rfl, h3', by rw [h4.length]; exact Nat.lt_of_le_of_lt hz.1 (by decide), hz.2.1, by omega, q F2 H2 p us _ _ (en.ext e12) hv h3' h4' (Rl.insAt ix h4' h5)⟩
/-- sorted(xs) of whole numbers -/
theorem c_sorted (c : XC P w K mg base k N sc vs ls X) {xs : List Int} (ha : DE X B Γ e (rList rInt) xs) (hm : mg "sorted" = none) (hz : xs.length < 64) (hg : glB sc "sorted" = true := by decide +kernel) (he : starEach [e] X.env = [(false, eval e X.env)] := by rfl) :
    DM X B Γ (.Call (.Name "sorted" p) [e] [] pos) rInt (srtI xs) :=
  c_bi1 c cr_sorted hm (by decide +kernel) ha (fun σ H Q ⟨F, en, q⟩ => ⟨F, en, fun v F1 H1 e1 ⟨p, us, h1, h2, h3⟩ => ⟨p, xs, by rw [h1], by rw [← rl_int h3]; exact SqL.of (e1.i _ _ h2), hz, fun ns' p' pm srt hp => by
    have en : ns' = srtI xs := srt_uniq (pm.trans (srtI_perm xs).symm) srt (srtI_srt xs)
    subst en
    exact q p' _ F1 _ (e1.trans (Ext.newH e1.i _ hp)) (e1.i.free hp) (e1.h.free hp) upd_same (Rl.of_map (R := rInt.rel F1) (fun _ => rfl) _)⟩⟩) hg (by decide) (by decide) he
/-- a <= b <= c <= d, as a test -/
def tC3 (ta tb tc td : TE) : TT := fun σ H Q => ta σ H fun x H1 => tb σ H1 fun y H2 => ∃ i j, x = .int i ∧ y = .int j ∧
  (if decide (i ≤ j) = true then tc σ H2 fun z H3 => ∃ k, z = .int k ∧ (if decide (j ≤ k) = true then td σ H3 fun w' H4 => ∃ l, w' = .int l ∧ Q (decide (k ≤ l)) H4 else Q false H3) else Q false H2)
theorem pt_c3 {ta tb tc td : TE} {cc dd : Expr} (ha : PE X a ta) (hb : PE X b tb) (hc : PE X cc tc) (hd : PE X dd td) (hm : lastMarks [.LtE, .LtE, .LtE] [b, cc, dd] = false) : PT X (.Compare a [.LtE, .LtE, .LtE] [b, cc, dd] pos) (tC3 ta tb tc td) := by
  refine ⟨fun pins s σ H Q I h => ?_⟩
  refine isTrue_chain (thn (ha.run pins s σ H _ I h) fun v s1 ⟨x, H1, I1, r1, q1⟩ => test_link (thn (hb.run pins s1 σ H1 _ I1 q1) fun u s2 ⟨y, H2, I2, r2, i, j, ex, ey, q2⟩ =>
    thn (op_le pins s2 σ H2 x y v u (fun t H' => H' = H2 ∧ t = .bl (decide (i ≤ j))) I2 r1 r2 ⟨i, j, ex, ey, rfl, rfl⟩) fun d s3 ⟨z, H3, I3, r3, e3, q3⟩ => ?_)) hm
  subst e3
  subst q3
  cases r3
  refine wpAny_truthy_bool ?_
  by_cases hij : decide (i ≤ j) = true
  · rw [if_pos hij] at q2
    rw [hij]
    refine ite_tt (test_link (thn (hc.run pins s3 σ _ _ I3 q2) fun w3 s4 ⟨z, H4, I4, r4, k, ez, q4⟩ =>
      thn (op_le pins s4 σ H4 y z u w3 (fun t H' => H' = H4 ∧ t = .bl (decide (j ≤ k))) I4 r2 r4 ⟨j, k, ey, ez, rfl, rfl⟩) fun d5 s5 ⟨z5, H5, I5, r5, e5, q5⟩ => ?_))
    subst e5
    subst q5
    cases r5
    refine wpAny_truthy_bool ?_
    by_cases hjk : decide (j ≤ k) = true
    · rw [if_pos hjk] at q4
      rw [hjk]
      refine ite_tt (test_last (thn (hd.run pins s5 σ _ _ I5 q4) fun w6 s6 ⟨z6, H6, I6, r6, l, e6, q6⟩ =>
        thn (op_le pins s6 σ H6 z z6 w3 w6 (fun t H' => H' = H6 ∧ t = .bl (decide (k ≤ l))) I6 r4 r6 ⟨k, l, ez, e6, rfl, rfl⟩) fun d7 s7 ⟨z7, H7, I7, r7, e7, q7⟩ => ?_))
      subst e7
      subst q7
      cases r7
      exact wpAny_truthy_bool ⟨_, I7, q6⟩
    · rw [if_neg hjk] at q4
      rw [Bool.not_eq_true] at hjk
      rw [hjk]
      exact ite_ff ⟨_, I5, q4⟩
  · rw [if_neg hij] at q2
    rw [Bool.not_eq_true] at hij
    rw [hij]
    exact ite_ff ⟨_, I3, q2⟩
theorem dt_le3 {x y z u : Int} {cc dd : Expr} (ha : DE X B Γ a rInt x) (hb : DE X B Γ b rInt y) (hc : DE X B Γ cc rInt z) (hd : DE X B Γ dd rInt u) (hm : lastMarks [.LtE, .LtE, .LtE] [b, cc, dd] = false := by with_unfolding_all rfl) :
    DT X B Γ (.Compare a [.LtE, .LtE, .LtE] [b, cc, dd] pos) (decide (x ≤ y) && (decide (y ≤ z) && decide (z ≤ u))) :=
  pt_weak (pt_c3 ha hb hc hd hm) fun σ H Q ⟨F, en, q⟩ => ⟨F, en, fun v1 F1 H1 e1 h1 => ⟨F1, en.ext e1, fun v2 F2 H2 e2 h2 => ⟨x, y, h1, h2, by
    by_cases hxy : decide (x ≤ y) = true
    · rw [if_pos hxy]
      refine ⟨F2, en.ext (e1.trans e2), fun v3 F3 H3 e3 h3 => ⟨z, h3, ?_⟩⟩
      by_cases hyz : decide (y ≤ z) = true
      · rw [if_pos hyz]
        refine ⟨F3, en.ext (e1.trans (e2.trans e3)), fun v4 F4 H4 e4 h4 => ⟨u, h4, ?_⟩⟩
        have := q F4 H4 (e1.trans (e2.trans (e3.trans e4)))
        rwa [hxy, hyz, Bool.true_and, Bool.true_and] at this
      · rw [if_neg hyz]
        have := q F3 H3 (e1.trans (e2.trans e3))
        rw [Bool.not_eq_true] at hyz
        rwa [hyz, Bool.false_and, Bool.and_false] at this
    · rw [if_neg hxy]
      have := q F2 H2 (e1.trans e2)
      rw [Bool.not_eq_true] at hxy
      rwa [hxy, Bool.false_and] at this⟩⟩⟩
/-- x.bit_length() -/
theorem de_bits {n : Int} (ha : DE X B Γ a rInt n) (hbase : attributeBase a "bit_length" X.env (eval a X.env) = eval a X.env := by rfl) (hline : (apos.endLine == pos.line) = true := by rfl) : DE X B Γ (.Call (.Attribute a "bit_length" apos) [] [] pos) rInt (Builtin.Int.intBits n : Nat) :=
  pe_weak (pe_bits ha hbase hline) fun σ H Q ⟨F, en, q⟩ => ⟨F, en, fun v F1 H1 e1 h1 => ⟨n, h1, q _ F1 H1 e1 rfl⟩⟩
end
end DL
namespace DL
open PySem L2 PySem.Spec PyProof.Rows
/-- the set object as it begins -/
abbrev setNew (w : World) : Obj := { cls := .type "set", dict := none, data := .set #[] 0 (.fresh 0 0 (!w.params.followText "set-order")) }
section
variable {P : Program} {w : World} {A : Around} {E : Value → Shared → Prop} {s : Shared}
set_option maxHeartbeats 3200000 in
/-- set(a list), by what its loop does -/
theorem call_set_listG {l : Addr} {items : Array Value} (Post : Heap → Prop) {Q : Value → Shared → Prop} (hh : A.handled = none) (hl : s.heap.IsList l items)
    (hloop : ∀ {A3 : Around} {I : Addr} {fp wr : List Addr} {G : Array GenState → Array GenState → Prop} {n : Nat} {Pv : Nat → Value → Prop} {St : Nat → Shared → Prop} {R : Result → Shared → Prop} {s1 : Shared},
      WalksS P w A3.in1 I fp wr G n Pv St → s.heap.objs.size ∉ fp → n = items.size → (∀ i v, Pv i v → items[i]? = some v) → St 0 s1 → s1.heap.get? s.heap.objs.size = some (setNew w) →
      (∀ s', Moved (s.heap.objs.size :: wr) G s1 s' → Post s'.heap → R (.ok (.ret .none)) s') → codeAny (model P w) A3 (.builtin "set.update.loop" ⟨[.ref s.heap.objs.size, .ref I], []⟩) R s1)
    (h : ∀ (h' : Heap) (tk : Nat), Post h' → (∀ b o, s.heap.get? b = some o → h'.get? b = some o) → Q (.ref s.heap.objs.size) { s with heap := h', toks := tk }) :
    wpAny (model P w) A (call (.type "set") [.ref l]) Q E s := by
  obtain ⟨c, tl, hmro⟩ := PySem.F.called_set.mro
  have hmade := PySem.F.called_set.made
  have hsub := PySem.F.called_set.sub
  refine wpAny_call (codeAny_of_tree ?_)
  show wpAny _ _ (callAny (.type "set") _) _ _ _
  refine wpAny_pure ⟨Code.quiet_builtin _ (by decide +kernel), codeAny_builtin PySem.F.entry_type_call ?_⟩
  rw [Around.under_plain (weight_type_call_type "set" [.ref l] []) rfl]
  have h1 := PySem.F.called_set.notType
  have h2 := PySem.F.called_set.canCreate
  have hct := PySem.F.typeCall_set_1 (.ref l)
  repeat (any_goals (first | assumption | wp_step))
  refine codeAny_mono (L2.code_set_led1 (.ref l) (E := E) (Q₁ := fun obj s₁ => obj = .ref s.heap.objs.size ∧ s₁ = { s with heap := s.heap.push (setNew w) }) ⟨rfl, rfl⟩) fun r s₁ hr => ?_
  cases r with
  | error e => exact hr
  | ok fl =>
    cases fl with
    | ret obj =>
      obtain ⟨rfl, rfl⟩ := hr
      have hS : (s.heap.push (setNew w)).get? s.heap.objs.size = some (setNew w) := Heap.get?_push_size _ rfl
      have hT : Shared.TypeIs { s with heap := s.heap.push (setNew w) } (.ref s.heap.objs.size) "set" := ⟨_, hS, rfl⟩
      have hli := PySem.F.called_set.init.lookup
      have hbi := PySem.F.called_set.init.bind (.ref s.heap.objs.size)
      repeat (any_goals (first | assumption | wp_step))
      refine codeAny_mono (codeAny_call_builtin (R := wants (fun r s₂ => r = .none ∧ ∃ h' tk, s₂ = { s with heap := h', toks := tk } ∧ Post h' ∧ (∀ b o, s.heap.get? b = some o → h'.get? b = some o)) E) PySem.F.called_set.init.plain PySem.F.entry_set_init (check_set_init_1 hT ?_)) fun r₂ s₂ hr₂ => ?_
      · obtain ⟨ol, hol, hcl, nl, hdl⟩ := hl
        obtain ⟨ocls, odict, odata, oslots⟩ := ol
        simp only at hcl hdl
        subst hcl; subst hdl
        have hol' : (s.heap.push (setNew w)).get? l = some { cls := .type "list", dict := odict, data := .seq items nl, slots := oslots } := Heap.get?_push_of_some _ hol
        have hsls := PySem.F.sub_list_set
        have hslf := PySem.F.sub_list_frozenset
        have hne : (Value.type "list" == Value.type "dict") = false := by decide
        have hl1 : (s.heap.push (setNew w)).IsList l items := ⟨_, hol', rfl, nl, rfl⟩
        unfold Builtin.«set.__init__» noKeywords Builtin.Frozenset.updateFrom
        generalize hPI : pyIter = PI
        wp_walk
        subst hPI
        refine wpAny_pyIter_list hl1 ?_
        refine wpAny_bind (wpAny_runValue ?_)
        have hlS : l < s.heap.objs.size := Heap.lt_size hol
        have hh3 : A.in1.in1.in1.handled = none := by simp [hh]
        have hneI : l ≠ (s.heap.push (setNew w)).objs.size := by
          rw [Heap.size_push]; exact Nat.ne_of_lt (Nat.lt_succ_of_lt hlS)
        have hSf : s.heap.objs.size ∉ [(s.heap.push (setNew w)).objs.size, l] := by
          rw [Heap.size_push]; simp only [List.mem_cons, List.mem_singleton, List.not_mem_nil, or_false, not_or]
          exact ⟨Nat.ne_of_lt (Nat.lt_succ_self _), Nat.ne_of_gt hlS⟩
        refine hloop ((Walks.list hh3 _ l hneI items).toS) hSf rfl (fun i v hv => hv) ⟨⟨_, Heap.get?_push_size _ rfl, rfl, rfl⟩, hl1.push _⟩ (Heap.get?_push_of_some _ hS) fun s' hm hP => ?_
        obtain ⟨h', g2, d', tk', os'⟩ := s'
        have eg : g2 = s.gens := hm.gens
        have ed : d' = s.drawn := hm.drawn
        have eo : os' = s.os := hm.os
        subst eg; subst ed; subst eo
        show wpAny _ _ _ _ _ _
        refine wpAny_pure ?_
        show wpAny _ _ (ret Value.none) _ _ _
        refine wpAny_pure ⟨rfl, h', tk', rfl, hP, fun b o e => ?_⟩
        have hb0 : b < s.heap.objs.size := Heap.lt_size e
        have hb2 : b ≠ (s.heap.push (setNew w)).objs.size := by
          rw [Heap.size_push]; exact Nat.ne_of_lt (Nat.lt_succ_of_lt hb0)
        exact hm.heap b o (by simp only [List.mem_cons, List.mem_singleton, List.not_mem_nil, or_false, not_or]; exact ⟨Nat.ne_of_lt hb0, hb2⟩) (Heap.get?_push_of_some _ (Heap.get?_push_of_some _ e))
      · cases r₂ with
        | error e => exact hr₂
        | ok fl₂ =>
          cases fl₂ with
          | ret r =>
            obtain ⟨rfl, h', tk, rfl, hP, hk'⟩ := hr₂
            repeat (any_goals (first | assumption | wp_step))
            exact h _ _ hP hk'
          | _ => exact hr₂.elim
    | _ => exact hr.elim
/-- of whole numbers -/
theorem call_set_listI {l : Addr} {items : Array Value} (ns : List Int) {Q : Value → Shared → Prop} (hh : A.handled = none) (hl : s.heap.IsList l items) (hit : IntsAre items.toList ns) (hb : ns.length + 1 < scanBound)
    (h : ∀ (h' : Heap) (tk c : Nat), SetR w h' s.heap.objs.size (fun j => decide (j ∈ ns)) c → c ≤ ns.length → (∀ b o, s.heap.get? b = some o → h'.get? b = some o) → Q (.ref s.heap.objs.size) { s with heap := h', toks := tk }) :
    wpAny (model P w) A (call (.type "set") [.ref l]) Q E s := by
  have hisz : items.size = ns.length := by
    have q := IntsAre.length hit
    rw [Array.length_toList] at q
    exact q
  refine call_set_listG (fun h' => ∃ c, c ≤ ns.length ∧ SetR w h' s.heap.objs.size (fun j => decide (j ∈ ns)) c) hh hl (fun {A3 I fp wr G n Pv St R s1} W hSf hn hv st hget hR => ?_) fun h' tk ⟨c, hc, hS⟩ k => h h' tk c hS hc k
  have hval : ∀ i v, Pv i v → ∃ k t, ns[i]? = some k ∧ v = .int k t := fun i v q => by
    have hv' := hv i v q
    have hi : i < ns.length := by rw [← hisz]; exact (Array.getElem?_eq_some_iff.mp hv').1
    obtain ⟨t, e⟩ := PyProof.Rows.IntsAre.int_at hit i v (by rw [Array.getElem?_toList]; exact hv')
    refine ⟨ns[i], t, List.getElem?_eq_getElem hi, ?_⟩
    rw [e, List.getD_eq_getElem?_getD, List.getElem?_eq_getElem hi] <;> rfl
  refine L2.set_update_ints W s.heap.objs.size hSf ns (by omega) hb hval (n - 0) 0 s1 (by omega) (Nat.zero_le _) st ⟨0, Nat.le_refl 0, L2.setR_new_at hget⟩ fun s' c hm hc hS => hR s' hm ⟨c, by omega, hS⟩
/-- of texts -/
theorem call_set_listT {l : Addr} {items : Array Value} (xs : List Str) {Q : Value → Shared → Prop} (hh : A.handled = none) (hl : s.heap.IsList l items) (hit : StrsAre items.toList xs) (hb : xs.length + 2 < scanBound)
    (h : ∀ (h' : Heap) (tk : Nat), h'.SetOf (PySem.strKind P w) s.heap.objs.size (fun k' => xs.any (· == k')) (dis xs) → (∀ b o, s.heap.get? b = some o → h'.get? b = some o) → Q (.ref s.heap.objs.size) { s with heap := h', toks := tk }) :
    wpAny (model P w) A (call (.type "set") [.ref l]) Q E s := by
  have hisz : items.size = xs.length := by
    have q := hit.length
    rw [Array.length_toList] at q
    exact q
  refine call_set_listG (fun h' => h'.SetOf (PySem.strKind P w) s.heap.objs.size (fun k' => xs.any (· == k')) (dis xs)) hh hl (fun {A3 I fp wr G n Pv St R s1} W hSf hn hv st hget hR => ?_) h
  have en : n = xs.length := by omega
  have et : xs.take n = xs := by rw [en, List.take_length]
  refine loopG W s.heap.objs.size hSf xs en.symm (by omega) (fun i v q => ?_) (n - 0) 0 s1 (by omega) (Nat.zero_le _) st ?_ fun s' hm hS => hR s' hm (by rw [et] at hS; exact hS)
  · have hv' := hv i v q
    exact SS.strs_at hit i v (by rw [Array.getElem?_toList]; exact hv')
  · exact PyProof.Rows.SetOf_congr ((PyProof.Rows.setObjOf_fresh (knd := PySem.strKind P w) (!w.params.followText "set-order")).setOf hget (by have := (Heap.lt_size hget); omega)) (fun _ => rfl) rfl
end
/-! ### the calls, by values -/
section
variable {P : Program} {w : World} {K : PySem.W.Frag} {mg : Str → Option Value} {base : Heap} {k j : Nat} {N : List Str} {sc : Scope} {vs ls : List Nat} {X : Cx} {α β γ ι ρ : Type} {B : Bs} {Γ Γ' : Ctx} {e a b d : Expr} {es : List Expr} {D : Ends} {rest ss body : List Stmt} {p p2 pos pos2 apos : Pos} {x y f m q : Str}
theorem cr_setL (hc : X.calm = true) : CallR X (.type "set") (fun xs H Q => ∃ (p : Addr) (ns : List Int), xs = [.ref p] ∧ SqL X.K H p (ns.map V.int) ∧ ns.length ≤ 1000 ∧ ∀ (q : Addr) (c : Nat), H q = none → c ≤ ns.length → Q (.ref q) (upd H q (SetO X.w q (fun j => decide (j ∈ ns)) c))) := by
  intro pins s σ H xs us Q I r h
  obtain ⟨p, ns, rfl, hq, hz, q⟩ := h
  obtain ⟨u, rfl, r1⟩ := vals1 r
  cases r1
  obtain ⟨its, rv, pl, _⟩ := I.list hq
  refine call_set_listI ns (I.ok.hd hc) pl.isList (by simpa using rv.ints) (Nat.lt_of_le_of_lt (Nat.succ_le_succ hz) (by decide)) fun h' tk c hS hc' k => ?_
  exact ⟨.ref _, upd H s.heap.objs.size (SetO X.w s.heap.objs.size (fun j => decide (j ∈ ns)) c), I.laid (t' := tk) (fun b u e => k b u e) (Nat.le_refl _) (setO_new hS), rfl, q _ c (I.hok.fresh (Nat.le_refl _)) hc'⟩
/-- sorted(set(xs)) of whole numbers -/
theorem c_sortedSet (c : XC P w K mg base k N sc vs ls X) {xs : List Int} (ha : DE X B Γ e (rList rInt) xs) (hm : mg "sorted" = none) (hm2 : mg "set" = none) (hz : xs.length < 64) (hg : glB sc "sorted" = true := by decide +kernel) (hg2 : glB sc "set" = true := by decide +kernel)
    (he : starEach [e] X.env = [(false, eval e X.env)] := by rfl) (he2 : starEach [.Call (.Name "set" p2) [e] [] pos2] X.env = [(false, eval (.Call (.Name "set" p2) [e] [] pos2) X.env)] := by rfl) :
    DM X B Γ (.Call (.Name "sorted" p) [.Call (.Name "set" p2) [e] [] pos2] [] pos) rInt (srtU xs) := by
  have hset : PE X (.Call (.Name "set" p2) [e] [] pos2) (fun σ H Q => ∃ F, Env B Γ σ F H ∧ ∀ F1 H1 (q : Addr) (cc : Nat), Ext F H F1 H1 → F1 q = none → H q = none → H1 q = some (SetO X.w q (fun j => decide (j ∈ xs)) cc) → cc ≤ xs.length → Q (.ref q) H1) :=
    pe_weak (pe_callTy (cr_setL c.calm) (gl_of c.sc hg2) (by rw [c.mg]; exact hm2) (by decide +kernel) (pa_cons ha pa_nil he) (by decide) (by decide) he) fun σ H Q ⟨F, en, q⟩ => ⟨F, en, fun v F1 H1 e1 ⟨p, us, h1, h2, h3⟩ => by
      rw [h1]
      refine ⟨p, xs, rfl, by rw [← rl_int h3]; exact SqL.of (e1.i _ _ h2), by omega, fun q' cc hq hcc => ?_⟩
      exact q F1 _ q' cc (e1.trans (Ext.newH e1.i _ hq)) (e1.i.free hq) (e1.h.free hq) upd_same hcc⟩
  refine pe_weak (pe_callB (cr_sortedSet c.calm) (gl_of c.sc hg) (by rw [c.mg]; exact hm) (by decide +kernel) (pa_cons hset pa_nil he2) (by decide) (by decide) he2 (by rfl)) fun σ H Q ⟨F, en, q⟩ => ⟨F, en, fun F1 H1 q' cc e1 f1 n1 hq hcc => ?_⟩
  refine ⟨q', _, cc, rfl, hq, by omega, fun ns p' srt mem hl hp => ?_⟩
  have en : ns = srtU xs := srtU_uniq (fun z => by rw [mem z, srtU_mem]; simp) srt (srtU_srt xs)
  subst en
  exact q p' _ F1 _ (e1.trans (Ext.newH e1.i _ hp)) (e1.i.free hp) (e1.h.free hp) upd_same (Rl.of_map (R := rInt.rel F1) (fun _ => rfl) _)
end
end DL
namespace DL
open PySem L2 PySem.Spec PyProof.Rows
/-- a zip that handed out the pair at T, which is kept -/
abbrev ZipK (h : Heap) (z TI TO T : Addr) (b : Bool) : Prop :=
  h.get? z = some { cls := .type "zip", dict := none, data := .fields #[rawInt (T : Int), .bool b, .bool false, .ref TI, .ref TO], slots := #[] }
theorem wpAny_lia {M : Model} {A : Around} {E : Value → Shared → Prop} {s : Shared} {a : Addr} {Q : Option Obj → Shared → Prop} (h : Q (s.heap.get? a) s) : wpAny M A (loadIfAlive a) Q E s := fun _ _ _ => h
section
variable {prog : Program} {w : World} {A : Around} {E : Value → Shared → Prop} {s : Shared}
theorem kept_free {z TI TO T : Addr} {bb : Bool} (hz : ZipK s.heap z TI TO T bb) (hT : ∃ o, s.heap.get? T = some o) :
    wpAny (model prog w) A (Builtin.SmallTypes.ownedTupleIsFree (.ref z)) (fun b s' => b = false ∧ ∃ h₁, s' = { s with heap := h₁ } ∧ ZipK h₁ z TI TO T true ∧ Heap.SameBut z s.heap h₁) E s := by
  unfold Builtin.SmallTypes.ownedTupleIsFree
  refine wpAny_bind (wpAny_field hz rfl (x := rawInt (T : Int)) rfl ?_)
  show wpAny _ _ (loadIfAlive ((T : Int).toNat) >>= _) _ _ _
  refine wpAny_bind (wpAny_lia ?_)
  have et : ((T : Int).toNat) = T := by omega
  rw [et]
  obtain ⟨oT, hoT⟩ := hT
  rw [hoT]
  show wpAny _ _ (field (.ref z) 1 >>= _) _ _ _
  refine wpAny_bind (wpAny_field hz rfl (x := .bool bb) rfl ?_)
  cases bb with
  | false =>
    show wpAny _ _ (setField (.ref z) 1 (.bool true) >>= _) _ _ _
    exact wpAny_bind (wpAny_setField_rec hz (by simp) fun h₁ hz₁ hs₁ => wpAny_pure ⟨rfl, h₁, rfl, hz₁, hs₁⟩)
  | true => exact wpAny_pure ⟨rfl, s.heap, rfl, hz, ⟨rfl, fun _ _ => rfl⟩⟩
theorem zipK_item {z TI TO T i1 i2 l1 l2 : Addr} {k1 k2 : Nat} {xs ys : Array Value} {x y : Value} {bb : Bool} {Q : Value → Shared → Prop} (D : ZipApart z TI TO i1 i2 l1 l2)
    (hz : ZipK s.heap z TI TO T bb) (hT : ∃ o, s.heap.get? T = some o) (hTI : IsPair s.heap TI (.ref i1) (.ref i2))
    (h1 : s.heap.IsListIter i1 l1 k1) (h2 : s.heap.IsListIter i2 l2 k2) (hl1 : s.heap.IsList l1 xs) (hl2 : s.heap.IsList l2 ys) (hx : xs[k1]? = some x) (hy : ys[k2]? = some y)
    (hQ : ∀ h', ZipK h' z TI TO T true → h'.IsListIter i1 l1 (k1 + 1) → h'.IsListIter i2 l2 (k2 + 1) → IsPair h' s.heap.objs.size x y → h'.objs.size = s.heap.objs.size + 1 →
      (∀ c o, c ≠ z → c ≠ i1 → c ≠ i2 → s.heap.get? c = some o → h'.get? c = some o) → Q (.ref s.heap.objs.size) { s with heap := h' }) :
    wpAny (model prog w) A (Builtin.«zip.__next__» ⟨[.ref z], []⟩) (fun fin s' => ∃ v, fin = .done (.ret v) ∧ Q v s') E s := by
  show wpAny _ _ (field (.ref z) 2 >>= _) _ _ _
  refine wpAny_bind (wpAny_field hz rfl (x := .bool false) rfl ?_)
  show wpAny _ _ (field (.ref z) 3 >>= _) _ _ _
  refine wpAny_bind (wpAny_field hz rfl (x := .ref TI) rfl ?_)
  refine wpAny_bind (wpAny_seqItems hTI rfl ?_)
  show wpAny _ _ (Builtin.SmallTypes.ownedTupleIsFree (.ref z) >>= _) _ _ _
  refine wpAny_bind (thn (kept_free hz hT) fun b s1 hb => ?_)
  obtain ⟨rfl, h₁, rfl, hz₁, hs₁⟩ := hb
  simp only [Bool.false_eq_true, if_false]
  rw [← Array.forIn_toList]
  simp only [List.forIn_cons, List.forIn_nil]
  refine wpAny_bind (wpAny_bind (wpAny_bind (wpAny_holding ?_)))
  show wpAny _ _ (Builtin.SmallTypes.nextOf (.ref i1) >>= _) _ _ _
  refine wpAny_bind (wpAny_nextOf_list_item (h1.extBut hs₁.extBut D.i1z) (hl1.extBut hs₁.extBut D.l1z) hx fun h₂ h1₂ hs₂ => wpAny_pure ?_)
  refine wpAny_pure ?_
  refine wpAny_bind (wpAny_bind (wpAny_holding ?_))
  show wpAny _ _ (Builtin.SmallTypes.nextOf (.ref i2) >>= _) _ _ _
  refine wpAny_bind (wpAny_nextOf_list_item ((h2.extBut hs₁.extBut D.i2z).extBut hs₂.extBut D.i12.symm) ((hl2.extBut hs₁.extBut D.l2z).extBut hs₂.extBut D.l2i1) hy fun h₃ h2₃ hs₃ => wpAny_pure ?_)
  refine wpAny_pure (wpAny_pure ?_)
  have hsz : h₃.objs.size = s.heap.objs.size := by rw [hs₃.1, hs₂.1, hs₁.1]
  have hz₃ : ZipK h₃ z TI TO T true := hs₃.extBut _ _ D.i2z.symm (hs₂.extBut _ _ D.i1z.symm hz₁)
  have hk₃ : ∀ c o, c ≠ z → c ≠ i1 → c ≠ i2 → s.heap.get? c = some o → h₃.get? c = some o := fun c o c1 c2 c3 e => hs₃.extBut _ _ c3 (hs₂.extBut _ _ c2 (hs₁.extBut _ _ c1 e))
  have h1₃ : h₃.IsListIter i1 l1 (k1 + 1) := h1₂.extBut hs₃.extBut D.i12
  show wpAny _ _ (newTuple _ >>= _) _ _ _
  refine wpAny_bind (wpAny_newTuple (hsz := by show (2 : Nat) ≤ sizeLine; rw [sizeLine_eq]; decide) ?_)
  refine wpAny_pure ⟨_, rfl, ?_⟩
  show Q (.ref h₃.objs.size) _
  rw [hsz]
  refine hQ _ (Heap.get?_push_of_some _ hz₃) (h1₃.at fun o e => Heap.get?_push_of_some _ e) (h2₃.at fun o e => Heap.get?_push_of_some _ e) ?_ (by rw [Heap.size_push, hsz]) fun c o c1 c2 c3 e => Heap.get?_push_of_some _ (hk₃ c o c1 c2 c3 e)
  rw [← hsz]
  exact Heap.get?_push_size _ rfl
theorem zipK_end {z TI TO T i1 i2 l1 l2 : Addr} {k1 k2 : Nat} {xs ys : Array Value} {bb : Bool} {Q : Fin → Shared → Prop} (hh : A.handled = none) (D : ZipApart z TI TO i1 i2 l1 l2)
    (hz : ZipK s.heap z TI TO T bb) (hT : ∃ o, s.heap.get? T = some o) (hTI : IsPair s.heap TI (.ref i1) (.ref i2))
    (h1 : s.heap.IsListIter i1 l1 k1) (h2 : s.heap.IsListIter i2 l2 k2) (hl1 : s.heap.IsList l1 xs) (hl2 : s.heap.IsList l2 ys) (hend : xs[k1]? = none ∨ ys[k2]? = none)
    (hE : ∀ h' e, (∀ c o, c ≠ z → c ≠ i1 → c ≠ i2 → s.heap.get? c = some o → h'.get? c = some o) → (∃ o, h'.get? e = some o ∧ o.cls = .type "StopIteration") → E (.ref e) { s with heap := h' }) :
    wpAny (model prog w) A (Builtin.«zip.__next__» ⟨[.ref z], []⟩) Q E s := by
  show wpAny _ _ (field (.ref z) 2 >>= _) _ _ _
  refine wpAny_bind (wpAny_field hz rfl (x := .bool false) rfl ?_)
  show wpAny _ _ (field (.ref z) 3 >>= _) _ _ _
  refine wpAny_bind (wpAny_field hz rfl (x := .ref TI) rfl ?_)
  refine wpAny_bind (wpAny_seqItems hTI rfl ?_)
  show wpAny _ _ (Builtin.SmallTypes.ownedTupleIsFree (.ref z) >>= _) _ _ _
  refine wpAny_bind (thn (kept_free hz hT) fun b s1 hb => ?_)
  obtain ⟨rfl, h₁, rfl, hz₁, hs₁⟩ := hb
  simp only [Bool.false_eq_true, if_false]
  rw [← Array.forIn_toList]
  simp only [List.forIn_cons, List.forIn_nil]
  refine wpAny_bind (wpAny_bind (wpAny_bind (wpAny_holding ?_)))
  show wpAny _ _ (Builtin.SmallTypes.nextOf (.ref i1) >>= _) _ _ _
  cases hx : xs[k1]? with
  | none => exact wpAny_bind (wpAny_nextOf_list_end hh (h1.extBut hs₁.extBut D.i1z) (hl1.extBut hs₁.extBut D.l1z) hx fun h₂ e hs₂ he => hE h₂ e (fun c o c1 c2 _ q => hs₂ _ _ c2 (hs₁.extBut _ _ c1 q)) he)
  | some x =>
    have hy : ys[k2]? = none := by rcases hend with h | h; rw [hx] at h; cases h; exact h
    refine wpAny_bind (wpAny_nextOf_list_item (h1.extBut hs₁.extBut D.i1z) (hl1.extBut hs₁.extBut D.l1z) hx fun h₂ h1₂ hs₂ => wpAny_pure ?_)
    refine wpAny_pure ?_
    refine wpAny_bind (wpAny_bind (wpAny_holding ?_))
    show wpAny _ _ (Builtin.SmallTypes.nextOf (.ref i2) >>= _) _ _ _
    exact wpAny_bind (wpAny_nextOf_list_end hh ((h2.extBut hs₁.extBut D.i2z).extBut hs₂.extBut D.i12.symm) ((hl2.extBut hs₁.extBut D.l2z).extBut hs₂.extBut D.l2i1) hy fun h₃ e hs₃ he => hE h₃ e (fun c o c1 c2 c3 q => hs₃ _ _ c3 (hs₂.extBut _ _ c2 (hs₁.extBut _ _ c1 q))) he)
/-- next of such a zip -/
theorem pyNext_zipK {z TI TO T i1 i2 l1 l2 : Addr} {k1 k2 : Nat} {xs ys : Array Value} {x y : Value} {bb : Bool} {Q : Option Value → Shared → Prop} (D : ZipApart z TI TO i1 i2 l1 l2)
    (hz : ZipK s.heap z TI TO T bb) (hT : ∃ o, s.heap.get? T = some o) (hTI : IsPair s.heap TI (.ref i1) (.ref i2))
    (h1 : s.heap.IsListIter i1 l1 k1) (h2 : s.heap.IsListIter i2 l2 k2) (hl1 : s.heap.IsList l1 xs) (hl2 : s.heap.IsList l2 ys) (hx : xs[k1]? = some x) (hy : ys[k2]? = some y)
    (hQ : ∀ h', ZipK h' z TI TO T true → h'.IsListIter i1 l1 (k1 + 1) → h'.IsListIter i2 l2 (k2 + 1) → IsPair h' s.heap.objs.size x y → h'.objs.size = s.heap.objs.size + 1 →
      (∀ c o, c ≠ z → c ≠ i1 → c ≠ i2 → s.heap.get? c = some o → h'.get? c = some o) → Q (some (.ref s.heap.objs.size)) { s with heap := h' }) :
    wpAny (model prog w) A (pyNext (.ref z)) Q E s := by
  have hZ : s.TypeIs (.ref z) "zip" := ⟨_, hz, rfl⟩
  unfold pyNext
  exact wpAny_bind (wpAny_attempt (wpAny_callSpecial?_slot (name := Str.ofString "__next__") hZ PySem.F.slot_zip_next
    (wpAny_call_entry PySem.F.slot_zip_next hZ PySem.F.entry_zip_next (zipK_item D hz hT hTI h1 h2 hl1 hl2 hx hy fun h' a1 a2 a3 a4 a5 a6 => wpAny_pure (hQ h' a1 a2 a3 a4 a5 a6)) (PySem.F.args_zip_next_1 _))))
theorem pyNext_zipK_end {z TI TO T i1 i2 l1 l2 : Addr} {k1 k2 : Nat} {xs ys : Array Value} {bb : Bool} {Q : Option Value → Shared → Prop} (hh : A.handled = none) (D : ZipApart z TI TO i1 i2 l1 l2)
    (hz : ZipK s.heap z TI TO T bb) (hT : ∃ o, s.heap.get? T = some o) (hTI : IsPair s.heap TI (.ref i1) (.ref i2))
    (h1 : s.heap.IsListIter i1 l1 k1) (h2 : s.heap.IsListIter i2 l2 k2) (hl1 : s.heap.IsList l1 xs) (hl2 : s.heap.IsList l2 ys) (hend : xs[k1]? = none ∨ ys[k2]? = none)
    (hQ : ∀ h', (∀ c o, c ≠ z → c ≠ i1 → c ≠ i2 → s.heap.get? c = some o → h'.get? c = some o) → Q none { s with heap := h' }) : wpAny (model prog w) A (pyNext (.ref z)) Q E s := by
  have hZ : s.TypeIs (.ref z) "zip" := ⟨_, hz, rfl⟩
  unfold pyNext
  refine wpAny_bind (wpAny_attempt (wpAny_callSpecial?_slot (name := Str.ofString "__next__") hZ PySem.F.slot_zip_next
    (wpAny_call_entry PySem.F.slot_zip_next hZ PySem.F.entry_zip_next (zipK_end hh D hz hT hTI h1 h2 hl1 hl2 hend fun h' e hk he => ?_) (PySem.F.args_zip_next_1 _))))
  obtain ⟨o, ho, hc⟩ := he
  refine wpAny_bind (wpAny_isInstance (T := "StopIteration") (b := true) ⟨o, ho, hc⟩ isSubtype_stop ?_)
  exact wpAny_pure (hQ _ hk)
end
end DL
namespace DL
open PySem L2 PySem.Spec PyProof.Rows
/-- a zip of two lists, i pairs handed out -/
def ZS (z TI TO i1 i2 l1 l2 : Addr) (xs ys : Array Value) (h : Heap) (i : Nat) : Prop :=
  IsPair h TI (.ref i1) (.ref i2) ∧ h.IsListIter i1 l1 i ∧ h.IsListIter i2 l2 i ∧ h.IsList l1 xs ∧ h.IsList l2 ys ∧
    ((i = 0 ∧ IsZip h z TI TO .none ∧ ∃ a b, IsPair h TO a b) ∨ (∃ T bb, ZipK h z TI TO T bb ∧ ∃ o, h.get? T = some o))
/-- the pairs that a list has -/
def AccZ (base : Nat) (xs ys : Array Value) (h : Heap) (acc : Array Value) (i : Nat) : Prop :=
  acc.size = i ∧ ∀ j, j < i → ∃ T x y, acc[j]? = some (.ref T) ∧ xs[j]? = some x ∧ ys[j]? = some y ∧ IsPair h T x y ∧ base ≤ T
theorem AccZ.keep {base : Nat} {xs ys : Array Value} {h h' : Heap} {acc : Array Value} {i : Nat} (a : AccZ base xs ys h acc i) (k : ∀ b o, base ≤ b → h.get? b = some o → h'.get? b = some o) : AccZ base xs ys h' acc i :=
  ⟨a.1, fun j hj => let ⟨T, x, y, e1, e2, e3, e4, e5⟩ := a.2 j hj; ⟨T, x, y, e1, e2, e3, k T _ e5 e4, e5⟩⟩
theorem AccZ.push {base : Nat} {xs ys : Array Value} {h : Heap} {acc : Array Value} {i : Nat} {T : Addr} {x y : Value} (a : AccZ base xs ys h acc i) (hx : xs[i]? = some x) (hy : ys[i]? = some y) (hT : IsPair h T x y) (hb : base ≤ T) : AccZ base xs ys h (acc.push (.ref T)) (i + 1) := by
  refine ⟨by rw [Array.size_push, a.1], fun j hj => ?_⟩
  by_cases e : j = i
  · subst e
    exact ⟨T, x, y, by rw [← a.1]; simp, hx, hy, hT, hb⟩
  · obtain ⟨T', x', y', e1, e2, e3, e4, e5⟩ := a.2 j (by omega)
    refine ⟨T', x', y', ?_, e2, e3, e4, e5⟩
    rw [Array.getElem?_push, if_neg (by rw [a.1]; exact e)]
    exact e1
section
variable {prog : Program} {w : World} {A : Around} {E : Value → Shared → Prop} {s : Shared} {R : Result → Shared → Prop}
theorem ZS.keep {z TI TO i1 i2 l1 l2 : Addr} {xs ys : Array Value} {h h' : Heap} {i : Nat} (a : ZS z TI TO i1 i2 l1 l2 xs ys h i) (S : Addr) (hS : S ∉ [z, TI, TO, i1, i2, l1, l2]) (hT : ∀ T o, h.get? T = some o → ∃ o', h'.get? T = some o') (k : ∀ b o, b ≠ S → h.get? b = some o → h'.get? b = some o) : ZS z TI TO i1 i2 l1 l2 xs ys h' i := by
  simp only [List.mem_cons, List.not_mem_nil, or_false, not_or] at hS
  obtain ⟨n1, n2, n3, n4, n5, n6, n7⟩ := hS
  obtain ⟨a1, a2, a3, a4, a5, a6⟩ := a
  refine ⟨k _ _ (Ne.symm n2) a1, a2.at fun o e => k _ o (Ne.symm n4) e, a3.at fun o e => k _ o (Ne.symm n5) e, a4.at fun o e => k _ o (Ne.symm n6) e, a5.at fun o e => k _ o (Ne.symm n7) e, ?_⟩
  rcases a6 with ⟨e, b1, x, y, b2⟩ | ⟨T, bb, b1, o, b2⟩
  · exact .inl ⟨e, k _ _ (Ne.symm n1) b1, x, y, k _ _ (Ne.symm n3) b2⟩
  · exact .inr ⟨T, bb, k _ _ (Ne.symm n1) b1, hT T o b2⟩
theorem zip_extend {z TI TO i1 i2 l1 l2 : Addr} {xs ys : Array Value} (hh : A.handled = none) (D : ZipApart z TI TO i1 i2 l1 l2) (S : Addr) (res : Value) (hS : S ∉ [z, TI, TO, i1, i2, l1, l2]) (base : Nat) (hbase : ∀ b ∈ [S, z, TI, TO, i1, i2, l1, l2], b < base) (hn : min xs.size ys.size ≤ 1000000) :
    ∀ (k i : Nat) (s : Shared) (acc : Array Value) (c : Nat), min xs.size ys.size - i = k → i ≤ min xs.size ys.size → base ≤ s.heap.objs.size → ZS z TI TO i1 i2 l1 l2 xs ys s.heap i →
      s.heap.get? S = some { cls := .type "list", dict := none, data := .seq acc c, slots := #[] } → AccZ base xs ys s.heap acc i →
      (∀ h' acc' c', (∀ b o, b ∉ [S, z, TO, i1, i2] → s.heap.get? b = some o → h'.get? b = some o) → h'.get? S = some { cls := .type "list", dict := none, data := .seq acc' c', slots := #[] } →
        AccZ base xs ys h' acc' (min xs.size ys.size) → R (.ok (.ret res)) { s with heap := h' }) →
      codeAny (model prog w) A (.builtin "list.extend.loop" ⟨[.ref S, .ref z, res], []⟩) R s := by
  have nS := hS
  simp only [List.mem_cons, List.not_mem_nil, or_false, not_or] at nS
  obtain ⟨n1, n2, n3, n4, n5, n6, n7⟩ := nS
  have hh1 : A.in1.handled = none := by simp [hh]
  intro k
  induction k with
  | zero =>
    intro i s acc c hk hi hb hz hSo hacc hR
    have hin : i = min xs.size ys.size := by omega
    have hend : xs[i]? = none ∨ ys[i]? = none := by
      rcases Nat.le_total xs.size ys.size with h | h
      · exact .inl (by rw [hin, Nat.min_eq_left h]; exact Array.getElem?_eq_none (Nat.le_refl _))
      · exact .inr (by rw [hin, Nat.min_eq_right h]; exact Array.getElem?_eq_none (Nat.le_refl _))
    refine codeAny_builtin PySem.F.entry_extend_loop ?_
    rw [Around.under_plainId PySem.F.plain_extend_loop _]
    show wpAny _ A.in1 (pyNext (.ref z) >>= _) _ _ s
    obtain ⟨a1, a2, a3, a4, a5, a6⟩ := hz
    have fin : ∀ h', (∀ c o, c ≠ z → c ≠ TO → c ≠ i1 → c ≠ i2 → s.heap.get? c = some o → h'.get? c = some o) → R (.ok (.ret res)) { s with heap := h' } := fun h' hk => by
      have lt : ∀ b, b ∈ [S, z, TI, TO, i1, i2, l1, l2] → ∀ q, base ≤ q → q ≠ b := fun b hb' q hq e => by subst e; exact absurd (hbase _ hb') (Nat.not_lt.mpr hq)
      refine hR h' acc c (fun b o hb' e => ?_) (hk S _ n1 n3 n4 n5 hSo) (by rw [← hin]; exact hacc.keep fun b o hb' e => hk b o (lt z (by simp) b hb') (lt TO (by simp) b hb') (lt i1 (by simp) b hb') (lt i2 (by simp) b hb') e)
      simp only [List.mem_cons, List.not_mem_nil, or_false, not_or] at hb'
      exact hk b o hb'.2.1 hb'.2.2.1 hb'.2.2.2.1 hb'.2.2.2.2 e
    rcases a6 with ⟨e, b1, x, y, b2⟩ | ⟨T, bb, b1, hT⟩
    · exact wpAny_bind (wpAny_pyNext_zip_end hh1 D b1 a1 b2 a2 a3 a4 a5 hend fun h' hk => wpAny_pure (fin h' hk))
    · exact wpAny_bind (pyNext_zipK_end hh1 D b1 hT a1 a2 a3 a4 a5 hend fun h' hk => wpAny_pure (fin h' fun c o c1 _ c3 c4 e => hk c o c1 c3 c4 e))
  | succ k ih =>
    intro i s acc c hk hi hb hz hSo hacc hR
    have hlt : i < min xs.size ys.size := by omega
    have hix : i < xs.size := Nat.lt_of_lt_of_le hlt (Nat.min_le_left ..)
    have hiy : i < ys.size := Nat.lt_of_lt_of_le hlt (Nat.min_le_right ..)
    have ex : xs[i]? = some xs[i] := Array.getElem?_eq_getElem hix
    have ey : ys[i]? = some ys[i] := Array.getElem?_eq_getElem hiy
    refine codeAny_builtin PySem.F.entry_extend_loop ?_
    rw [Around.under_plainId PySem.F.plain_extend_loop _]
    show wpAny _ A.in1 (pyNext (.ref z) >>= _) _ _ s
    have lt : ∀ b, b ∈ [S, z, TI, TO, i1, i2, l1, l2] → ∀ q, base ≤ q → q ≠ b := fun b hb' q hq e => by subst e; exact absurd (hbase _ hb') (Nat.not_lt.mpr hq)
    obtain ⟨a1, a2, a3, a4, a5, a6⟩ := hz
    have step : ∀ h', (∃ bb T, ZipK h' z TI TO T bb ∧ ∃ o, h'.get? T = some o) → h'.IsListIter i1 l1 (i + 1) → h'.IsListIter i2 l2 (i + 1) → IsPair h' s.heap.objs.size xs[i] ys[i] → h'.objs.size = s.heap.objs.size + 1 →
        (∀ c o, c ≠ z → c ≠ TO → c ≠ i1 → c ≠ i2 → s.heap.get? c = some o → h'.get? c = some o) →
        wpAny (model prog w) A.in1 (updateSeq S (·.push (.ref s.heap.objs.size)) >>= fun _ => again (.builtin "list.extend.loop" ⟨[.ref S, .ref z, res], []⟩)) (fun fin s' => match fin with | .done f => R (.ok f) s' | .again c' => c'.quiet = true ∧ codeAny (model prog w) A c' R s') (fun e s' => R (.error e) s') { s with heap := h' } := fun h' ⟨bb, T, z1, hT⟩ z2 z3 z4 z5 hk' => by
      have hS' := hk' S _ n1 n3 n4 n5 hSo
      refine wpAny_bind (wpAny_updateSeq hS' rfl (wpAny_pure ⟨plainId_quiet PySem.F.plain_extend_loop _, ?_⟩) (by rw [hacc.1, sizeLine_eq]; omega) (by show (acc.push _).size ≤ sizeLine + 1; rw [Array.size_push, hacc.1, sizeLine_eq]; omega))
      have up : ∀ b o, b ≠ S → h'.get? b = some o → (h'.update S (Obj.mapSeq (·.push (.ref s.heap.objs.size)))).get? b = some o := fun b o hb' e => (Heap.get?_update_other _ _ (Ne.symm hb')).trans e
      have hSz : (h'.update S (Obj.mapSeq (·.push (.ref s.heap.objs.size)))).objs.size = h'.objs.size := (Heap.SameBut.update ..).1
      have upT : ∀ T o, h'.get? T = some o → ∃ o', (h'.update S (Obj.mapSeq (·.push (.ref s.heap.objs.size)))).get? T = some o' := fun T o e => by
        by_cases q : T = S
        · subst q; exact ⟨_, Heap.get?_update_self _ hS' rfl⟩
        · exact ⟨o, up T o q e⟩
      have zs : ZS z TI TO i1 i2 l1 l2 xs ys h' (i + 1) := ⟨hk' TI _ D.TIz D.TITO D.TIi1 D.TIi2 a1, z2, z3, a4.at fun o e => hk' l1 o D.l1z D.l1TO D.l1i1 D.l1i2 e, a5.at fun o e => hk' l2 o D.l2z D.l2TO D.l2i1 D.l2i2 e, .inr ⟨T, bb, z1, hT⟩⟩
      refine ih (i + 1) _ (acc.push (.ref s.heap.objs.size)) _ (by omega) hlt (by rw [hSz, z5]; omega) (zs.keep S hS upT up) (Heap.get?_update_self _ hS' rfl) ?_ fun h'' acc' c' hk'' hS'' hacc' => ?_
      · exact ((hacc.keep fun b o hb' e => hk' b o (lt z (by simp) b hb') (lt TO (by simp) b hb') (lt i1 (by simp) b hb') (lt i2 (by simp) b hb') e).push ex ey z4 hb).keep fun b o hb' e => up b o (lt S (by simp) b hb') e
      · refine hR h'' acc' c' (fun b o hb' e => hk'' b o hb' (up b o (fun q => hb' (by simp [q])) ?_)) hS'' hacc'
        simp only [List.mem_cons, List.not_mem_nil, or_false, not_or] at hb'
        exact hk' b o hb'.2.1 hb'.2.2.1 hb'.2.2.2.1 hb'.2.2.2.2 e
    rcases a6 with ⟨e, b1, x, y, b2⟩ | ⟨T, bb, b1, hT⟩
    · refine wpAny_bind (wpAny_pyNext_zip_item D b1 a1 b2 a2 a3 a4 a5 ex ey fun h' c1 c2 c3 c4 c5 c6 c7 => ?_)
      exact step h' ⟨false, s.heap.objs.size, c1, _, c5⟩ c3 c4 c5 c6 c7
    · refine wpAny_bind (pyNext_zipK D b1 hT a1 a2 a3 a4 a5 ex ey fun h' c1 c3 c4 c5 c6 c7 => ?_)
      obtain ⟨o, ho⟩ := hT
      have hT' : ∃ o, h'.get? T = some o := by
        by_cases q1 : T = z
        · rw [q1]; exact ⟨_, c1⟩
        · by_cases q2 : T = i1
          · rw [q2]; obtain ⟨o', e', _⟩ := c3; exact ⟨_, e'⟩
          · by_cases q3 : T = i2
            · rw [q3]; obtain ⟨o', e', _⟩ := c4; exact ⟨_, e'⟩
            · exact ⟨o, c7 T o q1 q2 q3 ho⟩
      exact step h' ⟨true, T, c1, hT'⟩ c3 c4 c5 c6 fun c o d1 _ d3 d4 e => c7 c o d1 d3 d4 e
theorem zip_no_len : typeLookup (.type "zip") "__len__" = pure none := by rw [typeLookup_type, builtinLookup_eq_fast]; kernel_rfl
theorem zip_no_hint : typeLookup (.type "zip") "__length_hint__" = pure none := by rw [typeLookup_type, builtinLookup_eq_fast]; kernel_rfl
/-- list(a zip of two lists, new) -/
theorem call_list_zip {z TI TO i1 i2 l1 l2 : Addr} {xs ys : Array Value} {a b : Value} {Q : Value → Shared → Prop} (hh : A.handled = none) (D : ZipApart z TI TO i1 i2 l1 l2) (hbase : ∀ b ∈ [z, TI, TO, i1, i2, l1, l2], b < s.heap.objs.size) (hn : min xs.size ys.size ≤ 1000000)
    (hz : IsZip s.heap z TI TO .none) (hTI : IsPair s.heap TI (.ref i1) (.ref i2)) (hTO : IsPair s.heap TO a b) (h1 : s.heap.IsListIter i1 l1 0) (h2 : s.heap.IsListIter i2 l2 0) (hl1 : s.heap.IsList l1 xs) (hl2 : s.heap.IsList l2 ys)
    (hQ : ∀ h' acc c, (∀ b o, b ∉ [z, TO, i1, i2] → s.heap.get? b = some o → h'.get? b = some o) → h'.get? s.heap.objs.size = some { cls := .type "list", dict := none, data := .seq acc c, slots := #[] } →
      AccZ (s.heap.objs.size + 1) xs ys h' acc (min xs.size ys.size) → Q (.ref s.heap.objs.size) { s with heap := h' }) :
    wpAny (model prog w) A (call (.type "list") [.ref z]) Q E s := by
  have hSf : s.heap.objs.size ∉ [z, TI, TO, i1, i2, l1, l2] := fun hm => Nat.lt_irrefl _ (hbase _ hm)
  have nS := hSf
  simp only [List.mem_cons, List.not_mem_nil, or_false, not_or] at nS
  obtain ⟨n1, n2, n3, n4, n5, n6, n7⟩ := nS
  refine callType_codes (Q₁ := fun obj s₁ => obj = .ref s.heap.objs.size ∧ s₁ = { s with heap := s.heap.push { cls := .type "list", data := .seq #[] } }) PySem.F.called_list (PySem.F.typeCall_list_1 _) PySem.F.entry_list_init
    (code_list_new _ ⟨rfl, rfl⟩) fun obj s₁ h₁ => ?_
  obtain ⟨rfl, rfl⟩ := h₁
  have hS : (s.heap.push { cls := .type "list", data := .seq #[] }).get? s.heap.objs.size = some { cls := .type "list", data := .seq #[] } := Heap.get?_push_size _ rfl
  refine ⟨⟨_, hS, rfl⟩, PySem.F.args_list_init_2 _ _, ?_⟩
  show wpAny _ _ (do let old ← Builtin.List.listItems (.ref s.heap.objs.size); Builtin.List.listUpdate (.ref s.heap.objs.size) (fun _ => #[]); letGo old.toList.reverse; Builtin.List.listExtendWith (.ref s.heap.objs.size) (.ref z) .none) _ _ _
  refine wpAny_bind ?_
  unfold Builtin.List.listItems
  refine wpAny_bind (wpAny_seqItems hS rfl (wpAny_pure ?_))
  show wpAny _ _ (updateSeq s.heap.objs.size (fun _ => #[]) >>= fun _ => letGo (#[] : Array Value).toList.reverse >>= fun _ => Builtin.List.listExtendWith (.ref s.heap.objs.size) (.ref z) .none) _ _ _
  refine wpAny_bind (wpAny_updateSeq hS rfl ?_)
  have hS₂ := Heap.get?_update_self (Obj.mapSeq (fun _ => (#[] : Array Value))) hS rfl
  have oth : ∀ b o, b ≠ s.heap.objs.size → s.heap.get? b = some o → ((s.heap.push { cls := .type "list", data := .seq #[] }).update s.heap.objs.size (Obj.mapSeq (fun _ => (#[] : Array Value)))).get? b = some o :=
    fun b o hb e => (Heap.get?_update_other _ _ (Ne.symm hb)).trans (Heap.get?_push_of_some _ e)
  refine wpAny_bind (wpAny_letGo ?_)
  unfold Builtin.List.listExtendWith
  refine wpAny_bind (wpAny_typeOf (T := "zip") ⟨_, oth z _ (Ne.symm n1) hz, rfl⟩ ?_)
  have g1 : Builtin.List.listSameRef (.ref s.heap.objs.size) (.ref z) = false := by simp [Builtin.List.listSameRef, n1]
  have g2 : (Value.type "zip" == Value.type "list") = false := by decide
  have g3 : (Value.type "zip" == Value.type "tuple") = false := by decide
  simp only [g1, g2, g3, Bool.or_false, Bool.false_eq_true, if_false]
  refine wpAny_bind (wpAny_pyIter_zip (oth z _ (Ne.symm n1) hz) ?_)
  refine wpAny_bind (wpAny_holding ?_)
  unfold Builtin.List.listLengthHint
  refine wpAny_bind (wpAny_specialOf (T := "zip") ⟨_, oth z _ (Ne.symm n1) hz, rfl⟩ zip_no_len ?_)
  show wpAny _ _ (specialOf (Value.ref z) (Str.ofString "__length_hint__") >>= _) _ _ _
  refine wpAny_bind (wpAny_specialOf (T := "zip") ⟨_, oth z _ (Ne.symm n1) hz, rfl⟩ zip_no_hint ?_)
  refine wpAny_pure ?_
  show wpAny _ _ (rule "list.extend.makes-room" >>= fun _ => Builtin.List.listTouch (.ref s.heap.objs.size) >>= fun _ =>
    again (.builtin "list.extend.loop" ⟨[.ref s.heap.objs.size, .ref z, .none], []⟩)) _ _ _
  refine wpAny_bind (wpAny_rule ?_)
  refine wpAny_bind ?_
  show wpAny _ _ (updateSeq s.heap.objs.size (·.push .none) >>= fun _ => updateSeq s.heap.objs.size (·.pop)) _ _ _
  refine wpAny_bind (wpAny_updateSeq (hz := by seq_fits) hS₂ rfl ?_)
  have hS₃ := Heap.get?_update_self (Obj.mapSeq (·.push Value.none)) hS₂ rfl
  refine wpAny_updateSeq (hz := by seq_fits) hS₃ rfl ?_
  have hS₄ := Heap.get?_update_self (Obj.mapSeq (·.pop)) hS₃ rfl
  have up : ∀ b o, b ≠ s.heap.objs.size → s.heap.get? b = some o → ((((s.heap.push { cls := .type "list", data := .seq #[] }).update s.heap.objs.size (Obj.mapSeq (fun _ => (#[] : Array Value)))).update s.heap.objs.size (Obj.mapSeq (·.push Value.none))).update s.heap.objs.size (Obj.mapSeq (·.pop))).get? b = some o :=
    fun b o hb e => (Heap.get?_update_other _ _ (Ne.symm hb)).trans ((Heap.get?_update_other _ _ (Ne.symm hb)).trans (oth b o hb e))
  have z1 : ((((s.heap.push { cls := .type "list", data := .seq #[] }).update s.heap.objs.size (Obj.mapSeq (fun _ => (#[] : Array Value)))).update s.heap.objs.size (Obj.mapSeq (·.push Value.none))).update s.heap.objs.size (Obj.mapSeq (·.pop))).objs.size = s.heap.objs.size + 1 := by
    rw [(Heap.SameBut.update ..).1, (Heap.SameBut.update ..).1, (Heap.SameBut.update ..).1, Heap.size_push]
  refine wpAny_pure ⟨plainId_quiet PySem.F.plain_extend_loop _, zip_extend (by simp [hh]) D s.heap.objs.size .none hSf (s.heap.objs.size + 1) (fun b hb => ?_) hn _ 0 _ #[] _ rfl (Nat.zero_le _) (by rw [z1]; exact Nat.le_refl _)
    ⟨up TI _ (Ne.symm n2) hTI, h1.at fun o e => up i1 o (Ne.symm n4) e, h2.at fun o e => up i2 o (Ne.symm n5) e, hl1.at fun o e => up l1 o (Ne.symm n6) e, hl2.at fun o e => up l2 o (Ne.symm n7) e, .inl ⟨rfl, up z _ (Ne.symm n1) hz, a, b, up TO _ (Ne.symm n3) hTO⟩⟩ hS₄ ⟨rfl, fun j hj => absurd hj (Nat.not_lt_zero _)⟩ fun h' acc c hk hS' hacc => ?_⟩
  · rcases List.mem_cons.mp hb with rfl | hb
    · exact Nat.lt_succ_self _
    · exact Nat.lt_succ_of_lt (hbase b hb)
  · refine ⟨rfl, hQ h' acc c (fun b o hb e => ?_) hS' hacc⟩
    have nb : b ≠ s.heap.objs.size := Nat.ne_of_lt (Heap.lt_size e)
    exact hk b o (fun q => by rcases List.mem_cons.mp q with q | q; exact nb q; exact hb q) (up b o nb e)
end
end DL
namespace DL
open PySem L2 PySem.Spec PyProof.Rows
open Classical in
/-- what the new pairs are -/
noncomputable def pairHp (h' : Heap) (p : Addr) (Ts : List Addr) : Hp := fun b =>
  if b = p then some (.lst (Ts.map V.ref)) else if q : b ∈ Ts ∧ ∃ z : V × V, ∃ u v, IsPair h' b u v ∧ RelV z.1 u ∧ RelV z.2 v then some (.tup [(choose q.2).1, (choose q.2).2]) else none
theorem pairHp_p {h' : Heap} {p : Addr} {Ts : List Addr} : pairHp h' p Ts p = some (.lst (Ts.map V.ref)) := if_pos rfl
theorem pairHp_T {h' : Heap} {p T : Addr} {Ts : List Addr} {z : V × V} {u v : Value} (hm : T ∈ Ts) (hn : T ≠ p) (e : IsPair h' T u v) (r1 : RelV z.1 u) (r2 : RelV z.2 v) : pairHp h' p Ts T = some (.tup [z.1, z.2]) := by
  have q : T ∈ Ts ∧ ∃ z : V × V, ∃ u v, IsPair h' T u v ∧ RelV z.1 u ∧ RelV z.2 v := ⟨hm, z, u, v, e, r1, r2⟩
  unfold pairHp
  rw [if_neg hn, dif_pos q]
  obtain ⟨u', v', e', r1', r2'⟩ := Classical.choose_spec q.2
  have e2 := e.symm.trans e'
  injection e2 with e2
  injection e2 with _ _ e3
  injection e3 with e4 _
  have e5 := congrArg Array.toList e4
  simp only [List.cons.injEq, and_true] at e5
  obtain ⟨rfl, rfl⟩ := e5
  rw [r1'.inj r1, r2'.inj r2]
theorem pairHp_in {h' : Heap} {p b : Addr} {Ts : List Addr} {o : HO} (h : pairHp h' p Ts b = some o) : (b = p ∧ o = .lst (Ts.map V.ref)) ∨ (b ∈ Ts ∧ b ≠ p ∧ ∃ (z : V × V) (u v : Value), IsPair h' b u v ∧ RelV z.1 u ∧ RelV z.2 v ∧ o = .tup [z.1, z.2]) := by
  unfold pairHp at h
  by_cases e : b = p
  · rw [if_pos e] at h; cases h; exact .inl ⟨e, rfl⟩
  · rw [if_neg e] at h
    by_cases q : b ∈ Ts ∧ ∃ z : V × V, ∃ u v, IsPair h' b u v ∧ RelV z.1 u ∧ RelV z.2 v
    · rw [dif_pos q] at h
      cases h
      obtain ⟨u', v', e', r1', r2'⟩ := Classical.choose_spec q.2
      exact .inr ⟨q.1, e, _, u', v', e', r1', r2', rfl⟩
    · rw [dif_neg q] at h; cases h
theorem inv_pairs {X : Cx} {pins : List (Addr × Obj)} {σ : L2.St} {H : Hp} {s : Shared} (I : Inv X pins σ H s) {h' : Heap} {p : Addr} {c : Nat} {Ts : List Addr} (k : ∀ b u, s.heap.get? b = some u → h'.get? b = some u) (hp : s.heap.objs.size ≤ p)
    (hpo : h'.get? p = some { cls := .type "list", dict := none, data := .seq (Ts.map Value.ref).toArray c, slots := #[] }) (hT : ∀ T ∈ Ts, s.heap.objs.size ≤ T) (hl : Ts.length ≤ 1000000) :
    Inv X pins σ (join H (pairHp h' p Ts)) { s with heap := h' } ∧ Same H (join H (pairHp h' p Ts)) := by
  have hnew : ∀ b, pairHp h' p Ts b ≠ none → s.heap.objs.size ≤ b := fun b hb => by
    cases q : pairHp h' p Ts b with
    | none => exact absurd q hb
    | some o =>
      rcases pairHp_in q with ⟨e, _⟩ | ⟨e, _⟩
      · rw [e]; exact hp
      · exact hT b e
  have hold : ∀ b, b < s.heap.objs.size → pairHp h' p Ts b = none := fun b hb => by
    cases q : pairHp h' p Ts b with
    | none => rfl
    | some o => exact absurd (hnew b (by rw [q]; intro z; cases z)) (Nat.not_le.mpr hb)
  have same : Same H (join H (pairHp h' p Ts)) := fun b o e => by
    rw [join_l (hold b (I.hok.lt e))]; exact e
  refine ⟨?_, same⟩
  refine Inv.call (ch := []) (g' := s.gens) (t' := s.toks) (d' := s.drawn) I ⟨fun b o q _ _ _ => k b o q, fun b o q _ _ _ => ⟨o.slots, k b o q⟩, fun b o q n _ => by rw [join_l (hold b (Heap.lt_size q))]; exact n, fun b o q _ => ⟨o, k b o q⟩, fun b xs q => same b _ q, fun b o u q => same b _ q, fun b ps q => ⟨#[], by rw [same b _ q]; simp⟩⟩ (fun b o e => ?_) I.bare (fun _ z => nomatch z)
  cases q : pairHp h' p Ts b with
  | some o' =>
    rw [join_r q] at e
    cases e
    rcases pairHp_in q with ⟨rfl, rfl⟩ | ⟨hb, nb, z, u, v, e1, r1, r2, rfl⟩
    · refine ⟨by rw [List.length_map, sizeLine_eq]; omega, Ts.map Value.ref, c, ?_, hpo⟩
      clear hpo hT hl hnew hold same q
      induction Ts with
      | nil => exact .nil
      | cons T Ts ih => exact .cons rfl ih
    · exact ⟨by show (2 : Nat) ≤ sizeLine; rw [sizeLine_eq]; decide, [u, v], .cons r1 (.cons r2 .nil), _, e1, rfl, 0, rfl⟩
  | none =>
    rw [join_l q] at e
    exact (I.hok b o e).stay (fun c v _ q => k c v q) (fun c q => same c _ q) fun c xs q => same c _ q
/-- what list(zip(a, b)) gives -/
def tLZ (K : PySem.W.Frag) (ta : TA) : TE := fun σ H Q => ta σ H fun vs H1 => ∃ (a b : Addr) (xs ys : List V), vs = [.ref a, .ref b] ∧ SqL K H1 a xs ∧ SqL K H1 b ys ∧ xs.length ≤ 1000000 ∧
  ∀ (p : Addr) (Ts : List Addr) (H2 : Hp), Same H1 H2 → H1 p = none → H2 p = some (.lst (Ts.map V.ref)) → Ts.length = (xs.zip ys).length → p ∉ Ts → (∀ (j : Nat) (T : Addr), Ts[j]? = some T → H1 T = none ∧ ∃ z, (xs.zip ys)[j]? = some z ∧ H2 T = some (.tup [z.1, z.2])) → Q (.ref p) H2
theorem pe_listZip {X : Cx} {e1 e2 : Expr} {ta : TA} {p p2 pos pos2 : Pos} (hc : X.calm = true) (hg : Gl X "list") (hm : X.mg "list" = none) (hg2 : Gl X "zip") (hm2 : X.mg "zip" = none) (ha : PA X [e1, e2] ta)
    (hs : starEach [e1, e2] X.env = (false, eval e1 X.env) :: starEach [e2] X.env := by rfl) (hpl : (backTo pos2 (starEach [e2] X.env)).any (·.1) = false := by rfl) (hs2 : starEach [.Call (.Name "zip" p2) [e1, e2] [] pos2] X.env = (false, eval (.Call (.Name "zip" p2) [e1, e2] [] pos2) X.env) :: starEach [] X.env := by rfl) :
    PE X (.Call (.Name "list" p) [.Call (.Name "zip" p2) [e1, e2] [] pos2] [] pos) (tLZ X.K ta) := by
  refine ⟨fun pins s σ H Q I h => ?_⟩
  have hv : bootBuiltins "list" = some (.type "list") := by decide +kernel
  refine wpAny_Call_Name_kw (ld_blt I hg hm hv (PyProof.Rows.callWith_type1 ?_ hs2 rfl) (by decide) (by decide))
  rw [hs2]
  refine Calls.spliced_cons (Call_ (ld_blt I hg2 hm2 PyProof.Rows.boot_zip (PyProof.Rows.callWith_type1 (thn (ha.run pos2 pins s σ H _ I h) fun us s1 ⟨vs, H1, I1, r1, q1⟩ => ?_) hs hpl)))
  obtain ⟨a, b, xs, ys, ex, hqx, hqy, hz, q⟩ := q1
  subst ex
  obtain ⟨u1, u2, rfl, r, r'⟩ := r1.two
  cases r
  cases r'
  obtain ⟨its, rv, p1, _⟩ := I1.list hqx
  obtain ⟨its2, rv2, p2, _⟩ := I1.list hqy
  have la : a < s1.heap.objs.size := p1.lt
  have lb : b < s1.heap.objs.size := p2.lt
  refine call_zip_2 p1.isList p2.isList fun h' hz hTI hTO h1 h2 hsz hk => ?_
  refine Calls.spliced_nil ?_
  have D := PySem.W.ktu_apart s1.heap.objs.size a b la lb
  have sz1 : its.toArray.size = xs.length := by rw [List.size_toArray]; exact rv.length.symm
  have sz2 : its2.toArray.size = ys.length := by rw [List.size_toArray]; exact rv2.length.symm
  refine call_list_zip (s := { s1 with heap := h' }) (I1.ok.hd hc) D (fun c hcm => ?_) (by rw [sz1]; omega) hz hTI hTO h1 h2 (p1.isList.at fun o e => hk a o e) (p2.isList.at fun o e => hk b o e) fun h'' acc c hk2 hp2 hacc => ?_
  · show c < h'.objs.size
    rw [hsz]
    simp only [List.mem_cons, List.not_mem_nil, or_false] at hcm
    have l1 := la
    have l2 := lb
    rcases hcm with e | e | e | e | e | e | e <;> rw [e]
    · exact Nat.lt_succ_self _
    · exact Nat.lt_of_lt_of_le (Nat.lt_succ_self _) (Nat.le_add_right _ 2)
    · exact Nat.lt_of_lt_of_le (Nat.lt_succ_self _) (Nat.le_add_right _ 1)
    · exact Nat.lt_of_lt_of_le (Nat.lt_succ_self _) (Nat.le_add_right _ 4)
    · exact Nat.lt_of_lt_of_le (Nat.lt_succ_self _) (Nat.le_add_right _ 3)
    · exact Nat.lt_of_lt_of_le l1 (Nat.le_add_right _ 5)
    · exact Nat.lt_of_lt_of_le l2 (Nat.le_add_right _ 5)
  · have hp2' : h''.get? h'.objs.size = some { cls := .type "list", dict := none, data := .seq acc c, slots := #[] } := hp2
    let Ts : List Addr := acc.toList.map fun v => match v with | .ref a => a | _ => (0 : Nat)
    have hlen : Ts.length = acc.size := by simp [Ts]
    have hTs : ∀ (j : Nat) (T : Addr), Ts[j]? = some T → ∃ x y, acc[j]? = some (.ref T) ∧ its[j]? = some x ∧ its2[j]? = some y ∧ IsPair h'' T x y ∧ h'.objs.size + 1 ≤ T := fun j T e => by
      have hj : j < acc.size := by rw [← hlen]; exact (List.getElem?_eq_some_iff.mp e).1
      obtain ⟨T', x, y, e1, e2, e3, e4, e5⟩ := hacc.2 j (by rw [← hacc.1]; exact hj)
      have eT : T' = T := by
        simp only [Ts, List.getElem?_map] at e
        rw [Array.getElem?_toList, e1] at e
        simpa using e
      subst eT
      exact ⟨x, y, e1, by simpa using e2, by simpa using e3, e4, e5⟩
    have eacc : (Ts.map Value.ref).toArray = acc := by
      apply Array.ext
      · simp [hlen]
      · intro j hj1 hj2
        obtain ⟨T', x, y, e1, _⟩ := hacc.2 j (by rw [← hacc.1]; exact hj2)
        have : acc[j] = .ref T' := by rw [Array.getElem?_eq_getElem hj2] at e1; exact Option.some.inj e1
        simp [Ts, this]
    have keep : ∀ b' u, s1.heap.get? b' = some u → h''.get? b' = some u := fun b' u e => by
      have hb := Heap.lt_size e
      refine hk2 b' u (fun q => ?_) (hk b' u e)
      simp only [List.mem_cons, List.not_mem_nil, or_false] at q
      rcases q with e | e | e | e <;> rw [e] at hb
      · exact absurd hb (Nat.not_lt.mpr (Nat.le_add_right _ _))
      · exact absurd hb (Nat.not_lt.mpr (Nat.le_add_right _ _))
      · exact absurd hb (Nat.lt_irrefl _)
      · exact absurd hb (Nat.not_lt.mpr (Nat.le_add_right _ _))
    have hps : s1.heap.objs.size ≤ h'.objs.size := by rw [hsz]; exact Nat.le_add_right _ _
    have hTm : ∀ T ∈ Ts, h'.objs.size + 1 ≤ T := fun T hm => by
      obtain ⟨j, hj, e⟩ := List.getElem_of_mem hm
      obtain ⟨_, _, _, _, _, _, q⟩ := hTs j T (by rw [List.getElem?_eq_getElem hj, e])
      exact q
    have hn : Ts.length = (xs.zip ys).length := by rw [hlen, hacc.1, List.length_zip, sz1, sz2]
    obtain ⟨I2, same⟩ := inv_pairs I1 (p := h'.objs.size) (c := c) (Ts := Ts) keep hps (by rw [eacc]; exact hp2') (fun T hm => Nat.le_trans hps (Nat.le_trans (Nat.le_succ _) (hTm T hm))) (by rw [hn, List.length_zip]; omega)
    refine ⟨.ref h'.objs.size, _, I2, rfl, q h'.objs.size Ts _ same (I1.hok.fresh hps) (join_r pairHp_p) hn (fun hm => absurd (hTm _ hm) (Nat.not_le.mpr (Nat.lt_succ_self _))) fun j T e => ?_⟩
    obtain ⟨x, y, e1, e2, e3, e4, e5⟩ := hTs j T e
    have hm : T ∈ Ts := List.mem_of_getElem? e
    refine ⟨I1.hok.fresh (Nat.le_trans hps (Nat.le_trans (Nat.le_succ _) e5)), ?_⟩
    have hjx : j < xs.length := by rw [rv.length]; exact (List.getElem?_eq_some_iff.mp e2).1
    have hjy : j < ys.length := by rw [rv2.length]; exact (List.getElem?_eq_some_iff.mp e3).1
    obtain ⟨u1, f1, g1⟩ := rv.get (i := j) (x := xs[j]) (List.getElem?_eq_getElem hjx)
    obtain ⟨u2, f2, g2⟩ := rv2.get (i := j) (x := ys[j]) (List.getElem?_eq_getElem hjy)
    rw [e2] at f1
    rw [e3] at f2
    cases f1
    cases f2
    exact ⟨(xs[j], ys[j]), by rw [List.getElem?_eq_getElem (by rw [List.length_zip]; omega), List.getElem_zip], join_r (pairHp_T (z := (xs[j], ys[j])) hm (fun z => by rw [z] at e5; exact absurd e5 (Nat.not_le.mpr (Nat.lt_succ_self _))) e4 g1 g2)⟩
section
variable {P : Program} {w : World} {K : PySem.W.Frag} {mg : Str → Option Value} {base : Heap} {k j : Nat} {N : List Str} {sc : Scope} {vs ls : List Nat} {X : Cx} {α β γ ι ρ : Type} {B : Bs} {Γ Γ' : Ctx} {e a b d : Expr} {p p2 pos pos2 : Pos}
theorem Rl.zipPair {r : Rp α} {s : Rp β} {F' : Hp} : ∀ {us ws : List V} {as : List α} {bs : List β} {Ts : List Addr}, Rl (r.rel F') us as → Rl (s.rel F') ws bs → Ts.length = (us.zip ws).length → (∀ (j : Nat) (T : Addr), Ts[j]? = some T → ∃ z, (us.zip ws)[j]? = some z ∧ F' T = some (.tup [z.1, z.2])) → Rl ((rPair r s).rel F') (Ts.map V.ref) (as.zip bs)
  | [], _, [], _, [], _, _, _, _ => trivial
  | [], _, [], _, T :: Ts, _, _, h, _ => by simp at h
  | u :: us, [], a :: as, [], [], _, _, _, _ => trivial
  | u :: us, [], a :: as, [], T :: Ts, _, _, h, _ => by simp at h
  | u :: us, w :: ws, a :: as, b :: bs, [], _, _, h, _ => by simp at h
  | u :: us, w :: ws, a :: as, b :: bs, T :: Ts, h1, h2, h, hT => by
    refine ⟨?_, Rl.zipPair h1.2 h2.2 (by simpa using h) fun j T' e => hT (j + 1) T' (by simpa using e)⟩
    obtain ⟨z, e1, e2⟩ := hT 0 T rfl
    cases e1
    exact ⟨T, u, w, rfl, e2, h1.1, h2.1⟩
  | [], _, _ :: _, _, _, h, _, _, _ => h.elim
  | _ :: _, _, [], _, _, h, _, _, _ => h.elim
  | _ :: _, [], _ :: _, _ :: _, _, _, h, _, _ => h.elim
  | _ :: _, _ :: _, _ :: _, [], _, _, h, _, _ => h.elim
/-- list(zip(a, b)) -/
theorem c_listZip (c : XC P w K mg base k N sc vs ls X) {r : Rp α} {s : Rp β} {xs : List α} {ys : List β} (h1 : DE X B Γ a (rList r) xs) (h2 : DE X B Γ b (rList s) ys) (hm : mg "list" = none) (hm2 : mg "zip" = none) (hz : xs.length ≤ 1000000) (hg : glB sc "list" = true := by decide +kernel) (hg2 : glB sc "zip" = true := by decide +kernel)
    (hs : starEach [a, b] X.env = (false, eval a X.env) :: starEach [b] X.env := by rfl) (hsb : starEach [b] X.env = (false, eval b X.env) :: starEach [] X.env := by rfl) (hpl : (backTo pos2 (starEach [b] X.env)).any (·.1) = false := by rfl) (hs2 : starEach [.Call (.Name "zip" p2) [a, b] [] pos2] X.env = (false, eval (.Call (.Name "zip" p2) [a, b] [] pos2) X.env) :: starEach [] X.env := by rfl) :
    DM X B Γ (.Call (.Name "list" p) [.Call (.Name "zip" p2) [a, b] [] pos2] [] pos) (rPair r s) (xs.zip ys) :=
  pe_weak (pe_listZip c.calm (gl_of c.sc hg) (by rw [c.mg]; exact hm) (gl_of c.sc hg2) (by rw [c.mg]; exact hm2) (pa_cons h1 (pa_cons h2 pa_nil hsb) hs) hs hpl hs2) fun σ H Q ⟨F, en, q⟩ => ⟨F, en, fun v1 F1 H1 e1 ⟨p1, us, g1, g2, g3⟩ => ⟨F1, en.ext e1, fun v2 F2 H2 e2 ⟨p3, ws, f1, f2, f3⟩ => by
    have e12 := e1.trans e2
    refine ⟨p1, p3, us, ws, by rw [g1, f1], SqL.of (e2.i _ _ (e2.f _ _ g2)), SqL.of (e2.i _ _ f2), by rw [g3.length]; exact hz, fun p' Ts H3 same hp hp3 hl hn hT => ?_⟩
    have hfT : ∀ T ∈ Ts, H2 T = none := fun T hm => by
      obtain ⟨j, hj, e⟩ := List.getElem_of_mem hm
      exact (hT j T (by rw [List.getElem?_eq_getElem hj, e])).1
    let G : Hp := fun b => if b ∈ Ts then H3 b else none
    have GT : ∀ T, T ∈ Ts → G T = H3 T := fun T hm => if_pos hm
    have Gn : ∀ b, b ∉ Ts → G b = none := fun b hm => if_neg hm
    have F3p : join F2 G p' = none := by rw [join_l (Gn p' hn)]; exact e2.i.free hp
    have s23 : Same F2 (join F2 G) := fun b o e => by
      rw [join_l (Gn b fun hm => by have := e2.i b o e; rw [hfT b hm] at this; cases this)]; exact e
    have ext : Ext F2 H2 (join F2 G) H3 := ⟨s23, same, fun b o e => by
      by_cases hm : b ∈ Ts
      · cases z : G b with
        | some o' => rw [join_r z] at e; cases e; rw [← GT b hm]; exact z
        | none => rw [join_l z] at e; have := e2.i b o e; rw [hfT b hm] at this; cases this
      · rw [join_l (Gn b hm)] at e; exact same b o (e2.i b o e), fun b hf hh => by rw [join_l (Gn b fun hm => hh (hfT b hm))]; exact hf⟩
    refine q p' _ (join F2 G) H3 (e12.trans ext) F3p (e12.h.free hp) hp3 (Rl.zipPair (Rl.imp (fun _ _ => r.mono (e2.f.trans s23)) g3) (Rl.imp (fun _ _ => s.mono s23) f3) hl fun j T e => ?_)
    obtain ⟨_, z, z1, z2⟩ := hT j T e
    have hm : T ∈ Ts := List.mem_of_getElem? e
    exact ⟨z, z1, join_r (by rw [GT T hm]; exact z2)⟩⟩⟩
end
end DL
namespace DL
open PySem L2 PySem.Spec PyProof.Rows TL
def eqTri {α β γ : Type} [DecidableEq α] [DecidableEq β] [DecidableEq γ] {r : Rp α} {s : Rp β} {t : Rp γ} {d d' d'' : Nat} (E : Eqd r d) (E' : Eqd s d') (E'' : Eqd t d'') : Eqd (rTri r s t) (max d (max d' d'') + 1) := ⟨fun z => .tuple [E.enc z.1, E'.enc z.2.1, E''.enc z.2.2],
  fun K F v a ⟨p, u, u', u'', h1, h2, h3, h4, h5⟩ => by rw [h1]; exact .tup (SqT.of h2) (.cons (E.dp K F u _ h3) (.cons (E'.dp K F u' _ h4) (.cons (E''.dp K F u'' _ h5) .nil))),
  fun F v a ⟨p, u, u', u'', h1, h2, h3, h4, h5⟩ => by
    show ((E.enc a.1).canLay0 && ((E'.enc a.2.1).canLay0 && ((E''.enc a.2.2).canLay0 && true))) = true
    rw [E.sh F u _ h3, E'.sh F u' _ h4, E''.sh F u'' _ h5]; rfl,
  fun a => by
    show max (PyData.depth (E.enc a.1)) (max (PyData.depth (E'.enc a.2.1)) (max (PyData.depth (E''.enc a.2.2)) 0)) + 1 ≤ _
    have := E.dep a.1
    have := E'.dep a.2.1
    have := E''.dep a.2.2
    omega,
  fun a b => by
    show (PyData.eqv (E.enc a.1) (E.enc b.1) && (PyData.eqv (E'.enc a.2.1) (E'.enc b.2.1) && (PyData.eqv (E''.enc a.2.2) (E''.enc b.2.2) && true))) = _
    rw [E.eq, E'.eq, E''.eq]
    obtain ⟨a1, a2, a3⟩ := a
    obtain ⟨b1, b2, b3⟩ := b
    by_cases h : a1 = b1
    · subst h
      by_cases h2 : a2 = b2
      · subst h2
        by_cases h3 : a3 = b3
        · subst h3; simp
        · simp [h3]
      · simp [h2]
    · simp [h]⟩
/-! how a pair of numbers is shown -/
def shP (z : Int × Int) : Str := (PyData.tuple [.int z.1, .int z.2]).shown
def shPT (z : Int × Int) : Txt := (shP z).cps.toList
theorem shPT_tx (z : Int × Int) : tx (shPT z) = shP z := by
  show (⟨_⟩ : Str) = _
  simp [shPT]
def itx (i : Int) : List Nat := ((PyData.int i).shown).cps.toList
theorem itx_nat (n : Nat) : itx (n : Int) = numL n := by
  unfold itx
  rw [PyData.shown_int]
  exact tl_num n
theorem itx_neg (n : Nat) : itx (Int.negSucc n) = 45 :: numL (n + 1) := by
  unfold itx
  rw [PyData.shown_int]
  have h := itx_nat (n + 1)
  unfold itx at h
  rw [PyData.shown_int, signs_ofString] at h
  rw [signs_ofString]
  show ("-" ++ toString (n + 1)).toList.map Char.toNat = _
  rw [String.toList_append, List.map_append]
  exact congrArg (45 :: ·) h
theorem numL_45 (n : Nat) (r : List Nat) : numL n ≠ 45 :: r := fun e => numL_free (n := n) (s := 45) (.inl (by decide)) (by rw [e]; simp)
theorem itx_inj : ∀ {i j : Int}, itx i = itx j → i = j
  | .ofNat m, .ofNat n, h => by
    have h' : numL m = numL n := by rw [← itx_nat, ← itx_nat]; exact h
    rw [numL_inj h']
  | .ofNat m, .negSucc n, h => absurd ((itx_nat m).symm.trans (h.trans (itx_neg n))) (numL_45 m _)
  | .negSucc m, .ofNat n, h => absurd ((itx_nat n).symm.trans (h.symm.trans (itx_neg m))) (numL_45 n _)
  | .negSucc m, .negSucc n, h => by
    rw [itx_neg, itx_neg] at h
    have := numL_inj (List.cons.inj h).2
    rw [Nat.succ.inj this]
theorem itx_44 (i : Int) : 44 ∉ itx i := shown_int_free' ⟨by decide, by decide⟩ i
theorem cut44 : ∀ {a b r s : List Nat}, 44 ∉ a → 44 ∉ b → a ++ 44 :: r = b ++ 44 :: s → a = b ∧ r = s
  | [], [], _, _, _, _, h => ⟨rfl, (List.cons.inj h).2⟩
  | [], y :: b, _, _, _, h2, h => (h2 (by rw [← (List.cons.inj h).1]; simp)).elim
  | x :: a, [], _, _, h1, _, h => (h1 (by rw [(List.cons.inj h).1]; simp)).elim
  | x :: a, y :: b, r, s, h1, h2, h => by
    have e := List.cons.inj h
    have q := cut44 (fun z => h1 (List.mem_cons_of_mem _ z)) (fun z => h2 (List.mem_cons_of_mem _ z)) e.2
    rw [e.1, q.1]; exact ⟨rfl, q.2⟩
theorem shPT_eq (z : Int × Int) : shPT z = 40 :: (itx z.1 ++ 44 :: 32 :: (itx z.2 ++ [41])) := by
  have e : shP z = tupleText [(PyData.int z.1).shown, (PyData.int z.2).shown] := by
    unfold shP
    simp only [PyData.shown, PyData.shownAll]
  unfold shPT
  rw [e]
  unfold tupleText
  show (("(" : Str) ++ ((PyData.int z.1).shown ++ ", " ++ (PyData.int z.2).shown) ++ (")" : String)).cps.toList = _
  simp only [PySem.Str.cps_append, Array.toList_append]
  unfold itx
  show [40] ++ (_ ++ [44, 32] ++ _) ++ [41] = _
  simp
theorem shPT_inj {y z : Int × Int} (h : shPT y = shPT z) : y = z := by
  rw [shPT_eq, shPT_eq] at h
  have q := cut44 (itx_44 _) (itx_44 _) (List.cons.inj h).2
  have q2 := List.append_cancel_right (List.cons.inj q.2).2
  exact Prod.ext (itx_inj q.1) (itx_inj q2)
theorem shPT_dec (y z : Int × Int) : decide (shPT y = shPT z) = decide (y = z) := by
  by_cases h : y = z
  · subst h; simp
  · simp [h]; exact fun q => h (shPT_inj q)
theorem numL_ok (n : Nat) : okT (numL n) = true := List.all_eq_true.mpr fun c hc => by
  have := numL_digits n c hc
  simp; omega
theorem itx_ok : ∀ i : Int, okT (itx i) = true
  | .ofNat m => by rw [show itx (Int.ofNat m) = _ from itx_nat m]; exact numL_ok m
  | .negSucc m => by
    rw [itx_neg]
    show (decide (45 < 1114112) && okT (numL (m + 1))) = true
    rw [numL_ok]; rfl
theorem shPT_ok (z : Int × Int) : okT (shPT z) = true := by
  have h1 := itx_ok z.1
  have h2 := itx_ok z.2
  rw [shPT_eq]
  unfold okT at *
  simp only [List.all_cons, List.all_append, h1, h2, List.all_nil]
  decide
theorem shP_len (z : Int × Int) (h : (z.1.natAbs < 10 ^ 9) ∧ z.2.natAbs < 10 ^ 9) : (shP z).length ≤ 1000 := by
  have l1 : (itx z.1).length ≤ 10 := by
    unfold itx; rw [PyData.shown_int, signs_ofString, List.length_map]; exact int_text_length_le10 (k := 9) (by decide) h.1
  have l2 : (itx z.2).length ≤ 10 := by
    unfold itx; rw [PyData.shown_int, signs_ofString, List.length_map]; exact int_text_length_le10 (k := 9) (by decide) h.2
  have e : (shP z).length = (shPT z).length := by unfold shPT Str.length; simp
  rw [e, shPT_eq]
  simp
  omega
section
variable {P : Program} {w : World} {K : PySem.W.Frag} {mg : Str → Option Value} {base : Heap} {k j : Nat} {N : List Str} {sc : Scope} {vs ls : List Nat} {X : Cx} {α β γ ι ρ : Type} {B : Bs} {Γ Γ' : Ctx} {e a b : Expr} {es : List Expr} {D : Ends} {rest ss : List Stmt} {p pos apos : Pos} {x y z f m : Str}
theorem call_strP (hg : X.A.guards = some []) (hu : X.A.units + 64 < cLine) : CallR X (.type "str") (fun xs H Q => ∃ (p : Addr) (z : Int × Int), xs = [.ref p] ∧ SqT X.K H p [.int z.1, .int z.2] ∧ (z.1.natAbs < 10 ^ 9 ∧ z.2.natAbs < 10 ^ 9) ∧ Q (.str (shP z)) H) := by
  intro pins s σ H xs us Q I r h
  obtain ⟨p, z, rfl, hq, hz, q⟩ := h
  obtain ⟨u, rfl, r1⟩ := vals1 r
  cases r1
  obtain ⟨its, rv, ⟨o, ho, hc, n, hd⟩, _⟩ := I.tuple hq
  have rd : Reads s.heap (.ref p) (.tuple [.int z.1, .int z.2]) [] := .tuple (as := []) ho hc hd (by
    cases rv with
    | cons a b =>
      cases b with
      | cons a' b' =>
        cases b'
        obtain ⟨t, rfl⟩ := a
        obtain ⟨t', rfl⟩ := a'
        exact .cons (as := []) (bs := []) (.int _ _) (.cons (as := []) (bs := []) (.int _ _) .nil))
  have lg : ∀ i : Int, i.natAbs < 10 ^ 9 → decide (i.natAbs.log2 < 1920) = true := fun i hi => decide_eq_true (by
    by_cases h0 : i.natAbs = 0
    · rw [h0]; decide
    · exact (Nat.log2_lt h0).mpr (Nat.lt_trans hi (by decide)))
  refine str_of_reads rd (by show (decide _ && (decide _ && true)) = true; rw [lg _ hz.1, lg _ hz.2]; rfl) (PyData.noDict_hsm rfl) hg ?_ (fun _ _ e => e) (fun h' u tk hk => ⟨.str (shP z), H, I.kept (t' := tk) hk, ⟨u, rfl⟩, q⟩) (Nat.le_trans (shP_len z hz) (by decide))
  show X.A.units + (PyData.depthAll [.int z.1, .int z.2] + 1 + 3) < cLine
  have : PyData.depthAll [.int z.1, .int z.2] = 0 := rfl
  rw [this]
  omega
theorem c_strP (c : XC P w K mg base k N sc vs ls X) {z : Int × Int} (ha : DE X B Γ a (rPair rInt rInt) z) (hm : mg "str" = none) (hz : z.1.natAbs < 10 ^ 9 ∧ z.2.natAbs < 10 ^ 9) (hg : glB sc "str" = true := by decide +kernel)
    (he : starEach [a] X.env = (false, eval a X.env) :: starEach [] X.env := by rfl) : DE X B Γ (.Call (.Name "str" p) [a] [] pos) rTxt (shPT z) :=
  pe_weak (pe_callTy (call_strP c.room.gd c.room.units) (gl_of c.sc hg) (by rw [c.mg]; exact hm) (by decide +kernel) (pa_cons ha pa_nil he) (by decide) (by decide) he) fun σ H Q ⟨F, en, q⟩ => ⟨F, en, fun v F1 H1 e1 ⟨p, u, u', h1, h2, h3, h4⟩ => by
    rw [h1]
    cases (show u = V.int z.1 from h3)
    cases (show u' = V.int z.2 from h4)
    exact ⟨p, z, rfl, SqT.of (e1.i _ _ h2), hz, q _ F1 H1 e1 ⟨by rw [shPT_tx], shPT_ok z⟩⟩⟩
/-- (a, b, c) = a triple -/
theorem c_asgT (c : XC P w K mg base k N sc vs ls X) (i j l : Nat) {p1 p2 p3 p4 : Pos} {kk : Nat} {r : Rp α} {s : Rp β} {t : Rp γ} {v : α × β × γ} {Γ1 Γ2 Γ3 : α × β × γ → Ctx} (he : DE X B Γ e (rTri r s t) v) (t1 : ∀ z : α × β × γ, To Γ i (.val r z.1) (Γ1 z)) (t2 : ∀ z : α × β × γ, To (Γ1 z) j (.val s z.2.1) (Γ2 z)) (t3 : ∀ z : α × β × γ, To (Γ2 z) l (.val t z.2.2) (Γ3 z)) (hr : ∀ z', z' = v → SD X B (Γ3 z') rest D)
    (hN : N[i]? = some x := by rfl) (hl : ls.contains i = true := by rfl) (hN2 : N[j]? = some y := by rfl) (hl2 : ls.contains j = true := by rfl) (hN3 : N[l]? = some z := by rfl) (hl3 : ls.contains l = true := by rfl)
    (hs : swapsWithSole [.Tuple [.Name x p1, .Name y p2, .Name z p4] kk p3] e pos.line X.env = pure false := by rfl) (hw : swappedStores [.Tuple [.Name x p1, .Name y p2, .Name z p4] kk p3] e X.env = pure none := by rfl) :
    SD X B Γ (.Assign [.Tuple [.Name x p1, .Name y p2, .Name z p4] kk p3] e pos :: rest) D :=
  sd_cons (ps_asg he (c_ttri (B := B) (r := r) (s := s) (t := t) c i j l hN hl hN2 hl2 hN3 hl3) hs hw) (fun D' l' σ H ⟨F, en⟩ => ⟨F, en, fun u F1 H1 e1 h1 => ⟨Γ, v, Γ3 v, F1, en.ext e1, h1, ⟨Γ1 v, Γ2 v, t1 v, t2 v, t3 v⟩, fun σ' en' _ _ => l'.nx _ _ ⟨F1, en'⟩⟩⟩) (hr v rfl)
theorem sw_par3 {env : PySem.Env} {x y z : Str} {px py pz pt pt2 : Pos} {kt k2 : Nat} {e1 e2 e3 : Expr} (hk : env.scope.kind = .function) (hx : env.kindOf x = some .local) (hy : env.kindOf y = some .local) (hz : env.kindOf z = some .local) (hl : (py.line == px.line) = true) (hl2 : (pz.line == px.line) = true) (hne : (y == x) = false) (hne2 : (z == x) = false) (hne3 : (z == y) = false)
    (h1 : (([e1, e2, e3] : List Expr).any fun | .Starred .. => true | _ => false) = false) (h2 : ([e1, e2, e3] : List Expr).all (foldedForSure 8) = false) (h3 : ([e1, e2, e3] : List Expr).all (constantsAlone 8) = false) :
    swappedStores [.Tuple [.Name x px, .Name y py, .Name z pz] kt pt] (.Tuple [e1, e2, e3] k2 pt2) env = pure (some [x, y, z]) := by
  have hb : env.blockKind = .function := by unfold Env.blockKind; rw [hk]; rfl
  unfold swappedStores
  have he : ([x, y, z] : List Str).eraseDups = [x, y, z] := by
    simp [List.eraseDups, List.eraseDupsBy, List.eraseDupsBy.loop, hne, hne2, hne3]
  have hl' : py.line = px.line := by simpa using hl
  have hl2' : pz.line = px.line := by simpa using hl2
  have h1' := h1
  simp only [List.any_cons, List.any_nil, Bool.or_false, Bool.or_eq_false_iff] at h1'
  simp [hb, hx, hy, hz, hl', hl2', Expr.pos, he, List.filterMap_cons, h1'.1, h1'.2.1, h1'.2.2, -List.all_cons, h2, h3]
  intro hh
  exfalso
  rcases hh with h | h | h
  · have z := h1'.1
    cases e1 <;> first | exact Bool.noConfusion h | exact Bool.noConfusion z
  · have z := h1'.2.1
    cases e2 <;> first | exact Bool.noConfusion h | exact Bool.noConfusion z
  · have z := h1'.2.2
    cases e3 <;> first | exact Bool.noConfusion h | exact Bool.noConfusion z
/-- a, b, c = e1, e2, e3 (three local names) -/
theorem c_par3 (c : XC P w K mg base k N sc vs ls X) (i j l : Nat) {e1 e2 e3 : Expr} {px py pz pt pt2 : Pos} {kt k2 : Nat} {s1 : α → Sl} {s2 : β → Sl} {s3 : γ → Sl} {v1 : α} {v2 : β} {v3 : γ} {Γ1 : α → Ctx} {Γ2 : α → β → Ctx} {Γ3 : α → β → γ → Ctx} (h1 : VE X B Γ e1 (s1 v1)) (h2 : VE X B Γ e2 (s2 v2)) (h3 : VE X B Γ e3 (s3 v3))
    (t1 : ∀ a, To Γ i (s1 a) (Γ1 a)) (t2 : ∀ a b, To (Γ1 a) j (s2 b) (Γ2 a b)) (t3 : ∀ a b d, To (Γ2 a b) l (s3 d) (Γ3 a b d))
    (hr : ∀ a b d, a = v1 → b = v2 → d = v3 → SD X B (Γ3 a b d) rest D) (hij : i ≠ j := by decide) (hil : i ≠ l := by decide) (hjl : j ≠ l := by decide) (hN : N[i]? = some x := by rfl) (hN2 : N[j]? = some y := by rfl) (hN3 : N[l]? = some z := by rfl)
    (hx : (match sc.names.lookup x with | some .local => true | _ => false) = true := by decide +kernel) (hy : (match sc.names.lookup y with | some .local => true | _ => false) = true := by decide +kernel) (hz : (match sc.names.lookup z with | some .local => true | _ => false) = true := by decide +kernel)
    (hline : (py.line == px.line) = true := by rfl) (hline2 : (pz.line == px.line) = true := by rfl) (hne : (y == x) = false := by decide +kernel) (hne2 : (z == x) = false := by decide +kernel) (hne3 : (z == y) = false := by decide +kernel)
    (w1 : (([e1, e2, e3] : List Expr).any fun | .Starred .. => true | _ => false) = false := by rfl) (w2 : ([e1, e2, e3] : List Expr).all (foldedForSure 8) = false := by rfl) (w3 : ([e1, e2, e3] : List Expr).all (constantsAlone 8) = false := by rfl)
    (hs : swapsWithSole [.Tuple [.Name x px, .Name y py, .Name z pz] kt pt] (.Tuple [e1, e2, e3] k2 pt2) pos.line X.env = pure false := by rfl)
    (hs1 : starEach [e1, e2, e3] X.env = (false, eval e1 X.env) :: starEach [e2, e3] X.env := by rfl) (hs2 : starEach [e2, e3] X.env = (false, eval e2 X.env) :: starEach [e3] X.env := by rfl) (hs3 : starEach [e3] X.env = (false, eval e3 X.env) :: starEach [] X.env := by rfl) :
    SD X B Γ (.Assign [.Tuple [.Name x px, .Name y py, .Name z pz] kt pt] (.Tuple [e1, e2, e3] k2 pt2) pos :: rest) D := by
  have hN' : X.N[i]? = some x := by rw [c.N]; exact hN
  have hN2' : X.N[j]? = some y := by rw [c.N]; exact hN2
  have hN3' : X.N[l]? = some z := by rw [c.N]; exact hN3
  have lx : X.env.scope.names.lookup x = some .local := by
    rw [c.sc]
    split at hx
    · assumption
    · cases hx
  have ly : X.env.scope.names.lookup y = some .local := by
    rw [c.sc]
    split at hy
    · assumption
    · cases hy
  have lz : X.env.scope.names.lookup z = some .local := by
    rw [c.sc]
    split at hz
    · assumption
    · cases hz
  refine sd_cons (ps_par3 c.calm c.nd hN' hN2' hN3' hij hil hjl lx ly lz (va_cons h1 (t1 v1) (va_cons h2 (t2 v1 v2) (va_cons h3 (t3 v1 v2 v3) va_nil hs3) hs2) hs1) (sw_par3 c.kind lx ly lz hline hline2 hne hne2 hne3 w1 w2 w3) hs)
    (fun D' l' σ H ⟨F, en⟩ => ⟨F, σ, en, en, fun vs F' H' e1 en1 hl => ?_⟩) (hr v1 v2 v3 rfl rfl rfl)
  match vs, hl with
  | [u, v, w'], _ => exact ⟨u, v, w', rfl, l'.nx _ _ ⟨F', en1⟩⟩
end
end DL
namespace DL
open PySem L2 PySem.Spec PyProof.Rows
/-- flat things: how they stand as values -/
structure Flt {α : Type} [DecidableEq α] (r : Rp α) where
  enc : α → V
  eq : ∀ F v a, r.rel F v a → v = enc a
  fl : ∀ a, flatV (enc a) = true
  dec : ∀ a b, eqV (enc a) (enc b) = decide (a = b)
def flat_int : Flt rInt := ⟨.int, fun _ _ _ h => h, fun _ => rfl, fun a b => by
  show (a == b) = _
  by_cases h : a = b
  · subst h; simp
  · simp [h]⟩
def flat_txt : Flt rTxt := ⟨fun t => .str (tx t), fun _ _ _ h => h.1, fun _ => rfl, fun a b => by
  show (tx a == tx b) = _
  by_cases h : a = b
  · subst h; simp
  · have : ¬ tx a = tx b := fun z => h (tx_inj z)
    simp [h, this]⟩
section
variable {P : Program} {w : World} {K : PySem.W.Frag} {mg : Str → Option Value} {base : Heap} {k j : Nat} {N : List Str} {sc : Scope} {vs ls : List Nat} {X : Cx} {α β γ ι ρ : Type} {B : Bs} {Γ Γ' : Ctx} {e a b : Expr} {es : List Expr} {D : Ends} {rest ss : List Stmt} {p p2 pos pos2 apos : Pos} {x y z f m : Str}
theorem inV_dec [DecidableEq α] {r : Rp α} (E : Flt r) (z : α) : ∀ xs : List α, inV (E.enc z) (xs.map E.enc) = decide (z ∈ xs)
  | [] => rfl
  | x :: xs => by
    show (eqV (E.enc x) (E.enc z) || inV (E.enc z) (xs.map E.enc)) = _
    rw [inV_dec E z xs, E.dec]
    by_cases h : x = z
    · subst h; simp
    · have h' : ¬ z = x := fun q => h q.symm
      simp [h, h']
theorem allFlat [DecidableEq α] {r : Rp α} (E : Flt r) (xs : List α) : (xs.map E.enc).all flatV = true := by
  rw [List.all_map]
  exact List.all_eq_true.mpr fun a _ => E.fl a
theorem c_inL (c : XC P w K mg base k N sc vs ls X) [DecidableEq α] {r : Rp α} (E : Flt r) {y : α} {xs : List α} (ha : DE X B Γ a r y) (hb : DE X B Γ b (rList r) xs) (hm : behindInMarks .In b = false := by with_unfolding_all rfl) : DC X B Γ (.Compare a [.In] [b] pos) (decide (y ∈ xs)) :=
  dc_cmp (ra := r) (rb := rList r) op_in_seq (fun F H u v s h1 h2 Q q => by
    obtain ⟨p, us, rfl, h3, h4⟩ := h2
    have e1 := E.eq _ _ _ h1
    have e2 : us = xs.map E.enc := Rl.map_eq (fun _ _ z => E.eq _ _ _ z) h4
    subst e1
    subst e2
    exact ⟨p, xs.map E.enc, rfl, .inl (SqL.of (s _ _ h3)), E.fl y, allFlat E xs, q _ F H (Ext.refl s) (by show V.bl _ = V.bl _; rw [if_neg (by decide), inV_dec])⟩) hm ha hb
theorem c_ninL (c : XC P w K mg base k N sc vs ls X) [DecidableEq α] {r : Rp α} (E : Flt r) {y : α} {xs : List α} (ha : DE X B Γ a r y) (hb : DE X B Γ b (rList r) xs) (hm : behindInMarks .NotIn b = false := by with_unfolding_all rfl) : DC X B Γ (.Compare a [.NotIn] [b] pos) (!decide (y ∈ xs)) :=
  dc_cmp (ra := r) (rb := rList r) op_notIn_seq (fun F H u v s h1 h2 Q q => by
    obtain ⟨p, us, rfl, h3, h4⟩ := h2
    have e1 := E.eq _ _ _ h1
    have e2 : us = xs.map E.enc := Rl.map_eq (fun _ _ z => E.eq _ _ _ z) h4
    subst e1
    subst e2
    exact ⟨p, xs.map E.enc, rfl, .inl (SqL.of (s _ _ h3)), E.fl y, allFlat E xs, q _ F H (Ext.refl s) (by show V.bl _ = V.bl _; rw [if_pos rfl, inV_dec])⟩) hm ha hb
theorem rgV_rng (a b : Int) : rgV a b = (rng a (b - a).toNat).map V.int := by
  unfold rgV rng
  rw [List.map_map]; rfl
/-- list(range(n)) -/
theorem c_listRng1 (c : XC P w K mg base k N sc vs ls X) {n : Int} (ha : DE X B Γ a rInt n) (hm : mg "list" = none) (hm2 : mg "range" = none) (hz : n ≤ 1000000) (h0 : 0 ≤ n) (hg : glB sc "list" = true := by decide +kernel) (hg2 : glB sc "range" = true := by decide +kernel)
    (na : starEach [a] X.env = (false, eval a X.env) :: starEach [] X.env := by rfl) (na2 : starEach [.Call (.Name "range" p2) [a] [] pos2] X.env = (false, eval (.Call (.Name "range" p2) [a] [] pos2) X.env) :: starEach [] X.env := by rfl) :
    DM X B Γ (.Call (.Name "list" p) [.Call (.Name "range" p2) [a] [] pos2] [] pos) rInt (rng 0 n.toNat) :=
  pe_weak (pe_listRg c.calm (gl_of c.sc hg) (by rw [c.mg]; exact hm) (prg_1 (gl_of c.sc hg2) (by rw [c.mg]; exact hm2) ha na) na2) fun σ H Q ⟨F, en, q⟩ => ⟨F, en, fun v F1 H1 e1 h1 => ⟨n, h1, ⟨by omega, by omega, by omega, by omega, by omega⟩, fun l hl => by
    have e3 := Ext.newH e1.i (.lst (rgV 0 n)) hl
    exact q l (rgV 0 n) F1 _ (e1.trans e3) (e1.i.free hl) (e1.h.free hl) upd_same (by rw [rgV_rng, Int.sub_zero]; exact Rl.of_map (R := rInt.rel F1) (fun _ => rfl) _)⟩⟩
end
end DL
namespace DL
open PySem L2 PySem.Spec PyProof.Rows
/-! ### sorted(text) -/
theorem strs_of_signs {x : Str} {acc : Array Value} (h : ItemsOf (SignAt x) acc x.cps.size) : StrsAre acc.toList (signs x) := by
  have hs : ∀ v ∈ acc.toList, ∃ z t, v = .str z t := fun v hv => by
    obtain ⟨i, hi, e⟩ := List.mem_iff_getElem.mp hv
    obtain ⟨c, u, _, hv⟩ := h.2 i v (by rw [← e]; simp [Array.getElem?_eq_getElem (show i < acc.size by simpa using hi)])
    exact ⟨_, _, hv⟩
  have h1 := strsAre_map acc.toList hs
  have e : acc.toList.map strOf = signs x := by
    apply List.ext_getElem?
    intro j
    have hz : acc.size = x.cps.size := h.1
    by_cases hj : j < acc.size
    · obtain ⟨c, u, hc, hv⟩ := h.2 j acc[j] (Array.getElem?_eq_getElem hj)
      have hj' : j < x.cps.size := hz ▸ hj
      have hc' : x.cps[j] = c := by rw [Array.getElem?_eq_getElem hj'] at hc; exact Option.some.inj hc
      simp [signs, hj, hj', hc']
      rw [hv]; rfl
    · rw [List.getElem?_eq_none (by simpa using Nat.le_of_not_lt hj), List.getElem?_eq_none (by simp [signs]; omega)]
  rw [e] at h1
  exact h1
section
variable {prog : Program} {w : World} {A : Around} {E : Value → Shared → Prop} {s : Shared}
theorem sorted_text {x : Str} {t : Tok} {Q : Value → Shared → Prop} (hh : A.handled = none) (h64 : x.cps.size < 64)
    (h : ∀ (h1 h' : Heap) (tk : Nat) (out : Array Value) (ys : List Str) (e : Nat), (∀ b o, s.heap.get? b = some o → h1.get? b = some o) → (∀ b o, h1.get? b = some o → h'.get? b = some o) → h'.get? h1.objs.size = some (seqObj "list" out e) →
      StrsAre out.toList ys → ys.Perm (signs x) → sortedS ys = true → Q (.ref h1.objs.size) { s with heap := h', toks := tk }) : wpAny (model prog w) A (call (.builtin "sorted") [.str x t]) Q E s := by
  refine Calls.call_function_entry kind_sorted plain_sorted entry_sorted (args_sorted1 _) ?_
  unfold Builtin.«sorted»
  refine wpAny_bind (m := checkCount "sorted" 1 1 _) (wpAny_pure ?_)
  refine wpAny_bind (wpAny_collect_str (by simp [hh]) x t (fun s' acc hk hg hd ho hacc => ?_) (by rw [sizeLine_eq]; omega))
  have hS := strs_of_signs hacc
  have hz : acc.toList.length = x.cps.size := by simpa using hacc.1
  have e1 : s' = { s with heap := s'.heap, toks := s'.toks } := by
    obtain ⟨hp, g, d, tk, os⟩ := s'
    simp only at hg hd ho
    subst hg; subst hd; subst ho
    rfl
  refine wpAny_bind (wpAny_newList ?_)
  have hoL : (s'.heap.push (seqObj "list" acc.toList.toArray 0)).get? s'.heap.objs.size = some (seqObj "list" acc.toList.toArray 0) := Heap.get?_push_size _ rfl
  refine wpAny_bind (wpAny_holding (wpAny_call_entry slot_list_sort ⟨_, hoL, rfl⟩ entry_list_sort (list_sort_treeKAny strKind_oneLt hoL hS.keysOf (fun v₁ v₂ rest e => keyKind_strs (by rw [← e]; exact hS)) (by rw [hz, sizeLine_eq]; omega) fun st' a1 a2 => ⟨_, rfl, ?_⟩) (args_list_sort _)))
  obtain ⟨ys, b1, b2, b3⟩ := sorted_out_str hS a1 a2
  obtain ⟨e, he⟩ := sortedHeap_at (vs := acc.toList) (out := (arrOf st').map (·.2)) hoL
  refine wpAny_pure ⟨_, rfl, ?_⟩
  show Q _ _
  rw [e1]
  exact h s'.heap _ s'.toks _ ys e hk (fun b o hb' => by
    have hlt := Heap.lt_size hb'
    rw [sortedHeap_old (Nat.ne_of_lt hlt) (by rw [size_push']; exact Nat.lt_succ_of_lt hlt), Heap.get?_push_ne _ _ _ (Nat.ne_of_lt hlt)]
    exact hb') he b1 b2 b3
end
/-! the signs in order -/
def srtT (t : Txt) : List Txt := (srtI (t.map fun c : Nat => (c : Int))).map fun i => [i.toNat]
def mk1 (c : Nat) : Str := ⟨#[c]⟩
theorem lt1 (c d : Nat) : ltCps [c] [d] = decide (c < d) := by
  rw [ltCps_eq]
  congr 1
  rw [List.cons_lt_cons_iff]
  simp
theorem rise1 : ∀ (l : List Nat) (c : Nat), risingS (mk1 c) (l.map mk1) = true → (c :: l).Pairwise (· ≤ ·)
  | [], c, _ => by simp
  | d :: r, c, h => by
    have h' : (!ltCps [d] [c] && risingS (mk1 d) (r.map mk1)) = true := h
    rw [Bool.and_eq_true, lt1, Bool.not_eq_true', decide_eq_false_iff_not] at h'
    have ih := rise1 r d h'.2
    refine List.pairwise_cons.mpr ⟨fun z hz => ?_, ih⟩
    rcases List.mem_cons.mp hz with rfl | hz
    · omega
    · have := (List.pairwise_cons.mp ih).1 z hz; omega
theorem rises : ∀ l : List Nat, sortedS (l.map mk1) = true → l.Pairwise (· ≤ ·)
  | [], _ => List.Pairwise.nil
  | c :: l, h => rise1 l c h
theorem srtT_of {t : Txt} {ys : List Str} (h1 : ys.Perm (signs (tx t))) (h2 : sortedS ys = true) : ys = (srtT t).map tx := by
  have hs : signs (tx t) = t.map mk1 := by
    unfold signs
    show (t.toArray.toList).map _ = _
    rw [List.toList_toArray]; rfl
  rw [hs] at h1
  have he : ys = (ys.map fun s => s.cps.toList.headD 0).map mk1 := by
    rw [List.map_map]
    conv => lhs; rw [← List.map_id ys]
    refine List.map_congr_left fun y hy => ?_
    obtain ⟨c, _, rfl⟩ := List.mem_map.mp (h1.mem_iff.mp hy)
    rfl
  have hp : (ys.map fun s => s.cps.toList.headD 0).Perm t := by
    have := h1.map fun s : Str => s.cps.toList.headD 0
    rw [List.map_map] at this
    have e : t.map ((fun s : Str => s.cps.toList.headD 0) ∘ mk1) = t := by
      conv => rhs; rw [← List.map_id t]
      exact List.map_congr_left fun c _ => rfl
    rw [e] at this
    exact this
  rw [he] at h2
  have hr := rises _ h2
  generalize hz : (ys.map fun s => s.cps.toList.headD 0) = zs at he hp hr
  have hi : (zs.map fun c : Nat => (c : Int)) = srtI (t.map fun c : Nat => (c : Int)) := by
    refine srt_uniq ((hp.map _).trans (srtI_perm _).symm) ?_ (srtI_srt _)
    exact List.pairwise_map.mpr (hr.imp fun h => Int.ofNat_le.mpr h)
  rw [he]
  unfold srtT
  rw [← hi, List.map_map, List.map_map]
  exact List.map_congr_left fun c _ => rfl
theorem srtT_perm {a b : Txt} (h : a.Perm b) : srtT a = srtT b := by
  unfold srtT
  rw [srt_uniq ((srtI_perm _).trans ((h.map _).trans (srtI_perm _).symm)) (srtI_srt _) (srtI_srt _)]
theorem srtT_ok {t : Txt} (h : okT t = true) : ∀ x ∈ srtT t, okT x = true := fun x hx => by
  unfold srtT at hx
  obtain ⟨i, hi, rfl⟩ := List.mem_map.mp hx
  obtain ⟨c, hc, rfl⟩ := List.mem_map.mp ((srtI_perm _).mem_iff.mp hi)
  have := List.all_eq_true.mp h c hc
  show (decide (((c : Int).toNat) < 1114112) && true) = true
  rw [Bool.and_true, Int.toNat_natCast]
  exact this
section
variable {P : Program} {w : World} {K : PySem.W.Frag} {mg : Str → Option Value} {base : Heap} {k j : Nat} {N : List Str} {sc : Scope} {vs ls : List Nat} {X : Cx} {α β γ ι ρ : Type} {B : Bs} {Γ Γ' : Ctx} {e a b : Expr} {es : List Expr} {D : Ends} {rest ss : List Stmt} {p pos apos : Pos} {x y z f m : Str}
theorem cr_sortedT (hc : X.calm = true) : CallR X (.builtin "sorted") (fun xs H Q => ∃ t : Txt, xs = [.str (tx t)] ∧ t.length < 64 ∧ ∀ q, H q = none → Q (.ref q) (upd H q (.lst (((srtT t).map tx).map V.str)))) := by
  intro pins s σ H xs us Q I r h
  obtain ⟨t, rfl, hz, q⟩ := h
  obtain ⟨u, rfl, r1⟩ := vals1 r
  obtain ⟨tk, rfl⟩ := r1
  refine sorted_text (I.ok.hd hc) (by show t.toArray.size < 64; rw [List.size_toArray]; exact hz) fun h1 h' tk' out ys e k1 k2 ho hs hp hr => ?_
  have I1 := I.kept (h' := h1) (t' := s.toks) k1
  have ey := srtT_of hp hr
  rw [← ey] at q
  have hlen : (ys.map V.str).length ≤ sizeLine := by
    rw [List.length_map, hp.length_eq]
    unfold signs
    rw [List.length_map]
    show t.toArray.toList.length ≤ _
    rw [List.toList_toArray, sizeLine_eq]; omega
  exact ⟨.ref _, upd H h1.objs.size (.lst (ys.map V.str)), I1.laid (t' := tk') k2 (Nat.le_refl _) ⟨hlen, out.toList, e, vals_of_strs hs, by rw [Array.toArray_toList]; exact ho⟩, rfl, q _ (I1.hok.fresh (Nat.le_refl _))⟩
theorem rl_txts {F : Hp} : ∀ {xs : List Txt}, (∀ x ∈ xs, okT x = true) → Rl (rTxt.rel F) ((xs.map tx).map V.str) xs
  | [], _ => trivial
  | x :: xs, h => ⟨⟨rfl, h x (by simp)⟩, rl_txts fun y hy => h y (by simp [hy])⟩
/-- sorted(a text) -/
theorem c_sortedT (c : XC P w K mg base k N sc vs ls X) {t : Txt} (ha : DE X B Γ e rTxt t) (hm : mg "sorted" = none) (hz : t.length < 64) (hg : glB sc "sorted" = true := by decide +kernel) (he : starEach [e] X.env = [(false, eval e X.env)] := by rfl) : DM X B Γ (.Call (.Name "sorted" p) [e] [] pos) rTxt (srtT t) :=
  c_bi1 c (cr_sortedT c.calm) hm (by decide +kernel) ha (fun σ H Q ⟨F, en, q⟩ => ⟨F, en, fun v F1 H1 e1 h1 => ⟨t, by rw [h1.1], hz, fun l hl => by
    have e3 := Ext.newH e1.i (.lst (((srtT t).map tx).map V.str)) hl
    exact q l _ F1 _ (e1.trans e3) (e1.i.free hl) (e1.h.free hl) upd_same (rl_txts (srtT_ok h1.2))⟩⟩) hg (by decide) (by decide) he
/-- x.extend(e), x an own list -/
theorem c_extend (c : XC P w K mg base k N sc vs ls X) (i : Nat) {r : Rp α} {as ys : List α} {p1 : Pos} (at_ : At Γ i (.own (oList r) as)) (he : DE X B Γ e (rList r) ys) (t : To Γ i (.own (oList r) (as ++ ys)) Γ') (hr : SD X B Γ' rest D) (hz : as.length + ys.length ≤ 1000000) (hN : N[i]? = some x := by rfl) (hv : vs.contains i = true := by rfl)
    (hd : (x == ("__debug__" : Str)) = false := by decide) (hcd : (x == ("__classdict__" : Str)) = false := by decide)
    (hbase : attributeBase (.Name x p1) "extend" X.env (eval (.Name x p1) X.env) = eval (.Name x p1) X.env := by rfl)
    (hfew : ((backTo p (starEach [e] X.env)).all (fun x => !x.1) && (backToKw p (keywordEach [] X.env)).all (fun x => x.1.isSome) && decide ([e].length + ([] : List Keyword).length + (if ([] : List Keyword).isEmpty then 0 else 1) < 30)) = true := by rfl)
    (hline : (apos.endLine == p.line) = true := by rfl) (hs : starEach [e] X.env = (false, eval e X.env) :: starEach [] X.env := by rfl)
    (hsw : swapsWith (.Call (.Attribute (.Name x p1) "extend" apos) [e] [] p) none pos.line X.env = pure false := by rfl) :
    SD X B Γ (.Expr (.Call (.Attribute (.Name x p1) "extend" apos) [e] [] p) pos :: rest) D := by
  have hN' : X.N[i]? = some x := by rw [c.N]; exact hN
  refine sd_mut (pe_bm PySem.F.plainAttrs_list PySem.F.slot_list_extend PySem.F.type_list_extend mt_extend (pe_var hN' (c.vis i x hN' hv) hd hcd) (pa_cons he pa_nil hs) hbase hfew hline hs (by rfl)) hsw at_ t (fun σ F H Q en q => ?_) hr
  obtain ⟨fp, en0⟩ := id en
  obtain ⟨⟨v, hv, p, us, rfl, h2, h3, h4⟩, hn⟩ := en0.ok i _ at_.get
  refine ⟨_, hv, .inl ⟨rfl, us, SqL.of h3⟩, F, en, fun u F1 H1 e1 h1 => ?_⟩
  have h3' : H1 p = some (.lst us) := e1.h _ _ h3
  have h4' : Rl (r.rel F1) us as := Rl.imp (fun _ _ => r.mono e1.f) h4
  obtain ⟨q2, zs, rfl, h5, h6⟩ := h1
  exact ⟨p, q2, us, zs, rfl, rfl, h3', e1.i _ _ h5, by rw [h4.length, h6.length]; exact Nat.le_trans hz (by decide), q F1 H1 p us (us ++ zs) _ (en.ext e1) hv h3' h4' (Rl.append h4' h6)⟩
end
/-! ### one of two kinds -/
def rSum {α β : Type} (r : Rp α) (s : Rp β) : Rp (α ⊕ β) := ⟨fun F v a => match a with | .inl x => r.rel F v x | .inr y => s.rel F v y, fun {F F' v a} e h => match a, h with | .inl _, h => r.mono e h | .inr _, h => s.mono e h⟩
section
variable {K : PySem.W.Frag} {X : Cx} {α β γ : Type} {B : Bs} {Γ : Ctx} {e e' : Expr}
theorem de_inl {r : Rp α} {x : α} (s : Rp β) (h : DE X B Γ e r x) : DE X B Γ e (rSum r s) (.inl x) := h
theorem de_inr {s : Rp β} {y : β} (r : Rp α) (h : DE X B Γ e s y) : DE X B Γ e (rSum r s) (.inr y) := h
theorem de_outl {r : Rp α} {s : Rp β} {v : α ⊕ β} (x : α) (h : DE X B Γ e (rSum r s) v) (hv : v = .inl x) : DE X B Γ e r x := by subst hv; exact h
theorem de_outr {r : Rp α} {s : Rp β} {v : α ⊕ β} (y : β) (h : DE X B Γ e (rSum r s) v) (hv : v = .inr y) : DE X B Γ e s y := by subst hv; exact h
theorem de_sumE {r : Rp α} {s : Rp β} {t : Rp γ} {v : α ⊕ β} (f : α ⊕ β → γ) (h : DE X B Γ e (rSum r s) v) (hl : ∀ x, v = .inl x → DE X B Γ e r x → DE X B Γ e' t (f (.inl x))) (hr : ∀ y, v = .inr y → DE X B Γ e s y → DE X B Γ e' t (f (.inr y))) : DE X B Γ e' t (f v) := by
  cases v with
  | inl x => exact hl x rfl h
  | inr y => exact hr y rfl h
theorem ty_sumL {r : Rp α} {s : Rp β} {x : α} {t : Value} (h : TyR K r x t) : TyR K (rSum r s) (.inl x) t := h
theorem ty_sumR {r : Rp α} {s : Rp β} {y : β} {t : Value} (h : TyR K s y t) : TyR K (rSum r s) (.inr y) t := h
end
end DL
namespace DL
open PySem L2 PySem.Spec PyProof.Rows
/-- a class without __init__ -/
structure FMk0 (K : PySem.W.Frag) (mg : Str → Option Value) (x : Str) (C : Addr) : Prop where
  at_ : mg x = some (.ref C)
  makes : PySem.W.makesIn K C = true
  init : PySem.W.findIn K (.ref C) "__init__" = some (some (.builtin "object.__init__"))
  top : PySem.W.mroIn K C (.type "object") = some true
  kp : PySem.W.keepIn K (.ref C) = true
section
variable {P : Program} {w : World} {K : PySem.W.Frag} {mg : Str → Option Value} {base : Heap} {k j : Nat} {N : List Str} {sc : Scope} {vs ls : List Nat} {X : Cx} {α β γ ι ρ : Type} {B : Bs} {Γ Γ' : Ctx} {e a b : Expr} {es : List Expr} {D : Ends} {rest ss : List Stmt} {p pos apos : Pos} {x y z f m : Str} {C : Addr}
theorem run_make0 {pins : List (Addr × Obj)} {σ : L2.St} {H : Hp} {s : Shared} {Q : VK} (M : FMk0 X.K mg x C) (I : Inv X pins σ H s)
    (h : ∀ y dx, H y = none → H dx = none → dx ≠ y → Q (.ref y) (upd (upd H dx (.own y)) y (.ins C dx []))) : wpAny (model X.prog X.w) X.A (call (.ref C) []) (EP X pins σ Q) X.xe s := by
  have hq := h (s.heap.objs.size + 1) s.heap.objs.size (I.hok.fresh (Nat.le_succ _)) (I.hok.fresh (Nat.le_refl _)) (Nat.ne_of_lt (Nat.lt_succ_self _))
  have I2 := Inv.made (C := C) I
  have hx : ((s.heap.push PySem.W.emptyDict).push (PySem.W.instObj C s.heap.objs.size)).get? (s.heap.objs.size + 1) = some (PySem.W.instObj C s.heap.objs.size) := by
    have := Heap.get?_push_size (s.heap.push PySem.W.emptyDict) (o := PySem.W.instObj C s.heap.objs.size) rfl
    rwa [Heap.size_push] at this
  have t1 : PySem.W.Looks (model X.prog X.w) ((s.heap.push PySem.W.emptyDict).push (PySem.W.instObj C s.heap.objs.size)) (typeOf (.ref (s.heap.objs.size + 1))) (.ref C) := NwA.type_at hx rfl
  have t2 : PySem.W.Looks (model X.prog X.w) ((s.heap.push PySem.W.emptyDict).push (PySem.W.instObj C s.heap.objs.size)) (isInstance (.ref (s.heap.objs.size + 1)) (.type "object")) true := t1.andThen (PySem.W.looks_mroIn I2.kIn M.top)
  refine wpAny_call (make_map0 I.kIn M.makes M.init (fun self => PySem.W.Looks.of_pure (PySem.W.oi_bind self)) ?_)
  refine codeAny_call_builtin PySem.W.oi_plain PySem.W.entry_oi (@PySem.W.check_slot (model X.prog X.w) _ _ _ "object.__init__" "object" "__init__" (.ref (s.heap.objs.size + 1)) [] [] _ PySem.W.oi_kind PySem.W.oi_split t2 (PySem.W.oi_args (.ref (s.heap.objs.size + 1))) ?_)
  rw [PySem.W.oi_run]
  exact wpAny_pure (And.intro rfl ⟨V.ref (s.heap.objs.size + 1), _, I2, rfl, hq⟩)
/-- C() -/
theorem c_make0 (c : XC P w K mg base k N sc vs ls X) (h : FMk0 K mg x C) (hg : glB sc x = true := by decide +kernel) (hdb : (x == ("__debug__" : Str)) = false := by decide) :
    DN X B Γ (.Call (.Name x p) [] [] pos) (rObj (fun _ : Unit => C) [] (fun _ => [])) () := by
  have h' : FMk0 X.K X.mg x C := by rw [c.K, c.mg]; exact h
  have pe : PE X (.Call (.Name x p) [] [] pos) (fun σ H Q => ∀ y dx, H y = none → H dx = none → dx ≠ y → Q (.ref y) (upd (upd H dx (.own y)) y (.ins C dx []))) := by
    refine ⟨fun pins s σ H Q I h0 => ?_⟩
    refine wpAny_Call_Name_kw (ld_glob I (gl_of c.sc hg) h'.at_ ?_ hdb)
    exact PySem.W.callWith_K0 I.kIn h'.kp (run_make0 h' I h0)
  refine pe_weak pe fun σ H Q ⟨F, en, q⟩ y dy n1 n2 ne => ?_
  have s1 : Same H (upd (upd H dy (.own y)) y (.ins C dy [])) := fun b u z => by rw [upd_ne (ne_of_none z n1), upd_ne (ne_of_none z n2)]; exact z
  refine q (.ref y) (upd (fun _ => none) y (.ins C dy [])) _ s1 (fun b u z => ?_) (fun b hb => ?_) ⟨y, dy, [], rfl, upd_same, rfl, trivial⟩
  · by_cases hby : b = y
    · rw [hby, upd_same] at z; cases z; rw [hby]; exact upd_same
    · rw [upd_ne hby] at z; cases z
  · by_cases hby : b = y
    · rw [hby]; exact n1
    · rw [upd_ne hby] at hb; exact absurd rfl hb
def gRt {α β : Type} [Inhabited β] : α ⊕ β → β
  | .inr y => y
  | _ => default
theorem de_right [Inhabited β] {r : Rp α} {s : Rp β} {v : α ⊕ β} (h : DE X B Γ e (rSum r s) v) (hv : v.isRight = true) : DE X B Γ e s (gRt v) := by
  cases v with
  | inl x => cases hv
  | inr y => exact h
end
end DL
namespace DL
open PySem L2 PySem.Spec PyProof.Rows
def IteS (x : Str) : It := ⟨fun i _ => i < x.cps.size, fun i H v H' => ∃ T c, v = .ref T ∧ H T = none ∧ x.cps[i]? = some c ∧ H' = upd H T (.tup [.int (i : Nat), .str ⟨#[c]⟩]), fun i _ => i = x.cps.size⟩
theorem draws_str {prog : Program} {w : World} {A : Around} (hh : A.handled = none) (it : Addr) (x : Str) (t : Tok) {ty : String} (hty : ty = "str_ascii_iterator" ∨ ty = "str_iterator") : Draws prog w A it [it] x.cps.size (SignAt x) (fun i h => h.IsStrIter it ty x t i) := by
  rcases hty with e | e
  · rw [e]; exact Draws.strAscii hh it x t
  · rw [e]; exact Draws.strWide hh it x t
theorem turn_enumS {P : Program} {w : World} {K : PySem.W.Frag} {elts : List Expr} {kk : Nat} {tpos : Pos} (e it : Addr) (x : Str) (t : Tok) (ty : String) (hty : ty = "str_ascii_iterator" ∨ ty = "str_iterator") :
    Turn P w K (.Tuple elts kk tpos) (IteS x) [e, it] e (fun i h => (∃ old, IsEnum h e it ((i : Nat) : Int) old) ∧ h.IsStrIter it ty x t i ∧ e ≠ it) where
  mem := by simp
  obj := fun i h st b hb => by
    obtain ⟨⟨old, he⟩, ⟨o, ho, hc, hd⟩, _⟩ := st
    have e' : b = e ∨ b = it := by simpa using hb
    rcases e' with z | z
    · rw [z]; exact ⟨_, he, fun v q => nomatch q⟩
    · rw [z]; exact ⟨o, ho, fun v q => by rw [hd] at q; cases q⟩
  keep := fun i h h' st k => let ⟨⟨old, he⟩, ⟨o, ho, r⟩, hne⟩ := st; ⟨⟨old, k e (by simp) _ he⟩, ⟨o, k it (by simp) o ho, r⟩, hne⟩
  item := by
    intro X hP hw hK hc i pins s σ H E I hf st hg
    subst hP hw hK
    obtain ⟨⟨old, he⟩, hit, hne⟩ := st
    have hel : e < s.heap.objs.size := Heap.lt_size he
    have hil : it < s.heap.objs.size := by obtain ⟨_, q, _⟩ := hit; exact Heap.lt_size q
    refine wpAny_pyNext_enum_itemD (draws_str (by simp [I.ok.hd hc]) it x t hty) he hit hg hne (by simpa using hne) fun v h' tk hv ho hit' hT hsz hk => ?_
    obtain ⟨c, u0, hcx, rfl⟩ := hv
    refine ⟨_, rfl, wpAny_letOwnedTupleGo_enum (s := { s with heap := h', toks := tk + 1 }) ho fun h'' he' sb => ?_⟩
    have hT2 : h''.get? s.heap.objs.size = some { cls := .type "tuple", data := .seq #[.int i tk, .str ⟨#[c]⟩ u0] } := (sb.2 _ (Nat.ne_of_gt hel)).trans hT
    have new : ObjOk X.prog X.w (upd H s.heap.objs.size (.tup [.int (i : Nat), .str ⟨#[c]⟩])) h'' s.heap.objs.size (.tup [.int (i : Nat), .str ⟨#[c]⟩]) :=
      ⟨by show 2 ≤ sizeLine; decide, [.int i tk, .str ⟨#[c]⟩ u0], .cons ⟨_, rfl⟩ (.cons ⟨_, rfl⟩ .nil), ⟨_, hT2, rfl, _, rfl⟩⟩
    have I1 : Inv X pins σ (upd H s.heap.objs.size (.tup [.int (i : Nat), .str ⟨#[c]⟩])) { s with heap := h'', toks := tk + 1 } :=
      I.turnedNew (ch := [e, it]) (fun b ob hb q => (sb.2 b (fun z => hb (by simp [z]))).trans (hk b ob (fun z => hb (by simp [z])) (fun z => hb (by simp [z])) q)) hf (Nat.le_refl _) new
    refine ⟨.ref s.heap.objs.size, _, I1, rfl, ⟨_, c, rfl, I.hok.fresh (Nat.le_refl _), hcx, rfl⟩, ⟨⟨.str ⟨#[c]⟩ u0, ?_⟩, ?_, hne⟩, fun b hb => ?_⟩
    · have e1 : ((i + 1 : Nat) : Int) = (i : Int) + 1 := by omega
      rw [e1]; exact he'
    · obtain ⟨o, q, r⟩ := hit'
      exact ⟨o, (sb.2 it (Ne.symm hne)).trans q, r⟩
    · have hb' : b < s.heap.objs.size := by
        have e' : b = e ∨ b = it := by simpa using hb
        rcases e' with z | z
        · rw [z]; exact hel
        · rw [z]; exact hil
      rw [upd_ne (Nat.ne_of_lt hb')]
      exact (hf b hb).1
  done := by
    intro X hP hw hK hc i pins s σ H E I hf st hg
    subst hP hw hK
    obtain ⟨⟨old, he⟩, hit, hne⟩ := st
    obtain ⟨f0, f1, f2, f3, f4, f5⟩ := hf it (by simp)
    have hi : i = x.cps.size := hg
    subst hi
    exact wpAny_pyNext_enum_endD (draws_str (by simp [I.ok.hd hc]) it x t hty) he hit fun h' eb => ⟨rfl, I.turned (t' := s.toks) (fun b o hb q => eb b o hb q) f0 f1 f3 f4 f5⟩
  self := fun A i s Q E st h => let ⟨⟨_, he⟩, _⟩ := st; wpAny_pyIter_enum he h
def iEnumS (ta : TA) : TI := fun σ H R => ta σ H fun vs H1 => ∃ x, vs = [.str x] ∧ R (IteS x) H1
theorem pi_enumS {X : Cx} {e : Expr} {ta : TA} {p pos tpos : Pos} {elts : List Expr} {kk : Nat} (hg : Gl X "enumerate") (hm : X.mg "enumerate" = none) (ha : PA X [e] ta) (hs : starEach [e] X.env = [(false, eval e X.env)] := by rfl) :
    PI X (.Tuple elts kk tpos) (.Call (.Name "enumerate" p) [e] [] pos) (iEnumS ta) := by
  refine ⟨fun pins s σ H R I h => ?_⟩
  refine Call_ (ld_blt I hg hm boot_enumerate (PyProof.Rows.callWith_type1 (thn (ha.run pos pins s σ H _ I h) fun us s1 ⟨vs, H1, I1, r1, q1⟩ => ?_) hs rfl))
  obtain ⟨x, ex, q⟩ := q1
  subst ex
  obtain ⟨u, rfl, rx⟩ := vals1 r1
  obtain ⟨t, rfl⟩ := rx
  refine call_enumerate_str fun h' he hit hsz hk => wpAny_pyIter_enum he ?_
  have I2 : Inv X pins σ H1 { s1 with heap := h' } := I1.kept (t' := s1.toks) hk
  have hty : strIterType x = "str_ascii_iterator" ∨ strIterType x = "str_iterator" := by
    unfold strIterType
    split
    · exact .inl rfl
    · exact .inr rfl
  refine ⟨s1.heap.objs.size + 1, [s1.heap.objs.size + 1, s1.heap.objs.size], _, _, H1, rfl, I2, turn_enumS (s1.heap.objs.size + 1) s1.heap.objs.size x t _ hty, ⟨⟨.none, he⟩, hit, Nat.succ_ne_self _⟩, fun b hb => ?_, q⟩
  have e' : b = s1.heap.objs.size + 1 ∨ b = s1.heap.objs.size := by simpa using hb
  have hle : s1.heap.objs.size ≤ b := by
    rcases e' with z | z
    · rw [z]; exact Nat.le_add_right _ _
    · rw [z]; exact Nat.le_refl _
  exact I1.fpOk hle (I1.hok.fresh hle)
section
variable {P : Program} {w : World} {K : PySem.W.Frag} {mg : Str → Option Value} {base : Heap} {k j : Nat} {N : List Str} {sc : Scope} {vs ls : List Nat} {X : Cx} {α β γ ι ρ : Type} {B : Bs} {Γ Γ' : Ctx} {e a b : Expr} {p pos apos : Pos} {x y z f m : Str}
theorem c_enumS (c : XC P w K mg base k N sc vs ls X) {t : Txt} {tpos : Pos} {elts : List Expr} {kk : Nat} (h : DE X B Γ e rTxt t) (hm : mg "enumerate" = none) (hg : glB sc "enumerate" = true := by decide +kernel) (hs : starEach [e] X.env = [(false, eval e X.env)] := by rfl) :
    DI X B Γ (.Tuple elts kk tpos) (.Call (.Name "enumerate" p) [e] [] pos) (rPair rInt rTxt) (enumL (sgs t)) :=
  pi_weak (pi_enumS (gl_of c.sc hg) (by rw [c.mg]; exact hm) (da_cons h da_nil hs) hs) fun σ H R ⟨F, en, k⟩ => ⟨F, en, fun vs F1 H1 e1 h1 => by
    obtain ⟨v, rfl, h2⟩ := h1.one
    refine ⟨tx t, by rw [h2.1], k _ F1 H1 e1 ?_⟩
    have hl : (sgs t).length = t.length := by simp [sgs]
    have hz : (enumL (sgs t)).length = t.length := by simp [enumL, rng_len, hl]
    have hc : (tx t).cps.size = t.length := by show t.toArray.size = _; simp
    refine ⟨fun i F H hi s1 s2 => by show i < (tx t).cps.size; rw [hc]; omega, fun F H s1 s2 => by show _ = (tx t).cps.size; rw [hc]; exact hz, fun i F H v H' hi s1 s2 y => ?_⟩
    obtain ⟨T, d, y1, y2, y3, y4⟩ := y
    subst y1
    subst y4
    have hc' : t[i]? = some d := by
      have : (tx t).cps[i]? = t[i]? := by show t.toArray[i]? = _; simp
      rw [← this]; exact y3
    have hm : d ∈ t := List.mem_of_getElem? hc'
    have hk : decide (d < 1114112) = true := List.all_eq_true.mp h2.2 d hm
    have hb := ext_pair (a := ((i : Nat) : Int)) (b := ([d] : Txt)) (r := rInt) (s := rTxt) s2 y2 (x := .int (i : Nat)) (y := .str ⟨#[d]⟩) rfl ⟨rfl, by show (decide (d < 1114112) && true) = true; rw [hk]; rfl⟩
    refine ⟨_, ((i : Nat), [d]), ?_, hb.1, hb.2⟩
    unfold enumL
    rw [List.getElem?_zip_eq_some]
    exact ⟨by rw [rng_get (by omega)]; simp, by simp [sgs, hc']⟩⟩
end
end DL
namespace DL
open PySem L2 PySem.Spec PyProof.Rows
def dK (d : List (Txt × Txt)) : List (Key × V) := d.map fun kv => (.inr (tx kv.1), .str (tx kv.2))
def rDct : Rp (List (Txt × Txt)) := ⟨fun F v d => (∃ p, v = .ref p ∧ F p = some (.dK (dK d))) ∧ ∀ kv ∈ d, okT kv.1 = true ∧ okT kv.2 = true, fun e ⟨⟨p, h1, h2⟩, h3⟩ => ⟨⟨p, h1, e _ _ h2⟩, h3⟩⟩
def atD (d : List (Txt × Txt)) (k : Txt) : Option Txt := (d.find? fun kv => decide (kv.1 = k)).map (·.2)
theorem valV_dK (k : Txt) : ∀ d : List (Txt × Txt), valV (dK d) (.inr (tx k)) = (atD d k).map fun t => V.str (tx t)
  | [] => rfl
  | kv :: r => by
    show valV ((Sum.inr (tx kv.1), V.str (tx kv.2)) :: dK r) _ = _
    by_cases e : kv.1 = k
    · rw [valV_pos (by show Sum.inr _ = Sum.inr _; rw [e])]
      unfold atD
      rw [List.find?_cons_of_pos (by simpa using e)]; rfl
    · rw [valV_neg (fun z => e (tx_inj (Sum.inr.inj z))), valV_dK k r]
      unfold atD
      rw [List.find?_cons_of_neg (by simpa using e)]
theorem atD_mem {d : List (Txt × Txt)} {k t : Txt} (h : atD d k = some t) : (k, t) ∈ d := by
  unfold atD at h
  obtain ⟨kv, h1, h2⟩ := Option.map_eq_some_iff.mp h
  have := List.mem_of_find?_eq_some h1
  have e := List.find?_some h1
  simp only [decide_eq_true_eq] at e
  rw [← e, ← h2]; exact this
theorem merge_nodup : ∀ (more kvs : List (Key × V)), (more.map (·.1)).Nodup → (∀ k ∈ more.map (·.1), k ∉ kvs.map (·.1)) → mergeK kvs more = kvs ++ more
  | [], kvs, _, _ => by show kvs = _; simp
  | kv :: r, kvs, hn, hd => by
    have h1 : valV kvs kv.1 = none := by
      unfold valV
      rw [Option.map_eq_none_iff, List.find?_eq_none]
      intro x hx z
      have e : x.1 = kv.1 := by simpa using z
      exact hd kv.1 (by simp) (by rw [← e]; exact List.mem_map.mpr ⟨x, hx, rfl⟩)
    show mergeK (putK kvs kv.1 kv.2) r = _
    rw [putK_new _ h1, merge_nodup r _ (List.nodup_cons.mp hn).2 fun k hk z => ?_]
    · simp
    · rw [List.map_append, List.mem_append] at z
      rcases z with z | z
      · exact hd k (by simp at hk ⊢; exact .inr hk) z
      · have : k = kv.1 := by simpa using z
        rw [this] at hk
        exact (List.nodup_cons.mp hn).1 hk
theorem dK_keys (d : List (Txt × Txt)) : (dK d).map (·.1) = d.map fun kv => (Sum.inr (tx kv.1) : Key) := by simp [dK, Function.comp_def]
theorem dK_nodup {d : List (Txt × Txt)} (h : (d.map (·.1)).Nodup) : ((dK d).map (·.1)).Nodup := by
  rw [dK_keys]
  have : (d.map fun kv => (Sum.inr (tx kv.1) : Key)) = (d.map (·.1)).map fun k => (Sum.inr (tx k) : Key) := by simp [Function.comp_def]
  rw [this]
  exact List.Pairwise.map _ (fun a b hab z => hab (tx_inj (Sum.inr.inj z))) h
section
variable {P : Program} {w : World} {K : PySem.W.Frag} {mg : Str → Option Value} {base : Heap} {k j : Nat} {N : List Str} {sc : Scope} {vs ls : List Nat} {X : Cx} {α β γ ι ρ : Type} {B : Bs} {Γ Γ' : Ctx} {e a b o i : Expr} {p pos apos : Pos} {x y z f m : Str}
theorem rl_dct {F H : Hp} (s : Same F H) {K : PySem.W.Frag} : ∀ {us : List V} {d : List (Txt × Txt)}, Rl ((rPair rTxt rTxt).rel F) us d → ∃ ps : List Addr, us = ps.map V.ref ∧ Paired (fun p (kv : Key × V) => SqT K H p [kV kv.1, kv.2]) ps (dK d)
  | [], [], _ => ⟨[], rfl, .nil⟩
  | u :: us, kv :: d, ⟨⟨p, x, y, e1, e2, e3, e4⟩, t⟩ => by
    obtain ⟨ps, q1, q2⟩ := rl_dct s t
    refine ⟨p :: ps, by rw [e1, q1]; rfl, .cons (SqT.of ?_) q2⟩
    rw [s _ _ e2, e3.1, e4.1]; rfl
  | [], _ :: _, h => h.elim
  | _ :: _, [], h => h.elim
theorem rl_dok {F : Hp} : ∀ {us : List V} {d : List (Txt × Txt)}, Rl ((rPair rTxt rTxt).rel F) us d → ∀ kv ∈ d, okT kv.1 = true ∧ okT kv.2 = true
  | [], [], _ => fun _ h => by cases h
  | u :: us, kv :: d, ⟨⟨p, x, y, e1, e2, e3, e4⟩, t⟩ => fun z hz => by
    rcases List.mem_cons.mp hz with rfl | hz
    · exact ⟨e3.2, e4.2⟩
    · exact rl_dok t z hz
  | [], _ :: _, h => h.elim
  | _ :: _, [], h => h.elim
theorem boot_dict' : bootBuiltins "dict" = some (.type "dict") := by decide +kernel
theorem c_dict (c : XC P w K mg base k N sc vs ls X) {d : List (Txt × Txt)} (ha : DE X B Γ e (rList (rPair rTxt rTxt)) d) (hm : mg "dict" = none) (hn : (d.map (·.1)).Nodup) (hg : glB sc "dict" = true := by decide +kernel) (he : starEach [e] X.env = [(false, eval e X.env)] := by rfl) :
    DE X B Γ (.Call (.Name "dict" p) [e] [] pos) rDct d :=
  c_ty1 c (call_dictP c.calm) hm boot_dict' ha (fun σ H Q ⟨F, en, q⟩ => ⟨F, en, fun v F1 H1 e1 ⟨p, us, h1, h2, h3⟩ => by
    obtain ⟨ps, q1, q2⟩ := rl_dct (K := X.K) e1.i h3
    subst q1
    refine ⟨p, ps, dK d, by rw [h1], SqL.of (e1.i _ _ h2), q2, fun l hl => ?_⟩
    have em : mergeK [] (dK d) = dK d := by rw [merge_nodup _ _ (dK_nodup hn) (by simp)]; simp
    rw [em]
    exact q (.ref l) _ _ (e1.trans (Ext.new e1.i (.dK (dK d)) hl)) ⟨⟨l, rfl, upd_same⟩, rl_dok h3⟩⟩) hg (by decide) (by decide) he
theorem c_getD (c : XC P w K mg base k N sc vs ls X) {d : List (Txt × Txt)} {t : Txt} (ho : DE X B Γ o rDct d) (hi : DE X B Γ i rTxt t) (h : (atD d t).isSome = true) (hs : NoSl i := by exact fun _ _ => rfl) : DE X B Γ (.Subscript o i pos) rTxt (gO (atD d t)) :=
  pe_weak (pe_dget (by have := c.room.units; omega) ho hi hs) fun σ H Q ⟨F, en, q⟩ => ⟨F, en, fun v F1 H1 e1 ⟨⟨p, h1, h2⟩, h3⟩ => ⟨F1, en.ext e1, fun u F2 H2 e2 g => by
    cases hv : atD d t with
    | none => rw [hv] at h; cases h
    | some r =>
      refine ⟨p, .str (tx r), h1, ?_, q _ F2 H2 (e1.trans e2) ?_⟩
      · have := DGet.k (H := H2) (k := .inr (tx t)) (e2.i _ _ (e2.f _ _ h2))
        rw [valV_dK, hv] at this
        rw [g.1]; exact this
      · rw [hv]
        exact ⟨rfl, (h3 _ (atD_mem hv)).2⟩⟩⟩
theorem op_dIn {X : Cx} (hu : X.A.units + 1 < cLine) : OpR X (compareOp .In) (fun y x H Q => ∃ a o, x = .ref a ∧ DGet H a y o ∧ Q (.bl o.isSome) H) := by
  intro pins s σ H x y v u Q I rx ry h
  obtain ⟨a, o, rfl, g, q⟩ := h
  obtain rfl : u = Value.ref a := ry
  exact d_in hu I g rx fun s3 I3 => ⟨.bl o.isSome, H, I3, rfl, q⟩
theorem op_dNotIn {X : Cx} (hu : X.A.units + 1 < cLine) : OpR X (compareOp .NotIn) (fun y x H Q => ∃ a o, x = .ref a ∧ DGet H a y o ∧ Q (.bl (!o.isSome)) H) := by
  intro pins s σ H x y v u Q I rx ry h
  obtain ⟨a, o, rfl, g, q⟩ := h
  obtain rfl : u = Value.ref a := ry
  exact d_notIn hu I g rx fun s3 I3 => ⟨.bl (!o.isSome), H, I3, rfl, q⟩
theorem c_inD (c : XC P w K mg base k N sc vs ls X) {d : List (Txt × Txt)} {t : Txt} (ha : DE X B Γ a rTxt t) (hb : DE X B Γ b rDct d) (hm : behindInMarks .In b = false := by with_unfolding_all rfl) : DC X B Γ (.Compare a [.In] [b] pos) (atD d t).isSome :=
  dc_cmp (ra := rTxt) (rb := rDct) (op_dIn (by have := c.room.units; omega)) (fun F H u v s h1 ⟨⟨p, h2, h3⟩, h4⟩ Q q => ⟨p, (atD d t).map fun t => V.str (tx t), h2, by
    have := DGet.k (H := H) (k := .inr (tx t)) (s _ _ h3)
    rw [valV_dK] at this
    rw [h1.1]; exact this, q _ F H (Ext.refl s) (by show V.bl _ = V.bl _; rw [Option.isSome_map])⟩) hm ha hb
theorem c_ninD (c : XC P w K mg base k N sc vs ls X) {d : List (Txt × Txt)} {t : Txt} (ha : DE X B Γ a rTxt t) (hb : DE X B Γ b rDct d) (hm : behindInMarks .NotIn b = false := by with_unfolding_all rfl) : DC X B Γ (.Compare a [.NotIn] [b] pos) (!(atD d t).isSome) :=
  dc_cmp (ra := rTxt) (rb := rDct) (op_dNotIn (by have := c.room.units; omega)) (fun F H u v s h1 ⟨⟨p, h2, h3⟩, h4⟩ Q q => ⟨p, (atD d t).map fun t => V.str (tx t), h2, by
    have := DGet.k (H := H) (k := .inr (tx t)) (s _ _ h3)
    rw [valV_dK] at this
    rw [h1.1]; exact this, q _ F H (Ext.refl s) (by show V.bl _ = V.bl _; rw [Option.isSome_map])⟩) hm ha hb
/-- list(range(m, n)) -/
theorem c_listRng2 (c : XC P w K mg base k N sc vs ls X) {m n : Int} {p2 pos2 : Pos} (ha : DE X B Γ a rInt m) (hb : DE X B Γ b rInt n) (hm : mg "list" = none) (hm2 : mg "range" = none) (hz : n ≤ 1000000) (h0 : 0 ≤ m ∧ m ≤ 1000000 ∧ 0 ≤ n) (hg : glB sc "list" = true := by decide +kernel) (hg2 : glB sc "range" = true := by decide +kernel)
    (na : starEach [a, b] X.env = (false, eval a X.env) :: starEach [b] X.env := by rfl) (nb : starEach [b] X.env = (false, eval b X.env) :: starEach [] X.env := by rfl) (hpl : (backTo pos2 (starEach [b] X.env)).any (·.1) = false := by rfl)
    (na2 : starEach [.Call (.Name "range" p2) [a, b] [] pos2] X.env = (false, eval (.Call (.Name "range" p2) [a, b] [] pos2) X.env) :: starEach [] X.env := by rfl) :
    DM X B Γ (.Call (.Name "list" p) [.Call (.Name "range" p2) [a, b] [] pos2] [] pos) rInt (rng m (n - m).toNat) :=
  pe_weak (pe_listRg c.calm (gl_of c.sc hg) (by rw [c.mg]; exact hm) (prg_2 (gl_of c.sc hg2) (by rw [c.mg]; exact hm2) ha hb na nb hpl) na2) fun σ H Q ⟨F, en, q⟩ => ⟨F, en, fun v F1 H1 e1 h1 => ⟨F1, en.ext e1, fun v2 F2 H2 e2 h2 => ⟨m, n, h1, h2, ⟨by omega, by omega, by omega, by omega, by omega⟩, fun l hl => by
    have e3 := Ext.newH e2.i (.lst (rgV m n)) hl
    exact q l (rgV m n) F2 _ ((e1.trans e2).trans e3) (e2.i.free hl) ((e1.trans e2).h.free hl) upd_same (by rw [rgV_rng]; exact Rl.of_map (R := rInt.rel F2) (fun _ => rfl) _)⟩⟩⟩
/-- one of two kinds, each by its own rule -/
theorem de_sumX {e' : Expr} {r : Rp α} {s : Rp β} {t : Rp γ} {v : α ⊕ β} (f : α ⊕ β → γ) (h : DE X B Γ e (rSum r s) v) (hl : ∀ x, v = .inl x → DE X B Γ e r x → ∃ y, DE X B Γ e' t y ∧ y = f (.inl x)) (hr : ∀ y, v = .inr y → DE X B Γ e s y → ∃ z, DE X B Γ e' t z ∧ z = f (.inr y)) : DE X B Γ e' t (f v) :=
  de_sumE f h (fun x e d => let ⟨_, h1, h2⟩ := hl x e d; h2 ▸ h1) (fun x e d => let ⟨_, h1, h2⟩ := hr x e d; h2 ▸ h1)
/-- a pair of two of a kind -/
theorem de_pairT {r : Rp α} {x : α × α} (h : DE X B Γ e (rPair r r) x) : DE X B Γ e (rTup r) [x.1, x.2] :=
  pe_weak h fun σ H Q ⟨F, en, q⟩ => ⟨F, en, fun v F1 H1 e1 ⟨p, u, w, h1, h2, h3, h4⟩ => q v F1 H1 e1 ⟨p, [u, w], h1, h2, h3, h4, trivial⟩⟩
end
end DL
namespace DL
open PySem L2 PySem.Spec PyProof.Rows
def disL (xs : List Txt) : Nat := dis (xs.map tx)
theorem disL_nodup {xs : List Txt} (h : xs.Nodup) : disL xs = xs.length := by
  unfold disL
  rw [dis_nodup (nodup_map (fun a b e => tx_inj e) h), List.length_map]
def tLenSetL (K : PySem.W.Frag) (ta : TE) : TE := fun σ H Q => ta σ H fun x H1 => ∃ l, ∃ xs : List Str, x = .ref l ∧ SqL K H1 l (xs.map V.str) ∧ xs.length ≤ 1000 ∧ Q (.int (dis xs : Nat)) H1
theorem rl_strs {F : Hp} : ∀ {us : List V} {xs : List Txt}, Rl (rTxt.rel F) us xs → us = (xs.map tx).map V.str
  | [], [], _ => rfl
  | u :: us, x :: xs, ⟨h, t⟩ => by rw [List.map_cons, List.map_cons, ← rl_strs t, h.1]
  | [], _ :: _, h => h.elim
  | _ :: _, [], h => h.elim
/-- two of unlike kinds in a list -/
def rL2 {α β : Type} (r : Rp α) (s : Rp β) : Rp (α × β) := ⟨fun F v a => ∃ p x y, v = .ref p ∧ F p = some (.lst [x, y]) ∧ r.rel F x a.1 ∧ s.rel F y a.2,
  fun e ⟨p, x, y, h1, h2, h3, h4⟩ => ⟨p, x, y, h1, e _ _ h2, r.mono e h3, s.mono e h4⟩⟩
section
variable {P : Program} {w : World} {K : PySem.W.Frag} {mg : Str → Option Value} {base : Heap} {k j : Nat} {N : List Str} {sc : Scope} {vs ls : List Nat} {X : Cx} {α β γ ι ρ : Type} {B : Bs} {Γ Γ' : Ctx} {e a b c : Expr} {es : List Expr} {D : Ends} {rest ss : List Stmt} {p pos apos : Pos} {x y f m : Str}
theorem pe_lenSetL {ta : TE} {p2 q : Pos} (hc : X.calm = true) (hg : Gl X "len") (hm : X.mg "len" = none) (hg2 : Gl X "set") (hm2 : X.mg "set" = none) (ha : PE X a ta)
    (na : starEach [a] X.env = (false, eval a X.env) :: starEach [] X.env := by rfl) : PE X (.Call (.Name "len" p) [.Call (.Name "set" p2) [a] [] q] [] pos) (tLenSetL X.K ta) := by
  refine ⟨fun pins s σ H Q I h => ?_⟩
  refine Call_ (ld_blt I hg hm boot_len ?_)
  refine PyProof.Rows.callWith_builtin1 (PyProof.Rows.args_cons ?_ rfl) rfl rfl
  refine Call_ (ld_blt I hg2 hm2 boot_set ?_)
  refine PyProof.Rows.callWith_type1 (PyProof.Rows.args_cons (thn (ha.run pins s σ H _ I h) fun v s1 ⟨x, H1, I1, r1, q1⟩ => PyProof.Rows.args_nil ?_) na) na rfl
  obtain ⟨l, xs, rfl, hq, hz, q1⟩ := q1
  cases r1
  obtain ⟨its, rv, pl, _⟩ := I1.list hq
  refine call_set_listT xs (I1.ok.hd hc) pl.isList (by simpa using strsAre_of rv) (Nat.lt_of_le_of_lt (Nat.add_le_add_right hz 2) (by decide)) fun h' tk hS hk => PyProof.Rows.args_nil ?_
  obtain ⟨o, es, ep, t', ho, hex, hd, _, _, _, hf, hn⟩ := hS
  have hle : dis xs ≤ xs.length := dis_le _
  have I2 : Inv X pins σ H1 { s1 with heap := h', toks := tk } := I1.kept fun b o e => hk b o e
  have hsb : (1002 : Nat) < scanBound := by decide
  refine call_len_set ho hex hd hf (by rw [hn]; first | exact Nat.lt_of_le_of_lt (Nat.le_trans hle (Nat.le_trans hz (by decide : 1000 ≤ 1002))) hsb | exact Nat.le_of_lt (Nat.lt_of_le_of_lt (Nat.le_trans hle (Nat.le_trans hz (by decide : 1000 ≤ 1002))) hsb) | (unfold scanBound at *; omega)) ⟨.int (dis xs : Nat), H1, I2.tok _, ⟨_, by rw [hn]⟩, q1⟩
theorem c_lenSetL (c : XC P w K mg base k N sc vs ls X) {xs : List Txt} {p2 q : Pos} (ha : DE X B Γ a (rList rTxt) xs) (hm : mg "len" = none) (hm2 : mg "set" = none) (hz : xs.length ≤ 1000) (hg : glB sc "len" = true := by decide +kernel) (hg2 : glB sc "set" = true := by decide +kernel)
    (na : starEach [a] X.env = (false, eval a X.env) :: starEach [] X.env := by rfl) : DE X B Γ (.Call (.Name "len" p) [.Call (.Name "set" p2) [a] [] q] [] pos) rInt (disL xs) :=
  pe_weak (pe_lenSetL c.calm (gl_of c.sc hg) (by rw [c.mg]; exact hm) (gl_of c.sc hg2) (by rw [c.mg]; exact hm2) ha na) fun σ H Q ⟨F, en, q⟩ => ⟨F, en, fun v F1 H1 e1 ⟨p, us, h1, h2, h3⟩ =>
    ⟨p, xs.map tx, h1, by rw [← rl_strs h3]; exact SqL.of (e1.i _ _ h2), by rw [List.length_map]; exact hz, q _ F1 H1 e1 rfl⟩⟩
/-- one or the other new thing -/
theorem dq_ifExp {z : Bool} {o : Own α} {v u : α} (hc : DT X B Γ c z) (ha : z = true → DQ X B Γ a o v) (hb : z = false → DQ X B Γ b o u) : DQ X B Γ (.IfExp c a b pos) o (if z = true then v else u) :=
  pe_weak (pe_ifExp hc (pe_imp ha) (pe_imp hb)) fun σ H Q ⟨F, e, k⟩ => ⟨F, e, fun F1 H1 e1 => by
    cases z with
    | true => exact ⟨rfl, F1, e.ext e1, fun v F2 H2 fp e2 h2 h3 => k v F2 H2 fp (e1.trans e2) h2 fun b hb => ⟨(h3 b hb).1, e1.h.free (h3 b hb).2.1, (h3 b hb).2.2⟩⟩
    | false => exact ⟨rfl, F1, e.ext e1, fun v F2 H2 fp e2 h2 h3 => k v F2 H2 fp (e1.trans e2) h2 fun b hb => ⟨(h3 b hb).1, e1.h.free (h3 b hb).2.1, (h3 b hb).2.2⟩⟩⟩
/-- a comprehension that looks at a list of one's own -/
theorem lcok_thaw {Γp : Ctx} {i : Nat} {o : Own α} {r : Rp α} {x : α} {s : Rp β} {y : List β} {elt tg iter : Expr} {ifs : List Expr} {scope : Scope} (fz : Frz o r) (at_ : At Γ i (.own o x)) (t : To Γ i (.val r x) Γp) (sc : Sc s) (h : LcOk X B Γp elt tg iter ifs scope s y) : LcOk X B Γ elt tg iter ifs scope s y := by
  obtain ⟨own, wi, g, tt, te, h1, h2, h3, h4, h5, h6, h7⟩ := h
  refine ⟨own, wi, g, tt, te, h1, h2, h3, h4, h5, h6, fun σ H Q ⟨F, ⟨fp, en⟩, k⟩ => h7 σ H Q ?_⟩
  obtain ⟨F', s1, en'⟩ := en.freeze fz at_ t
  refine ⟨F', en', fun p vs F2 H2 e2 h2 h3 h4 h5 => k p vs F H2 ⟨Same.refl F, e2.h, en.same.trans e2.h, fun b hf _ => hf⟩ ?_ h3 h4 (Rl.imp (fun v a => sc _ _ v a) h5)⟩
  exact en.same.free h3
theorem de_l2 {e1 e2 : Expr} {r : Rp α} {s : Rp β} {x : α} {y : β} {pos : Pos} (h : DA X B Γ [e1, e2] [.val r x, .val s y]) : DE X B Γ (.List [e1, e2] pos) (rL2 r s) (x, y) :=
  pe_weak (pe_lst h) fun σ H Q ⟨F, en, k⟩ => ⟨F, en, fun vs F1 H1 e1 h1 => by
    obtain ⟨u, w, rfl, h2, h3⟩ := h1.two
    refine ⟨by show 2 ≤ sizeLine; decide, fun p hp => ?_⟩
    have e2 := Ext.new e1.i (.lst [u, w]) hp
    exact k (.ref p) _ _ (e1.trans e2) ⟨p, u, w, rfl, upd_same, r.mono e2.f h2, s.mono e2.f h3⟩⟩
end
section
variable {α β : Type} [DecidableEq α] [DecidableEq β]
def eqL2 {r : Rp α} {s : Rp β} {d d' : Nat} (E : Eqd r d) (E' : Eqd s d') : Eqd (rL2 r s) (max d d' + 1) := ⟨fun z => .list [E.enc z.1, E'.enc z.2],
  fun K F v a ⟨p, u, u', h1, h2, h3, h4⟩ => by rw [h1]; exact .lst (SqL.of h2) (.cons (E.dp K F u _ h3) (.cons (E'.dp K F u' _ h4) .nil)),
  fun F v a ⟨p, u, u', h1, h2, h3, h4⟩ => by
    show ((E.enc a.1).canLay0 && ((E'.enc a.2).canLay0 && true)) = true
    rw [E.sh F u _ h3, E'.sh F u' _ h4]; rfl,
  fun a => by
    show max (PyData.depth (E.enc a.1)) (max (PyData.depth (E'.enc a.2)) 0) + 1 ≤ _
    have := E.dep a.1
    have := E'.dep a.2
    omega,
  fun a b => by
    show (PyData.eqv (E.enc a.1) (E.enc b.1) && (PyData.eqv (E'.enc a.2) (E'.enc b.2) && true)) = _
    rw [E.eq, E'.eq]
    obtain ⟨a1, a2⟩ := a
    obtain ⟨b1, b2⟩ := b
    by_cases h : a1 = b1
    · subst h
      by_cases h2 : a2 = b2
      · subst h2; simp
      · simp [h2]
    · simp [h]⟩
end
end DL
namespace DL
open PySem L2 PySem.Spec PyProof.Rows
theorem op_mulS {X : Cx} : OpR X (binaryOp .Mult) (fun x y H Q => ∃ (z : Str) (n : Int), x = .str z ∧ y = .int n ∧ MulOk z n ∧ Q (.str (PySem.Txt.mul z n)) H) := by
  intro pins s σ H x y v u Q I rx ry h
  obtain ⟨z, n, rfl, rfl, hok, q⟩ := h
  obtain ⟨t, rfl⟩ := rx
  obtain ⟨t', rfl⟩ := ry
  exact PySem.SB.mul hok fun t' k => ⟨.str _, H, I.tok _, ⟨_, rfl⟩, q⟩
theorem fold_app (x : Array Nat) : ∀ (k : Nat) (acc : Array Nat), ((List.replicate k x).foldl (· ++ ·) acc).toList = acc.toList ++ (List.replicate k x.toList).flatten
  | 0, acc => by simp
  | k + 1, acc => by rw [List.replicate_succ, List.foldl_cons, fold_app x k, List.replicate_succ, List.flatten_cons]; simp
theorem mul_tx (t : Txt) (n : Int) : PySem.Txt.mul (tx t) n = tx (repL n t) := by
  unfold PySem.Txt.mul repL
  have hl : (tx t).length = t.length := tx_len t
  by_cases h1 : n < 1
  · rw [if_pos h1]
    have : n.toNat = 0 := by omega
    rw [this]; rfl
  · rw [if_neg h1]
    by_cases h2 : (n == 1 || (tx t).length == 0) = true
    · rw [if_pos h2]
      congr 1
      simp only [Bool.or_eq_true, beq_iff_eq] at h2
      rcases h2 with h2 | h2
      · subst h2; simp
      · rw [hl] at h2
        have : t = [] := List.length_eq_zero_iff.mp h2
        subst this; simp
    · rw [if_neg h2]
      show (⟨_⟩ : Str) = ⟨_⟩
      congr 1
      apply Array.ext'
      rw [fold_app]
      simp [tx]
theorem mulOk {t : Txt} {n : Int} (h1 : t.length ≤ 1000) (h2 : -1000 ≤ n ∧ n ≤ 1000) : MulOk (tx t) n := by
  have hl : (tx t).length = t.length := tx_len t
  refine ⟨?_, fun hn _ => ?_, fun hn _ => ?_⟩
  · have a : ¬ n < -(2 ^ 63 : Int) := by omega
    have b : ¬ n ≥ 2 ^ 63 := by omega
    rw [decide_eq_false a, decide_eq_false b]; rfl
  · rw [hl]
    have : (1000 : Int) ≤ (2 ^ 63 - 1) / n := Int.le_ediv_of_mul_le (by omega) (by omega)
    omega
  · rw [hl]
    have : t.length * n.toNat ≤ 1000 * 1000 := Nat.mul_le_mul h1 (by omega)
    unfold Builtin.Str.tooLong
    exact decide_eq_false (by have : (1000000 : Nat) ≤ sizeLine := by decide
                              omega)
section
variable {P : Program} {w : World} {K : PySem.W.Frag} {mg : Str → Option Value} {base : Heap} {k j : Nat} {N : List Str} {sc : Scope} {vs ls : List Nat} {X : Cx} {α β γ ι ρ : Type} {B : Bs} {Γ Γ' : Ctx} {e a b c : Expr} {es : List Expr} {D : Ends} {rest ss body : List Stmt} {p pos apos : Pos} {x y f m : Str}
theorem de_repS {t : Txt} {n : Int} (ha : DE X B Γ a rTxt t) (hb : DE X B Γ b rInt n) (h : t.length ≤ 1000 ∧ -1000 ≤ n ∧ n ≤ 1000) : DE X B Γ (.BinOp a .Mult b pos) rTxt (repL n t) :=
  pe_weak (pe_op op_mulS ha hb) fun σ H Q ⟨F, en, q⟩ => ⟨F, en, fun v F1 H1 e1 h1 => ⟨F1, en.ext e1, fun v' F2 H2 e2 h2 => ⟨tx t, n, h1.1, h2, mulOk h.1 h.2, q _ F2 H2 (e1.trans e2) ⟨by rw [mul_tx], okT_sub (fun c hc => by
    unfold repL at hc
    obtain ⟨l, hl, hc⟩ := List.mem_flatten.mp hc
    rw [(List.mem_replicate.mp hl).2] at hc
    exact hc) h1.2⟩⟩⟩⟩
end
end DL
namespace Law
open PySem L2 DL PySem.Spec PyProof.Rows
def withinI (t l h : Int) : Bool := decide (l ≤ t) && decide (t ≤ h)
def areWithin (xs : List Int) (l h : Int) : Bool := xs.all fun t => withinI t l h
def weighedL (a b : List Int) : Int := (if ltL b a = true then 1 else 0) - (if ltL a b = true then 1 else 0)
def cellAt (s : List Int) (k : Int) : Int := if k < s.length then gI s k else 0
def primesL : List Int := [1000003, 1000033, 1000037, 1000039, 1000081, 1000099, 1000117, 1000121, 1000133, 1000151, 1000159, 1000171, 1000183, 1000187, 1000193, 1000199]
def draw (cell k most : Int) : Int := (cell * 48271 + k * 69621) % gI primesL (k % 16) % most
theorem prime_pos (k : Int) : 0 < gI primesL (k % 16) := by
  have h0 : 0 ≤ k % 16 := Int.emod_nonneg _ (by decide)
  have h1 : k % 16 < 16 := Int.emod_lt_of_pos _ (by decide)
  rw [gI_nat h0]
  have h2 : (k % 16).toNat < 16 := by omega
  generalize (k % 16).toNat = n at h2
  have : ∀ n < 16, 0 < primesL.getD n default := by decide
  exact this n h2
def number (cell k limit : Int) : Int :=
  if 0 < (rng 0 (k % 24).toNat).foldl (fun r _ => r / 1009) (cell - 10 ^ 18) then (rng 0 (k % 24).toNat).foldl (fun r _ => r / 1009) (cell - 10 ^ 18) % 1009 % limit
  else draw ((cell % 1000003 + 977 * k) * (cell % 1000003 + 31 * k + 5)) (k % 9 + 1) 999983 % limit
theorem number_in (cell k : Int) {limit : Int} (h : 0 < limit) : 0 ≤ number cell k limit ∧ number cell k limit < limit := by
  unfold number
  split
  · exact ⟨Int.emod_nonneg _ (by omega), Int.emod_lt_of_pos _ h⟩
  · exact ⟨Int.emod_nonneg _ (by omega), Int.emod_lt_of_pos _ h⟩
/-! ### levels -/
def lvC (CL CB : Addr) (o : Bool × List Int) : Addr := cond o.1 CB CL
abbrev rLv (CL CB : Addr) : Rp (Bool × List Int) := rObj (lvC CL CB) ["held"] (fun o => [.val (rList rInt) o.2])
structure TLev (K : PySem.W.Frag) (mg : Str → Option Value) (CL CB : Addr) : Prop where
  ci : ∀ o, ClsI K (lvC CL CB o)
  cl : ∀ o, Cls K (lvC CL CB o)
  na : ∀ o, NoAttr K (lvC CL CB o) "held"
  kL : ∀ o, PySem.W.kitOne K (.ref (lvC CL CB o)) (.ref CL) = some true
  kB : ∀ o, PySem.W.kitOne K (.ref (lvC CL CB o)) (.ref CB) = some o.1
theorem cutL_len {α : Type} (xs : List α) (l h : Option Int) : (cutL xs l h).length ≤ xs.length := by
  unfold cutL
  rw [List.length_take, List.length_drop]
  omega
theorem ranks_ok (cell : Int) (n : Nat) : areWithin ((rng 0 n).map fun k => number cell (k + 3) 100) 0 99 = true := by
  unfold areWithin withinI
  rw [List.all_eq_true]
  intro x hx
  obtain ⟨k, _, rfl⟩ := List.mem_map.mp hx
  have := number_in cell (k + 3) (limit := 100) (by decide)
  simp
  omega
def seenL (back : Bool) (row : List Int) : List Int := cond back row.reverse row
def okRanks (rs : List Int) : Prop := 1 ≤ rs.length ∧ rs.length ≤ 8 ∧ areWithin rs 0 99 = true
def dueGo (m t : List Int) : List (Int × Int) → Unit → Int
  | [], _ => (if t.length < m.length then 1 else 0) - (if m.length < t.length then 1 else 0)
  | z :: r, u => if z.1 ≠ z.2 then (if z.1 < z.2 then -1 else 1) else dueGo m t r u
def dueL (one other : List Int) (back : Bool) : Int := dueGo (if back = true then (one.reverse, other.reverse) else (one, other)).1 (if back = true then (one.reverse, other.reverse) else (one, other)).2
  ((if back = true then (one.reverse, other.reverse) else (one, other)).1.zip (if back = true then (one.reverse, other.reverse) else (one, other)).2) ()
theorem weigh_go (M T : List Int) : ∀ (a b : List Int) (n : Nat), M.length = a.length + n → T.length = b.length + n → weighedL a b = dueGo M T (a.zip b) ()
  | [], [], n, h1, h2 => by
    simp only [List.zip_nil_left, dueGo, weighedL, ltL]
    simp at h1 h2
    rw [if_neg (by omega), if_neg (by omega)]; rfl
  | [], b :: bs, n, h1, h2 => by
    simp at h1 h2
    show (if ltL (b :: bs) [] = true then 1 else 0) - (if ltL [] (b :: bs) = true then (1 : Int) else 0) = (if T.length < M.length then 1 else 0) - (if M.length < T.length then 1 else 0)
    rw [if_neg (by simp [ltL]), if_pos (by simp [ltL]), if_neg (by omega), if_pos (by omega)]
  | a :: as, [], n, h1, h2 => by
    simp at h1 h2
    show (if ltL [] (a :: as) = true then 1 else 0) - (if ltL (a :: as) [] = true then (1 : Int) else 0) = (if T.length < M.length then 1 else 0) - (if M.length < T.length then 1 else 0)
    rw [if_pos (by simp [ltL]), if_neg (by simp [ltL]), if_pos (by omega), if_neg (by omega)]
  | a :: as, b :: bs, n, h1, h2 => by
    simp at h1 h2
    simp only [List.zip_cons_cons, dueGo]
    by_cases q : a = b
    · subst q
      simp only [ne_eq, not_true, if_false]
      rw [← weigh_go M T as bs (n + 1) (by omega) (by omega)]
      simp [weighedL, ltL]
    · rw [if_pos q]
      simp only [weighedL, ltL, if_neg q, if_neg (Ne.symm q)]
      by_cases l : a < b
      · have l2 : ¬ b < a := by omega
        simp [l, l2]
      · have l2 : b < a := by omega
        simp [l, l2]
theorem weigh_anti (a b : List Int) : weighedL b a = - weighedL a b := by unfold weighedL; omega
theorem weigh_due (a b : List Int) (back : Bool) : weighedL (seenL back a) (seenL back b) = dueL a b back := by
  unfold dueL seenL
  cases back
  · exact weigh_go _ _ _ _ 0 rfl rfl
  · exact weigh_go _ _ _ _ 0 rfl rfl
end Law
namespace Law
open PySem L2 DL PySem.Spec PyProof.Rows
/-- the 29 signs -/
def allS : Txt := [97,98,99,100,101,102,103,104,105,106,107,108,109,110,111,112,113,114,115,116,117,118,119,120,121,122,32,45,39]
/-! ### lists -/
theorem nodup_sub {α : Type} [DecidableEq α] : ∀ (l s : List α), l.Nodup → (∀ a ∈ l, a ∈ s) → l.length ≤ s.length
  | [], s, _, _ => Nat.zero_le _
  | a :: l, s, h, hs => by
    have h' := List.nodup_cons.mp h
    have ha := hs a (by simp)
    have ih := nodup_sub l (s.erase a) h'.2 fun b hb => (List.mem_erase_of_ne (fun e => h'.1 (by rw [← e]; exact hb))).mpr (hs b (by simp [hb]))
    have hl := List.length_erase_of_mem ha
    have hp := List.length_pos_of_mem ha
    simp
    omega
theorem len_filter_add {α : Type} (p : α → Bool) : ∀ l : List α, (l.filter p).length + (l.filter fun a => !p a).length = l.length
  | [] => rfl
  | a :: l => by
    have := len_filter_add p l
    cases h : p a <;> simp [List.filter_cons, h] <;> omega
theorem left_len (found : Txt) : allS.length - found.length ≤ ((sgs allS).filter fun s => !inT s found).length := by
  have h1 := len_filter_add (fun s => inT s found) (sgs allS)
  have h2 : ((sgs allS).filter fun s => inT s found).length ≤ (sgs found).length := nodup_sub _ _ (List.Nodup.sublist List.filter_sublist (by decide)) fun a ha => List.contains_iff_mem.mp (List.mem_filter.mp ha).2
  rw [sgs_len] at h2
  rw [sgs_len] at h1
  omega
/-! ### alphabets -/
def leftL (found : Txt) : List Txt := (sgs allS).filter fun s => !inT s found
def alphaStep (cell : Int) (found : Txt) (k : Int) : Txt := found ++ gI (leftL found) (number cell (k + 2) (leftL found).length)
def alphabetL (cell most : Int) : Txt := (rng 0 (2 + number cell 1 (most - 1)).toNat).foldl (alphaStep cell) []
theorem gI_mem {α : Type} [Inhabited α] {xs : List α} {i : Int} (h0 : 0 ≤ i) (h1 : i < xs.length) : gI xs i ∈ xs := by
  rw [gI_nat h0]
  rw [List.getD, List.getElem?_eq_getElem (by omega)]
  exact List.getElem_mem _
/-- texts of unlike signs of the 29 -/
structure Alph (s : Txt) : Prop where
  nd : s.Nodup
  sub : ∀ c ∈ s, c ∈ allS
theorem alpha_step {cell : Int} {s : Txt} {k : Int} (h : Alph s) (hl : s.length ≤ 20) : Alph (alphaStep cell s k) ∧ (alphaStep cell s k).length = s.length + 1 := by
  have hll := left_len s
  have hpos : 0 < (leftL s).length := by
    unfold leftL
    have : allS.length = 29 := rfl
    omega
  have q := number_in cell (k + 2) (limit := ((leftL s).length : Int)) (by omega)
  have hm := gI_mem q.1 q.2
  have hm2 := List.mem_filter.mp hm
  obtain ⟨c, hc, e⟩ := List.mem_map.mp hm2.1
  have hn : c ∉ s := fun z => by
    have h2 := hm2.2
    rw [← e] at h2
    change (!inT [c] s) = true at h2
    rw [inT_one] at h2
    simp [z] at h2
  unfold alphaStep
  rw [← e]
  refine ⟨⟨?_, ?_⟩, by simp⟩
  · rw [List.nodup_append]
    exact ⟨h.nd, by simp, fun a ha b hb => by
      have : b = c := by simpa using hb
      rw [this]; intro z; rw [z] at ha; exact hn ha⟩
  · intro d hd
    rcases List.mem_append.mp hd with hd | hd
    · exact h.sub d hd
    · have : d = c := by simpa using hd
      rw [this]; exact hc
theorem alpha_fold {cell : Int} : ∀ (ks : List Int) (s : Txt), Alph s → s.length + ks.length ≤ 20 → Alph (ks.foldl (alphaStep cell) s) ∧ (ks.foldl (alphaStep cell) s).length = s.length + ks.length
  | [], s, h, _ => ⟨h, rfl⟩
  | k :: ks, s, h, hl => by
    simp at hl
    have h1 := alpha_step (cell := cell) (k := k) h (by omega)
    have h2 := alpha_fold (cell := cell) ks (alphaStep cell s k) h1.1 (by rw [h1.2]; omega)
    refine ⟨h2.1, ?_⟩
    show (ks.foldl (alphaStep cell) (alphaStep cell s k)).length = _
    rw [h2.2, h1.2]
    simp
    omega
theorem alph_nil : Alph [] := ⟨List.nodup_nil, fun c h => by cases h⟩
theorem alpha_ok (cell most : Int) (h : 2 ≤ most ∧ most ≤ 8) : Alph (alphabetL cell most) ∧ 2 ≤ (alphabetL cell most).length ∧ (alphabetL cell most).length ≤ 8 ∧ ((alphabetL cell most).length : Int) ≤ most := by
  have q := number_in cell 1 (limit := most - 1) (by omega)
  have hl : (rng 0 (2 + number cell 1 (most - 1)).toNat).length = (2 + number cell 1 (most - 1)).toNat := rng_len _ _
  have := alpha_fold (cell := cell) (rng 0 (2 + number cell 1 (most - 1)).toNat) [] alph_nil (by rw [hl]; simp; omega)
  rw [hl] at this
  unfold alphabetL
  refine ⟨this.1, ?_, ?_, ?_⟩ <;> rw [this.2] <;> simp <;> omega
theorem alph_ok {s : Txt} (h : Alph s) : okT s = true := okT_sub h.sub (by decide)
/-! ### ranks and levels, told -/
def mostOf (cell k : Int) : Int := gI [2, 3, 100, 5] (number cell k 4)
theorem most_in (cell k : Int) : 2 ≤ mostOf cell k ∧ mostOf cell k ≤ 100 := by
  have q := number_in cell k (limit := 4) (by decide)
  unfold mostOf
  rw [gI_nat q.1]
  have h : (number cell k 4).toNat < 4 := by omega
  generalize (number cell k 4).toNat = n at h
  have : ∀ n < 4, 2 ≤ ([2, 3, 100, 5] : List Int).getD n default ∧ ([2, 3, 100, 5] : List Int).getD n default ≤ 100 := by decide
  exact this n h
def ranks0 (cell k many : Int) : List Int := (rng 0 many.toNat).map fun at_ => number cell (k + at_ + 1) (mostOf cell k)
def ranksL (cell k many : Int) : List Int := if 0 < number cell (k + 11) 3 then ranks0 cell k many else (ranks0 cell k many).map fun r => 1 + r % 99
theorem ranks_len (cell k many : Int) : (ranksL cell k many).length = many.toNat := by
  unfold ranksL ranks0
  split <;> simp [rng_len]
theorem within_all {xs : List Int} {l h : Int} : areWithin xs l h = true ↔ ∀ x ∈ xs, l ≤ x ∧ x ≤ h := by
  unfold areWithin withinI
  rw [List.all_eq_true]
  simp
theorem ranks_in (cell k many : Int) : areWithin (ranksL cell k many) 0 99 = true := by
  rw [within_all]
  unfold ranksL
  have hm := most_in cell k
  split
  · intro x hx
    obtain ⟨a, _, rfl⟩ := List.mem_map.mp hx
    have q := number_in cell (k + a + 1) (limit := mostOf cell k) (by omega)
    omega
  · intro x hx
    obtain ⟨a, _, rfl⟩ := List.mem_map.mp hx
    have := Int.emod_nonneg a (b := 99) (by decide)
    have := Int.emod_lt_of_pos a (b := 99) (by decide)
    omega
def toldOne (cell many at_ : Int) : List Int × Bool := (ranksL (cell + 31 * at_) (2 * at_) many, decide (number (cell + at_) (at_ + 21) 3 = 0))
def toldL (cell many : Int) : List (List Int × Bool) := (rng 0 (1 + number cell 20 3).toNat).map (toldOne cell many)
theorem fold_snoc {α β : Type} (f : α → β) : ∀ (xs : List α) (s : List β), xs.foldl (fun s x => s ++ [f x]) s = s ++ xs.map f
  | [], s => by simp
  | x :: xs, s => by rw [List.foldl_cons, fold_snoc f xs]; simp
theorem told_len (cell many : Int) : 1 ≤ (toldL cell many).length ∧ (toldL cell many).length ≤ 3 := by
  have q := number_in cell 20 (limit := 3) (by decide)
  unfold toldL
  rw [List.length_map, rng_len]
  omega
/-! ### names -/
def isNameL (n signs : Txt) : Bool := (decide ((1 : Int) ≤ n.length) && decide ((n.length : Int) ≤ 20)) && (sgs n).all fun s => inT s signs
/-- of these signs -/
def Of (s n : Txt) : Prop := ∀ c ∈ n, c ∈ s
theorem of_sgs {s n : Txt} (h : Of s n) : ∀ x ∈ sgs n, inT x s = true := fun x hx => by
  obtain ⟨c, hc, rfl⟩ := List.mem_map.mp hx
  rw [inT_one, decide_eq_true_eq]
  exact h c hc
theorem is_name {s n : Txt} (h : Of s n) (h1 : 1 ≤ n.length) (h2 : n.length ≤ 20) : isNameL n s = true := by
  unfold isNameL
  rw [Bool.and_eq_true, List.all_eq_true]
  exact ⟨by simp; omega, of_sgs h⟩
theorem of_is {s n : Txt} (h : isNameL n s = true) : Of s n ∧ 1 ≤ n.length ∧ n.length ≤ 20 := by
  unfold isNameL at h
  rw [Bool.and_eq_true, Bool.and_eq_true, List.all_eq_true, decide_eq_true_eq, decide_eq_true_eq] at h
  exact ⟨fun c hc => by
    have := h.2 [c] (List.mem_map.mpr ⟨c, hc, rfl⟩)
    rw [inT_one, decide_eq_true_eq] at this
    exact this, by omega, by omega⟩
def nameStep (script : List Int) (by_ : Int) (signs found : Txt) (k : Int) : Txt := found ++ [gI signs (number (cellAt script (by_ + k / 4) + 31 * k) (k + 2) signs.length)]
def nameL (script : List Int) (by_ : Int) (signs : Txt) (most : Int) : Txt := (rng 0 (1 + number (cellAt script by_) 1 most).toNat).foldl (nameStep script by_ signs) []
theorem name_fold {script : List Int} {by_ : Int} {signs : Txt} (hs : 0 < signs.length) : ∀ (ks : List Int) (s : Txt), Of signs s → Of signs (ks.foldl (nameStep script by_ signs) s) ∧ (ks.foldl (nameStep script by_ signs) s).length = s.length + ks.length
  | [], s, h => ⟨h, rfl⟩
  | k :: ks, s, h => by
    have q := number_in (cellAt script (by_ + k / 4) + 31 * k) (k + 2) (limit := (signs.length : Int)) (by omega)
    have h1 : Of signs (nameStep script by_ signs s k) := fun c hc => by
      rcases List.mem_append.mp hc with hc | hc
      · exact h c hc
      · rw [List.mem_singleton.mp hc]; exact gI_mem q.1 q.2
    have h2 := name_fold (script := script) (by_ := by_) hs ks _ h1
    refine ⟨h2.1, ?_⟩
    show (ks.foldl (nameStep script by_ signs) (nameStep script by_ signs s k)).length = _
    rw [h2.2]
    unfold nameStep
    simp
    omega
theorem name_ok {script : List Int} {by_ : Int} {signs : Txt} {most : Int} (hs : 0 < signs.length) (hm : 0 < most) : Of signs (nameL script by_ signs most) ∧ 1 ≤ (nameL script by_ signs most).length ∧ ((nameL script by_ signs most).length : Int) ≤ most := by
  have q := number_in (cellAt script by_) 1 (limit := most) hm
  have h := name_fold (script := script) (by_ := by_) hs (rng 0 (1 + number (cellAt script by_) 1 most).toNat) [] (fun c hc => by cases hc)
  rw [rng_len] at h
  unfold nameL
  refine ⟨h.1, ?_, ?_⟩ <;> rw [h.2] <;> simp <;> omega
def namesL (script : List Int) (by_ : Int) (signs : Txt) (many most : Int) : List Txt := (rng 0 many.toNat).map fun k => nameL script (by_ + k) signs most
theorem names_ok {script : List Int} {by_ : Int} {signs : Txt} {many most : Int} (hs : 0 < signs.length) (hm : 0 < most) : ∀ n ∈ namesL script by_ signs many most, Of signs n ∧ 1 ≤ n.length ∧ (n.length : Int) ≤ most := fun n hn => by
  obtain ⟨k, _, rfl⟩ := List.mem_map.mp hn
  exact name_ok hs hm
theorem names_len (script : List Int) (by_ : Int) (signs : Txt) (many most : Int) : (namesL script by_ signs many most).length = many.toNat := by simp [namesL, rng_len]
/-! ### books -/
abbrev Lv : Type := Bool × List Int
abbrev Bk : Type := Txt × List Lv
abbrev rBk (CL CB CBk : Addr) : Rp Bk := rObj (fun _ => CBk) ["alphabet", "ladder"] (fun o => [.val rTxt o.1, .val (rList (rLv CL CB)) o.2])
structure OkBk (b : Bk) : Prop where
  al : Alph b.1
  s1 : 1 ≤ b.1.length
  s8 : b.1.length ≤ 8
  l1 : 1 ≤ b.2.length
  l3 : b.2.length ≤ 3
  lv : ∀ l ∈ b.2, l.2.length = b.1.length ∧ areWithin l.2 0 99 = true
def toB (s : Txt) (ls : List (List Int × Bool)) : Bk := (s, ls.map fun p => (p.2, p.1))
theorem told_ok {s : Txt} {cell : Int} (h : Alph s) (h1 : 1 ≤ s.length) (h8 : s.length ≤ 8) : OkBk (toB s (toldL cell s.length)) := by
  have q := told_len cell s.length
  refine ⟨h, h1, h8, by unfold toB; simpa using q.1, by unfold toB; simpa using q.2, fun l hl => ?_⟩
  unfold toB toldL at hl
  simp only [List.mem_map] at hl
  obtain ⟨p, ⟨a, _, rfl⟩, rfl⟩ := hl
  refine ⟨?_, ranks_in _ _ _⟩
  show (ranksL _ _ _).length = _
  rw [ranks_len]
  simp [toB]
def firstL (b : Bk) : List Int := (gI b.2 0).2
def keptL (b : Bk) (n : Txt) : Txt := ((sgs n).filter fun s => decide (0 < gI (firstL b) (ixT s b.1))).flatten
def placesL (b : Bk) (n : Txt) : List Int := (sgs (keptL b n)).map fun s => ixT s b.1
def weighGo : List Lv → List Int → List Int → Int
  | [], _, _ => 0
  | l :: r, m, t => if weighedL (seenL l.1 (m.map (gI l.2))) (seenL l.1 (t.map (gI l.2))) ≠ 0 then weighedL (seenL l.1 (m.map (gI l.2))) (seenL l.1 (t.map (gI l.2))) else weighGo r m t
def weighB (b : Bk) (one other : Txt) : Int := weighGo b.2 (placesL b one) (placesL b other)
theorem sgs_flat (n : Txt) (p : Txt → Bool) : sgs ((sgs n).filter p).flatten = (sgs n).filter p := by
  unfold sgs
  induction n with
  | nil => rfl
  | cons c n ih =>
    rw [List.map_cons, List.filter_cons]
    split
    · rw [List.flatten_cons, List.map_append, ih]; rfl
    · exact ih
theorem kept_sub (b : Bk) (n : Txt) : ∀ c ∈ keptL b n, c ∈ n := fun c hc => by
  obtain ⟨x, hx, hcx⟩ := List.mem_flatten.mp hc
  obtain ⟨d, hd, rfl⟩ := List.mem_map.mp (List.mem_filter.mp hx).1
  have : c = d := by simpa using hcx
  rw [this]; exact hd
theorem flat_len (n : Txt) (p : Txt → Bool) : ((sgs n).filter p).flatten.length ≤ n.length := by
  have := sgs_len ((sgs n).filter p).flatten
  rw [sgs_flat] at this
  have h2 := List.length_filter_le p (sgs n)
  rw [sgs_len] at h2
  omega
theorem kept_len (b : Bk) (n : Txt) : (keptL b n).length ≤ n.length := flat_len _ _
/-- the row of a name on a told level -/
def rowL (s : Txt) (ls : List (List Int × Bool)) (at_ : Int) (n : Txt) : List Int :=
  seenL (gI ls at_).2 (((sgs n).filter fun x => decide (0 < gI (gI ls 0).1 (ixT x s))).map fun x => gI (gI ls at_).1 (ixT x s))
def parGo (k : Int) (m t : List Int) : List (Int × Int) → Unit → Int
  | [], _ => if m.length ≠ t.length then (if m.length < t.length then -1 else 1) else k
  | z :: r, u => if z.1 ≠ z.2 then (if z.1 < z.2 then -1 else 1) else parGo k m t r u
def weighToldGo (s : Txt) (ls : List (List Int × Bool)) (one other : Txt) : List Int → Unit → Int
  | [], _ => 0
  | at_ :: r, u => parGo (weighToldGo s ls one other r u) (rowL s ls at_ one) (rowL s ls at_ other) ((rowL s ls at_ one).zip (rowL s ls at_ other)) ()
def weighT (s : Txt) (ls : List (List Int × Bool)) (one other : Txt) : Int := weighToldGo s ls one other (rng 0 ls.length) ()
theorem weighed_cases (a b : List Int) : weighedL a b = -1 ∨ weighedL a b = 0 ∨ weighedL a b = 1 := by
  unfold weighedL
  split <;> split <;> simp
theorem par_weighed (k : Int) (M T : List Int) : ∀ (a b : List Int) (n : Nat), M.length = a.length + n → T.length = b.length + n → parGo k M T (a.zip b) () = if weighedL a b ≠ 0 then weighedL a b else k
  | [], [], n, h1, h2 => by
    simp at h1 h2
    simp only [List.zip_nil_left, parGo, weighedL, ltL]
    rw [if_neg (by omega)]; rfl
  | [], b :: bs, n, h1, h2 => by
    simp at h1 h2
    show (if M.length ≠ T.length then (if M.length < T.length then -1 else 1) else k) = _
    rw [if_pos (by omega), if_pos (by omega)]
    have : weighedL [] (b :: bs) = -1 := rfl
    rw [this]; rfl
  | a :: as, [], n, h1, h2 => by
    simp at h1 h2
    show (if M.length ≠ T.length then (if M.length < T.length then -1 else 1) else k) = _
    rw [if_pos (by omega), if_neg (by omega)]
    have : weighedL (a :: as) [] = 1 := rfl
    rw [this]; rfl
  | a :: as, b :: bs, n, h1, h2 => by
    simp at h1 h2
    simp only [List.zip_cons_cons, parGo]
    by_cases q : a = b
    · subst q
      simp only [ne_eq, not_true, if_false]
      rw [par_weighed k M T as bs (n + 1) (by omega) (by omega)]
      have : weighedL (a :: as) (a :: bs) = weighedL as bs := by simp [weighedL, ltL]
      rw [this]
    · rw [if_pos q]
      by_cases l : a < b
      · have l2 : ¬ b < a := by omega
        have : weighedL (a :: as) (b :: bs) = -1 := by simp [weighedL, ltL, q, Ne.symm q, l, l2]
        rw [this, if_pos l]; rfl
      · have l2 : b < a := by omega
        have : weighedL (a :: as) (b :: bs) = 1 := by simp [weighedL, ltL, q, Ne.symm q, l, l2]
        rw [this, if_neg l]; rfl
theorem row_eq (s : Txt) (ls : List (List Int × Bool)) (n : Txt) (at_ : Int) (h0 : 0 ≤ at_) (h1 : at_ < ls.length) :
    rowL s ls at_ n = seenL (gI (toB s ls).2 at_).1 ((placesL (toB s ls) n).map (gI (gI (toB s ls).2 at_).2)) := by
  have hmap : ∀ i : Int, 0 ≤ i → i < ls.length → gI (toB s ls).2 i = ((gI ls i).2, (gI ls i).1) := fun i h0 h1 => by
    unfold toB
    rw [gI_nat h0, gI_nat h0]
    have : i.toNat < ls.length := by omega
    simp [List.getD, List.getElem?_map, List.getElem?_eq_getElem this]
  rw [hmap at_ h0 h1]
  unfold rowL placesL keptL firstL
  rw [sgs_flat, hmap 0 (by decide) (by omega), List.map_map]
  rfl
theorem rng_map_get {α : Type} [Inhabited α] (xs : List α) : (rng 0 xs.length).map (gI xs) = xs := by
  apply List.ext_getElem?
  intro i
  rw [List.getElem?_map]
  by_cases h : i < xs.length
  · rw [rng_get h]
    show some (gI xs (0 + (i : Int))) = _
    rw [gI_nat (by omega)]
    have : (0 + (i : Int)).toNat = i := by omega
    rw [this, List.getD, List.getElem?_eq_getElem h]; rfl
  · rw [List.getElem?_eq_none (by rw [rng_len]; omega), List.getElem?_eq_none (by omega)]; rfl
theorem weigh_go2 (s : Txt) (ls : List (List Int × Bool)) (one other : Txt) : ∀ (ats : List Int), (∀ a ∈ ats, 0 ≤ a ∧ a < ls.length) →
    weighToldGo s ls one other ats () = weighGo (ats.map (gI (toB s ls).2)) (placesL (toB s ls) one) (placesL (toB s ls) other)
  | [], _ => rfl
  | a :: r, h => by
    have ha := h a (by simp)
    have ih := weigh_go2 s ls one other r fun b hb => h b (by simp [hb])
    rw [List.map_cons]
    unfold weighToldGo weighGo
    rw [par_weighed _ _ _ _ _ 0 rfl rfl, ih, row_eq s ls one a ha.1 ha.2, row_eq s ls other a ha.1 ha.2]
theorem weigh_told (s : Txt) (ls : List (List Int × Bool)) (one other : Txt) : weighB (toB s ls) one other = weighT s ls one other := by
  unfold weighT weighB
  rw [weigh_go2 s ls one other _ fun a ha => by have := mem_rng ha; omega]
  have hl : (toB s ls).2.length = ls.length := by simp [toB]
  rw [← hl, rng_map_get]
theorem weighGo_anti : ∀ (ls : List Lv) (m t : List Int), weighGo ls t m = - weighGo ls m t
  | [], _, _ => rfl
  | l :: r, m, t => by
    have ih := weighGo_anti r m t
    unfold weighGo
    rw [weigh_anti (seenL l.1 (m.map (gI l.2))) (seenL l.1 (t.map (gI l.2))), ih]
    generalize weighedL _ _ = x
    by_cases h : x = 0
    · simp [h]
    · have : -x ≠ 0 := by omega
      simp [h, this]
theorem weighB_anti (b : Bk) (one other : Txt) : weighB b other one = - weighB b one other := weighGo_anti _ _ _
/-! ### names in order -/
theorem weighed_zero : ∀ {a b : List Int}, weighedL a b = 0 → a = b
  | [], [], _ => rfl
  | [], _ :: _, h => by cases h
  | _ :: _, [], h => by cases h
  | a :: as, b :: bs, h => by
    by_cases q : a = b
    · subst q
      have : weighedL (a :: as) (a :: bs) = weighedL as bs := by simp [weighedL, ltL]
      rw [this] at h
      rw [weighed_zero h]
    · exfalso
      by_cases l : a < b
      · have l2 : ¬ b < a := by omega
        have : weighedL (a :: as) (b :: bs) = -1 := by simp [weighedL, ltL, q, Ne.symm q, l, l2]
        rw [this] at h; cases h
      · have l2 : b < a := by omega
        have : weighedL (a :: as) (b :: bs) = 1 := by simp [weighedL, ltL, q, Ne.symm q, l, l2]
        rw [this] at h; cases h
theorem weighed_self (a : List Int) : weighedL a a = 0 := by unfold weighedL; omega
theorem weighed_cons (a b : Int) (as bs : List Int) : weighedL (a :: as) (b :: bs) = if a = b then weighedL as bs else if a < b then -1 else 1 := by
  by_cases q : a = b
  · subst q; simp [weighedL, ltL]
  · by_cases l : a < b
    · have l2 : ¬ b < a := by omega
      simp [weighedL, ltL, q, Ne.symm q, l, l2]
    · have l2 : b < a := by omega
      simp [weighedL, ltL, q, Ne.symm q, l, l2]
theorem weighed_trans : ∀ {a b c : List Int}, weighedL a b < 0 → weighedL b c < 0 → weighedL a c < 0
  | [], [], _, h, _ => by cases h
  | [], _ :: _, [], _, h => by cases h
  | [], _ :: _, _ :: _, _, _ => by show (-1 : Int) < 0; decide
  | _ :: _, [], _, h, _ => by cases h
  | _ :: _, _ :: _, [], _, h => by cases h
  | a :: as, b :: bs, c :: cs, h1, h2 => by
    rw [weighed_cons] at h1 h2 ⊢
    by_cases q1 : a = b
    · subst q1
      rw [if_pos rfl] at h1
      by_cases q2 : a = c
      · subst q2
        rw [if_pos rfl] at h2 ⊢
        exact weighed_trans h1 h2
      · rw [if_neg q2] at h2 ⊢; exact h2
    · rw [if_neg q1] at h1
      have hab : a < b := by
        by_cases l : a < b
        · exact l
        · rw [if_neg l] at h1; cases h1
      by_cases q2 : b = c
      · subst q2
        rw [if_neg q1, if_pos hab]; decide
      · rw [if_neg q2] at h2
        have hbc : b < c := by
          by_cases l : b < c
          · exact l
          · rw [if_neg l] at h2; cases h2
        rw [if_neg (by omega), if_pos (by omega)]; decide
theorem weighGo_trans : ∀ (ls : List Lv) (a b c : List Int), weighGo ls a b ≤ 0 → weighGo ls b c ≤ 0 → weighGo ls a c ≤ 0
  | [], _, _, _, _, _ => Int.le_refl _
  | l :: r, a, b, c, h1, h2 => by
    unfold weighGo at h1 h2 ⊢
    generalize seenL l.1 (a.map (gI l.2)) = x at *
    generalize seenL l.1 (b.map (gI l.2)) = y at *
    generalize seenL l.1 (c.map (gI l.2)) = z at *
    by_cases q1 : weighedL x y = 0
    · have := weighed_zero q1
      subst this
      rw [if_neg (by simpa using q1)] at h1
      by_cases q2 : weighedL x z = 0
      · rw [if_neg (by simpa using q2)] at h2 ⊢
        exact weighGo_trans r a b c h1 h2
      · rw [if_pos q2] at h2 ⊢; exact h2
    · rw [if_pos q1] at h1
      by_cases q2 : weighedL y z = 0
      · have := weighed_zero q2
        subst this
        rw [if_pos q1]; exact h1
      · rw [if_pos q2] at h2
        have := weighed_trans (a := x) (b := y) (c := z) (by omega) (by omega)
        rw [if_pos (by omega)]; omega
theorem weighB_trans (bk : Bk) {a b c : Txt} (h1 : weighB bk a b ≤ 0) (h2 : weighB bk b c ≤ 0) : weighB bk a c ≤ 0 := weighGo_trans _ _ _ _ h1 h2
theorem kept_told (s : Txt) (ls : List (List Int × Bool)) (n : Txt) (h : 1 ≤ ls.length) : keptL (toB s ls) n = ((sgs n).filter fun x => decide (0 < gI (gI ls 0).1 (ixT x s))).flatten := by
  unfold keptL firstL
  have : gI (toB s ls).2 0 = ((gI ls 0).2, (gI ls 0).1) := by
    unfold toB
    rw [gI_nat (by decide), gI_nat (by decide)]
    have h0 : 0 < ls.length := by omega
    show ((ls.map fun p => (p.2, p.1)).getD 0 default) = _
    cases ls with
    | nil => simp at h0
    | cons p r => rfl
  rw [this]
  rfl
end Law
namespace Law
open PySem L2 DL PySem.Spec PyProof.Rows
structure TBk (K : PySem.W.Frag) (mg : Str → Option Value) (CBk : Addr) : Prop where
  ci : ClsI K CBk
  cl : Cls K CBk
  n1 : NoAttr K CBk "alphabet"
  n2 : NoAttr K CBk "ladder"
  kB : PySem.W.kitOne K (.ref CBk) (.ref CBk) = some true
theorem places_in (b : Bk) {n : Txt} (h : Of b.1 n) : ∀ i ∈ (sgs (keptL b n)).map (fun s => ixT s b.1), 0 ≤ i ∧ i < b.1.length := fun i hi => by
  obtain ⟨s, hs, rfl⟩ := List.mem_map.mp hi
  exact ixT_in (of_sgs (fun c hc => h c (kept_sub b n c hc)) s hs)
theorem told_ranks {s : Txt} {ls : List (List Int × Bool)} (h : OkBk (toB s ls)) : ∀ p ∈ ls, okRanks p.1 := fun p hp => by
  have q := h.lv (p.2, p.1) (by unfold toB; exact List.mem_map.mpr ⟨p, hp, rfl⟩)
  have h1 := h.s1
  have h8 := h.s8
  exact ⟨by rw [q.1]; exact h1, by rw [q.1]; exact h8, q.2⟩
theorem told_each {s : Txt} {ls : List (List Int × Bool)} (h : OkBk (toB s ls)) : ∀ i : Int, 0 ≤ i → i < ls.length → (gI ls i).1.length = s.length := fun i h0 h1 => by
  have hm := gI_mem h0 h1
  exact (h.lv ((gI ls i).2, (gI ls i).1) (by unfold toB; exact List.mem_map.mpr ⟨gI ls i, hm, rfl⟩)).1
/-- names near a name -/
def nearL (n signs : Txt) (cell : Int) : List Txt :=
  let at_ := number cell 15 n.length
  let s : Txt := [gI signs (number cell 16 signs.length)]
  (([cutL n none (some at_) ++ s ++ cutL n (some at_) none, cutL n none (some at_) ++ s ++ cutL n (some (at_ + 1)) none, n.reverse, cutL n (some at_) none, cutL n none (some (at_ + 1))] ++
    [cutL n none (some at_) ++ (cutL n (some at_) (some (at_ + 2))).reverse ++ cutL n (some (at_ + 2)) none, s, n]).filter fun x => !decide (x = [])).map fun x => cutL x none (some 20)
theorem of_cut {s n : Txt} (l h : Option Int) (q : Of s n) : Of s (cutL n l h) := fun c hc => q c (List.mem_of_mem_drop (List.mem_of_mem_take hc))
theorem of_app {s n m : Txt} (h1 : Of s n) (h2 : Of s m) : Of s (n ++ m) := fun c hc => (List.mem_append.mp hc).elim (h1 c) (h2 c)
theorem of_rev {s n : Txt} (h1 : Of s n) : Of s n.reverse := fun c hc => h1 c (List.mem_reverse.mp hc)
theorem cut20 (n : Txt) (h : n ≠ []) : 1 ≤ (cutL n none (some 20)).length ∧ (cutL n none (some 20)).length ≤ 20 := by
  have h0 : 0 < n.length := List.length_pos_iff.mpr h
  unfold cutL
  have h1 : HT.sIx n.length 0 none = 0 := rfl
  have h2 : HT.sIx n.length n.length (some 20) = min 20 n.length := by
    unfold HT.sIx
    simp
  rw [h1, h2, List.length_take, List.length_drop]
  omega
theorem near_len (n signs : Txt) (cell : Int) : (nearL n signs cell).length ≤ 8 := by
  unfold nearL
  simp only [List.length_map]
  exact Nat.le_trans (List.length_filter_le _ _) (by simp)
theorem near_ok {n signs : Txt} {cell : Int} (h : Of signs n) (hs : 0 < signs.length) : ∀ m ∈ nearL n signs cell, Of signs m ∧ 1 ≤ m.length ∧ m.length ≤ 20 := fun m hm => by
  unfold nearL at hm
  obtain ⟨x, hx, rfl⟩ := List.mem_map.mp hm
  obtain ⟨hx, hne⟩ := List.mem_filter.mp hx
  have q := number_in cell 16 (limit := (signs.length : Int)) (by omega)
  have hS : Of signs [gI signs (number cell 16 signs.length)] := fun c hc => by rw [List.mem_singleton.mp hc]; exact gI_mem q.1 q.2
  have : Of signs x := by
    simp only [List.cons_append, List.nil_append, List.mem_cons, List.not_mem_nil, or_false] at hx
    rcases hx with rfl | rfl | rfl | rfl | rfl | rfl | rfl | rfl
    · exact of_app (of_app (of_cut _ _ h) hS) (of_cut _ _ h)
    · exact of_app (of_app (of_cut _ _ h) hS) (of_cut _ _ h)
    · exact of_rev h
    · exact of_cut _ _ h
    · exact of_cut _ _ h
    · exact of_app (of_app (of_cut _ _ h) (of_rev (of_cut _ _ h))) (of_cut _ _ h)
    · exact hS
    · exact h
  have hc := cut20 x (by simpa using hne)
  exact ⟨of_cut _ _ this, hc.1, hc.2⟩
theorem zip3_mem {α β γ : Type} {xs : List α} {ys : List β} {zs : List γ} {t : α × β × γ} (h : t ∈ zip3L xs ys zs) : t.1 ∈ xs ∧ t.2.1 ∈ ys ∧ t.2.2 ∈ zs := by
  unfold zip3L at h
  obtain ⟨a, b, c⟩ := t
  have h1 := List.of_mem_zip h
  have h2 := List.of_mem_zip h1.2
  exact ⟨h1.1, h2.1, h2.2⟩
theorem mem_cut {α : Type} {xs : List α} {l h : Option Int} {x : α} (q : x ∈ cutL xs l h) : x ∈ xs := List.mem_of_mem_drop (List.mem_of_mem_take q)
theorem gi2 {a b i : Int} (h : 0 ≤ i ∧ i < 2) : gI [a, b] i = a ∨ gI [a, b] i = b := by
  have : i = 0 ∨ i = 1 := by omega
  rcases this with h | h <;> subst h
  · exact .inl rfl
  · exact .inr rfl
/-- names that a book takes -/
def NameOf (s n : Txt) : Prop := Of s n ∧ 1 ≤ n.length ∧ n.length ≤ 20
theorem NameOf.is {s n : Txt} (h : NameOf s n) : isNameL n s = true := is_name h.1 h.2.1 h.2.2
end Law
namespace Law
open PySem L2 DL PySem.Spec PyProof.Rows
def sg (f : Nat → Int) (p : Nat × Nat) : Int := if f p.1 = f p.2 then 0 else if f p.1 < f p.2 then -1 else 1
def fNZ : List Int → Int
  | [] => 0
  | x :: r => if x = 0 then fNZ r else x
def lvl (d : Bool) (l : List Int) : Int := fNZ (if d = true then l.reverse else l)
abbrev Lvl : Type := (Nat → Int) × Bool
def val : List Lvl → List (Nat × Nat) → Int
  | [], _ => 0
  | l :: R, ps => if lvl l.2 (ps.map (sg l.1)) = 0 then val R ps else lvl l.2 (ps.map (sg l.1))
def swp (p : Nat × Nat) : Nat × Nat := (p.2, p.1)
theorem fNZ_app : ∀ a b : List Int, fNZ (a ++ b) = if fNZ a = 0 then fNZ b else fNZ a
  | [], b => by simp [fNZ]
  | x :: a, b => by
    show (if x = 0 then fNZ (a ++ b) else x) = _
    by_cases h : x = 0
    · rw [if_pos h, fNZ_app a b]
      show _ = if (if x = 0 then fNZ a else x) = 0 then fNZ b else (if x = 0 then fNZ a else x)
      rw [if_pos h]
    · rw [if_neg h]
      show x = if (if x = 0 then fNZ a else x) = 0 then fNZ b else (if x = 0 then fNZ a else x)
      rw [if_neg h, if_neg h]
theorem lvl_f (x : Int) (l : List Int) : lvl false (x :: l) = if x = 0 then lvl false l else x := rfl
theorem lvl_b (x : Int) (l : List Int) : lvl true (x :: l) = if lvl true l = 0 then x else lvl true l := by
  unfold lvl
  rw [if_pos rfl, if_pos rfl, List.reverse_cons, fNZ_app]
  have : fNZ [x] = x := by
    show (if x = 0 then fNZ [] else x) = x
    by_cases h : x = 0
    · rw [if_pos h, h]; rfl
    · rw [if_neg h]
  rw [this]
theorem lvl_nil (d : Bool) : lvl d [] = 0 := by cases d <;> rfl
theorem lvl_one (d : Bool) (x : Int) : lvl d [x] = x := by
  cases d
  · rw [lvl_f, lvl_nil]; by_cases h : x = 0 <;> simp [h]
  · rw [lvl_b, lvl_nil]; simp
theorem lvl_zero (d : Bool) (l : List Int) : lvl d (0 :: l) = lvl d l := by
  cases d
  · rw [lvl_f, if_pos rfl]
  · rw [lvl_b]
    by_cases h : lvl true l = 0
    · rw [if_pos h, h]
    · rw [if_neg h]
theorem sg_swp (f : Nat → Int) (p : Nat × Nat) : sg f (swp p) = - sg f p := by
  unfold sg swp
  simp only
  by_cases h : f p.1 = f p.2
  · rw [if_pos h, if_pos h.symm]; rfl
  · rw [if_neg h, if_neg (fun z => h z.symm)]
    by_cases q : f p.1 < f p.2
    · rw [if_pos q, if_neg (by omega)]; rfl
    · rw [if_neg q, if_pos (by omega)]
theorem sg_in (f : Nat → Int) (p : Nat × Nat) : sg f p = -1 ∨ sg f p = 0 ∨ sg f p = 1 := by
  unfold sg
  by_cases h : f p.1 = f p.2
  · rw [if_pos h]; simp
  · rw [if_neg h]
    by_cases q : f p.1 < f p.2
    · rw [if_pos q]; simp
    · rw [if_neg q]; simp
theorem val_one (l : Lvl) (R : List Lvl) (p : Nat × Nat) : val (l :: R) [p] = if sg l.1 p = 0 then val R [p] else sg l.1 p := by
  show (if lvl l.2 [sg l.1 p] = 0 then _ else lvl l.2 [sg l.1 p]) = _
  rw [lvl_one]
theorem val_in : ∀ (R : List Lvl) (p : Nat × Nat), val R [p] = -1 ∨ val R [p] = 0 ∨ val R [p] = 1
  | [], p => .inr (.inl rfl)
  | l :: R, p => by
    rw [val_one]
    by_cases h : sg l.1 p = 0
    · rw [if_pos h]; exact val_in R p
    · rw [if_neg h]; exact sg_in l.1 p
theorem val_swp : ∀ (R : List Lvl) (p : Nat × Nat), val R [swp p] = - val R [p]
  | [], p => rfl
  | l :: R, p => by
    rw [val_one, val_one, sg_swp]
    by_cases h : sg l.1 p = 0
    · rw [if_pos h, if_pos (by omega)]; exact val_swp R p
    · rw [if_neg h, if_neg (by omega)]
/-- the pair of the other sign -/
def opp (v : List (Nat × Nat) → Int) (p q : Nat × Nat) : Nat × Nat := if v [q] = v [p] then swp q else q
def wins (v : List (Nat × Nat) → Int) (p q : Nat × Nat) : Bool := if v [p] = 0 then false else if v [q] = 0 then true else decide (v [p, opp v p q] = v [p])
theorem opp_val (R : List Lvl) {p q : Nat × Nat} (hp : val R [p] ≠ 0) (hq : val R [q] ≠ 0) : val R [opp (val R) p q] = - val R [p] := by
  unfold opp
  by_cases h : val R [q] = val R [p]
  · rw [if_pos h, val_swp, h]
  · rw [if_neg h]
    have := val_in R p
    have := val_in R q
    omega
theorem opp_sg (f : Nat → Int) (v : List (Nat × Nat) → Int) (p q : Nat × Nat) : sg f (opp v p q) = sg f q ∨ sg f (opp v p q) = - sg f q := by
  unfold opp
  split
  · exact .inr (sg_swp f q)
  · exact .inl rfl
theorem val_two (l : Lvl) (R : List Lvl) (p q : Nat × Nat) : val (l :: R) [p, q] = if lvl l.2 [sg l.1 p, sg l.1 q] = 0 then val R [p, q] else lvl l.2 [sg l.1 p, sg l.1 q] := rfl
theorem val_zero {l : Lvl} {R : List Lvl} {p : Nat × Nat} (ps : List (Nat × Nat)) (h : sg l.1 p = 0) : val (l :: R) (p :: ps) = if lvl l.2 (ps.map (sg l.1)) = 0 then val R (p :: ps) else lvl l.2 (ps.map (sg l.1)) := by
  show (if lvl l.2 (sg l.1 p :: ps.map (sg l.1)) = 0 then _ else lvl l.2 (sg l.1 p :: ps.map (sg l.1))) = _
  rw [h, lvl_zero]
theorem val_step : ∀ (R : List Lvl) (p q : Nat × Nat) (ps : List (Nat × Nat)), val R (p :: q :: ps) = val R ((if wins (val R) p q = true then p else q) :: ps)
  | [], _, _, _ => rfl
  | l :: R, p, q, ps => by
    have ih := val_step R p q ps
    by_cases hx : sg l.1 p = 0
    · by_cases hy : sg l.1 q = 0
      · -- both tie here
        have e1 : val (l :: R) [p] = val R [p] := by rw [val_one, if_pos hx]
        have e2 : val (l :: R) [q] = val R [q] := by rw [val_one, if_pos hy]
        have e3 : opp (val (l :: R)) p q = opp (val R) p q := by unfold opp; rw [e1, e2]
        have e4 : val (l :: R) [p, opp (val R) p q] = val R [p, opp (val R) p q] := by
          have ho : sg l.1 (opp (val R) p q) = 0 := by rcases opp_sg l.1 (val R) p q with h | h <;> omega
          rw [val_zero _ hx]
          show (if lvl l.2 [sg l.1 (opp (val R) p q)] = 0 then _ else _) = _
          rw [lvl_one, if_pos ho]
        have ew : wins (val (l :: R)) p q = wins (val R) p q := by unfold wins; rw [e1, e2, e3, e4]
        rw [ew, val_zero _ hx]
        show (if lvl l.2 (sg l.1 q :: ps.map (sg l.1)) = 0 then _ else lvl l.2 (sg l.1 q :: ps.map (sg l.1))) = _
        rw [hy, lvl_zero, ih]
        have hw : sg l.1 (if wins (val R) p q = true then p else q) = 0 := by split <;> assumption
        rw [val_zero _ hw]
      · -- q alone differs here
        have e2 : val (l :: R) [q] = sg l.1 q := by rw [val_one, if_neg hy]
        have ew : wins (val (l :: R)) p q = false := by
          unfold wins
          by_cases h1 : val (l :: R) [p] = 0
          · rw [if_pos h1]
          · rw [if_neg h1, if_neg (by rw [e2]; exact hy)]
            have ho := opp_val (l :: R) h1 (by rw [e2]; exact hy)
            have h3 : sg l.1 (opp (val (l :: R)) p q) ≠ 0 := by rcases opp_sg l.1 (val (l :: R)) p q with h | h <;> omega
            rw [val_one, if_neg h3] at ho
            have e5 : val (l :: R) [p, opp (val (l :: R)) p q] = sg l.1 (opp (val (l :: R)) p q) := by
              rw [val_zero _ hx]
              show (if lvl l.2 [sg l.1 (opp (val (l :: R)) p q)] = 0 then _ else lvl l.2 [sg l.1 (opp (val (l :: R)) p q)]) = _
              rw [lvl_one, if_neg h3]
            rw [e5, ho]
            exact decide_eq_false (by omega)
        rw [ew, if_neg (by decide), val_zero _ hx]
        have hn : lvl l.2 ((q :: ps).map (sg l.1)) ≠ 0 := by
          show lvl l.2 (sg l.1 q :: ps.map (sg l.1)) ≠ 0
          cases l.2
          · rw [lvl_f, if_neg hy]; exact hy
          · rw [lvl_b]
            split
            · exact hy
            · assumption
        rw [if_neg hn]
        show _ = if lvl l.2 ((q :: ps).map (sg l.1)) = 0 then _ else _
        rw [if_neg hn]
    · have e1 : val (l :: R) [p] = sg l.1 p := by rw [val_one, if_neg hx]
      have h1 : val (l :: R) [p] ≠ 0 := by rw [e1]; exact hx
      have nz : ∀ (z : Nat × Nat) (zs : List (Nat × Nat)), sg l.1 z ≠ 0 → lvl l.2 (sg l.1 z :: zs.map (sg l.1)) ≠ 0 := fun z zs hz => by
        cases l.2
        · rw [lvl_f, if_neg hz]; exact hz
        · rw [lvl_b]
          split
          · exact hz
          · assumption
      have vz : ∀ (z : Nat × Nat) (zs : List (Nat × Nat)), lvl l.2 (sg l.1 z :: zs.map (sg l.1)) ≠ 0 → val (l :: R) (z :: zs) = lvl l.2 (sg l.1 z :: zs.map (sg l.1)) := fun z zs hz => by
        show (if lvl l.2 (sg l.1 z :: zs.map (sg l.1)) = 0 then _ else _) = _
        rw [if_neg hz]; rfl
      by_cases hy : sg l.1 q = 0
      · have ew : wins (val (l :: R)) p q = true := by
          unfold wins
          rw [if_neg h1]
          by_cases h2 : val (l :: R) [q] = 0
          · rw [if_pos h2]
          · rw [if_neg h2]
            have ho : sg l.1 (opp (val (l :: R)) p q) = 0 := by rcases opp_sg l.1 (val (l :: R)) p q with h | h <;> omega
            rw [e1, vz _ _ (nz _ _ hx)]
            show decide (lvl l.2 [sg l.1 p, sg l.1 (opp (val (l :: R)) p q)] = _) = true
            rw [ho]
            refine decide_eq_true ?_
            cases l.2
            · rw [lvl_f, if_neg hx]
            · rw [lvl_b, lvl_one, if_pos rfl]
        rw [ew, if_pos rfl, vz _ _ (nz _ _ hx), vz _ _ (nz _ _ hx)]
        show lvl l.2 (sg l.1 p :: sg l.1 q :: ps.map (sg l.1)) = _
        rw [hy]
        cases l.2
        · rw [lvl_f, if_neg hx, lvl_f, if_neg hx]
        · rw [lvl_b, lvl_zero, ← lvl_b]
      · have e2 : val (l :: R) [q] = sg l.1 q := by rw [val_one, if_neg hy]
        have h2 : val (l :: R) [q] ≠ 0 := by rw [e2]; exact hy
        have ho := opp_val (l :: R) h1 h2
        have h3 : sg l.1 (opp (val (l :: R)) p q) ≠ 0 := by rcases opp_sg l.1 (val (l :: R)) p q with h | h <;> omega
        rw [val_one, if_neg h3, e1] at ho
        have ew : wins (val (l :: R)) p q = !l.2 := by
          unfold wins
          rw [if_neg h1, if_neg h2, e1, vz _ _ (nz _ _ hx)]
          show decide (lvl l.2 [sg l.1 p, sg l.1 (opp (val (l :: R)) p q)] = _) = _
          rw [ho]
          cases l.2
          · rw [lvl_f, if_neg hx]; simp
          · rw [lvl_b, lvl_one, if_neg (by omega)]
            exact decide_eq_false (by omega)
        rw [ew, vz _ _ (nz _ _ hx)]
        show lvl l.2 (sg l.1 p :: sg l.1 q :: ps.map (sg l.1)) = _
        cases hd : l.2
        · rw [Bool.not_false, if_pos rfl, vz _ _ (nz _ _ hx), hd, lvl_f, if_neg hx, lvl_f, if_neg hx]
        · rw [Bool.not_true, if_neg (by decide), vz _ _ (nz _ _ hy), hd, lvl_b]
          have : lvl true (sg l.1 q :: ps.map (sg l.1)) ≠ 0 := by have := nz q ps hy; rwa [hd] at this
          rw [if_neg this]
/-- alike on pairs and twos: alike -/
theorem val_all {R S : List Lvl} {Q : Nat × Nat → Prop} (hs : ∀ p, Q p → Q (swp p)) (h1 : ∀ p, Q p → val R [p] = val S [p]) (h2 : ∀ p q, Q p → Q q → val R [p, q] = val S [p, q]) :
    ∀ (n : Nat) (ps : List (Nat × Nat)), ps.length = n → (∀ p ∈ ps, Q p) → val R ps = val S ps
  | 0, [], _, _ => by
    have : ∀ R : List Lvl, val R [] = 0 := fun R => by
      induction R with
      | nil => rfl
      | cons l R ih =>
        show (if lvl l.2 [] = 0 then val R [] else _) = 0
        rw [lvl_nil, if_pos rfl, ih]
    rw [this, this]
  | 1, [p], _, hq => h1 p (hq p (by simp))
  | n + 2, p :: q :: ps, hl, hq => by
    have qp := hq p (by simp)
    have qq := hq q (by simp)
    have ho : opp (val R) p q = opp (val S) p q := by unfold opp; rw [h1 p qp, h1 q qq]
    have qo : Q (opp (val S) p q) := by
      unfold opp
      split
      · exact hs q qq
      · exact qq
    have ew : wins (val R) p q = wins (val S) p q := by
      unfold wins
      rw [h1 p qp, h1 q qq, ho, h2 _ _ qp qo]
    rw [val_step R, val_step S, ew]
    refine val_all hs h1 h2 (n + 1) _ (by simp at hl ⊢; omega) fun z hz => ?_
    rcases List.mem_cons.mp hz with rfl | hz
    · split <;> assumption
    · exact hq z (by simp [hz])
end Law
namespace Law
open PySem L2 DL PySem.Spec PyProof.Rows
def cmpL (l : Lvl) (u v : List Nat) : Int := weighedL (seenL l.2 (u.map l.1)) (seenL l.2 (v.map l.1))
def wv : List Lvl → List Nat → List Nat → Int
  | [], _, _ => 0
  | l :: R, u, v => if cmpL l u v ≠ 0 then cmpL l u v else wv R u v
theorem wv_self : ∀ (R : List Lvl) (u : List Nat), wv R u u = 0
  | [], _ => rfl
  | l :: R, u => by
    have : cmpL l u u = 0 := weighed_self _
    show (if cmpL l u u ≠ 0 then _ else _) = _
    rw [if_neg (by simp [this]), wv_self R u]
theorem seen_one (d : Bool) (x : Int) : seenL d [x] = [x] := by cases d <;> rfl
theorem seen_twice (d : Bool) (x : Int) : seenL d [x, x] = [x, x] := by cases d <;> rfl
theorem weighed_nil : weighedL [] [] = 0 := rfl
theorem weighed_12 (x y z : Int) : weighedL [x] [y, z] = if x = y then -1 else if x < y then -1 else 1 := by
  rw [weighed_cons]
  by_cases h : x = y
  · rw [if_pos h, if_pos h]; rfl
  · rw [if_neg h, if_neg h]
theorem weighed_sg (f : Nat → Int) : ∀ ps : List (Nat × Nat), weighedL (ps.map fun p => f p.1) (ps.map fun p => f p.2) = fNZ (ps.map (sg f))
  | [] => rfl
  | p :: ps => by
    rw [List.map_cons, List.map_cons, List.map_cons, weighed_cons, weighed_sg f ps]
    show _ = if sg f p = 0 then _ else sg f p
    unfold sg
    by_cases h : f p.1 = f p.2
    · rw [if_pos h, if_pos h, if_pos rfl]
    · rw [if_neg h, if_neg h]
      by_cases q : f p.1 < f p.2
      · rw [if_pos q]; rfl
      · rw [if_neg q]; rfl
theorem cmp_sg (l : Lvl) (ps : List (Nat × Nat)) : cmpL l (ps.map (·.1)) (ps.map (·.2)) = lvl l.2 (ps.map (sg l.1)) := by
  unfold cmpL lvl seenL
  rw [List.map_map, List.map_map]
  cases l.2
  · exact weighed_sg l.1 ps
  · show weighedL (ps.map _).reverse (ps.map _).reverse = fNZ (ps.map (sg l.1)).reverse
    rw [← List.map_reverse, ← List.map_reverse, ← List.map_reverse]
    exact weighed_sg l.1 ps.reverse
theorem wv_val : ∀ (R : List Lvl) (ps : List (Nat × Nat)), wv R (ps.map (·.1)) (ps.map (·.2)) = val R ps
  | [], _ => rfl
  | l :: R, ps => by
    show (if cmpL l _ _ ≠ 0 then _ else wv R _ _) = if lvl l.2 (ps.map (sg l.1)) = 0 then val R ps else lvl l.2 (ps.map (sg l.1))
    rw [cmp_sg, wv_val R ps]
    by_cases h : lvl l.2 (ps.map (sg l.1)) = 0
    · rw [if_pos h, if_neg (by simp [h])]
    · rw [if_neg h, if_pos h]
theorem mono {f g : Nat → Int} {T : Nat → Prop} (h : ∀ a b, T a → T b → (f a < f b ↔ g a < g b)) : ∀ u v : List Nat, (∀ c ∈ u, T c) → (∀ c ∈ v, T c) → weighedL (u.map f) (v.map f) = weighedL (u.map g) (v.map g)
  | [], [], _, _ => rfl
  | [], _ :: _, _, _ => rfl
  | _ :: _, [], _, _ => rfl
  | a :: u, b :: v, hu, hv => by
    rw [List.map_cons, List.map_cons, List.map_cons, List.map_cons, weighed_cons, weighed_cons, mono h u v (fun c hc => hu c (by simp [hc])) fun c hc => hv c (by simp [hc])]
    have h1 := h a b (hu a (by simp)) (hv b (by simp))
    have h2 := h b a (hv b (by simp)) (hu a (by simp))
    by_cases q : f a = f b
    · have q' : g a = g b := by omega
      rw [if_pos q, if_pos q']
    · have q' : ¬ g a = g b := by omega
      rw [if_neg q, if_neg q']
      by_cases z : f a < f b
      · rw [if_pos z, if_pos (h1.mp z)]
      · rw [if_neg z, if_neg (fun w => z (h1.mpr w))]
theorem flat_rev {f : Nat → Int} {T : Nat → Prop} (h : ∀ a b, T a → T b → f a = f b) (u : List Nat) (hu : ∀ c ∈ u, T c) (d : Bool) : seenL d (u.map f) = u.map f := by
  cases d
  · rfl
  · show (u.map f).reverse = u.map f
    cases u with
    | nil => rfl
    | cons a r =>
      have e : (a :: r).map f = List.replicate (r.length + 1) (f a) := by
        rw [List.eq_replicate_iff]
        refine ⟨by simp, fun x hx => ?_⟩
        obtain ⟨c, hc, rfl⟩ := List.mem_map.mp hx
        exact h c a (hu c hc) (hu a (by simp))
      rw [e, List.reverse_replicate]
theorem words_alike {l m : Lvl} {R S : List Lvl} {T : Nat → Prop} (h11 : ∀ a b, T a → T b → wv (l :: R) [a] [b] = wv (m :: S) [a] [b]) (h12 : ∀ a b c, T a → T b → T c → wv (l :: R) [a] [b, c] = wv (m :: S) [a] [b, c])
    (h22 : ∀ a b c d, T a → T b → T c → T d → wv (l :: R) [a, b] [c, d] = wv (m :: S) [a, b] [c, d]) : ∀ u v : List Nat, (∀ c ∈ u, T c) → (∀ c ∈ v, T c) → wv (l :: R) u v = wv (m :: S) u v := by
  have w12 : ∀ (l : Lvl) (R : List Lvl) (a b : Nat), wv (l :: R) [a] [b, b] = if l.1 b < l.1 a then 1 else -1 := fun l R a b => by
    have e : cmpL l [a] [b, b] = if l.1 b < l.1 a then 1 else -1 := by
      unfold cmpL
      show weighedL (seenL l.2 [l.1 a]) (seenL l.2 [l.1 b, l.1 b]) = _
      rw [seen_one, seen_twice, weighed_12]
      by_cases h : l.1 b < l.1 a
      · rw [if_pos h, if_neg (by omega), if_neg (by omega)]
      · rw [if_neg h]
        by_cases q : l.1 a = l.1 b
        · rw [if_pos q]
        · rw [if_neg q, if_pos (by omega)]
    show (if cmpL l _ _ ≠ 0 then _ else _) = _
    rw [e]
    split <;> simp
  have ord : ∀ a b, T a → T b → (l.1 a < l.1 b ↔ m.1 a < m.1 b) := fun a b ha hb => by
    have := h12 b a a hb ha ha
    rw [w12, w12] at this
    by_cases h : l.1 a < l.1 b
    · rw [if_pos h] at this
      by_cases q : m.1 a < m.1 b
      · exact ⟨fun _ => q, fun _ => h⟩
      · rw [if_neg q] at this; omega
    · rw [if_neg h] at this
      by_cases q : m.1 a < m.1 b
      · rw [if_pos q] at this; omega
      · exact ⟨fun z => (h z).elim, fun z => (q z).elim⟩
  have wdir : ∀ (l : Lvl) (R : List Lvl) (a b : Nat), l.1 b < l.1 a → wv (l :: R) [a] [b, a] = if l.2 = true then -1 else 1 := fun l R a b h => by
    have e : cmpL l [a] [b, a] = if l.2 = true then -1 else 1 := by
      unfold cmpL
      show weighedL (seenL l.2 [l.1 a]) (seenL l.2 [l.1 b, l.1 a]) = _
      rw [seen_one]
      cases l.2
      · show weighedL [l.1 a] [l.1 b, l.1 a] = _
        rw [weighed_12, if_neg (by omega), if_neg (by omega)]; rfl
      · show weighedL [l.1 a] [l.1 a, l.1 b] = _
        rw [weighed_12, if_pos rfl]; rfl
    show (if cmpL l _ _ ≠ 0 then _ else _) = _
    rw [e]
    split <;> simp
  have dir : (∃ a b, T a ∧ T b ∧ l.1 b < l.1 a) → l.2 = m.2 := fun ⟨a, b, ha, hb, h⟩ => by
    have := h12 a b a ha hb ha
    rw [wdir l R a b h, wdir m S a b ((ord b a hb ha).mp h)] at this
    cases h1 : l.2 <;> cases h2 : m.2 <;> rw [h1, h2] at this <;> first | rfl | (exfalso; revert this; decide)
  have cmp : ∀ u v : List Nat, (∀ c ∈ u, T c) → (∀ c ∈ v, T c) → cmpL l u v = cmpL m u v := fun u v hu hv => by
    unfold cmpL
    by_cases hd : l.2 = m.2
    · rw [hd]
      cases m.2
      · exact mono ord u v hu hv
      · show weighedL (u.map _).reverse (v.map _).reverse = weighedL (u.map _).reverse (v.map _).reverse
        rw [← List.map_reverse, ← List.map_reverse, ← List.map_reverse, ← List.map_reverse]
        exact mono ord _ _ (fun c hc => hu c (List.mem_reverse.mp hc)) fun c hc => hv c (List.mem_reverse.mp hc)
    · have hc : ∀ a b, T a → T b → l.1 a = l.1 b := fun a b ha hb => by
        have n1 : ¬ l.1 b < l.1 a := fun z => hd (dir ⟨a, b, ha, hb, z⟩)
        have n2 : ¬ l.1 a < l.1 b := fun z => hd (dir ⟨b, a, hb, ha, z⟩)
        omega
      have hc' : ∀ a b, T a → T b → m.1 a = m.1 b := fun a b ha hb => by
        have := hc a b ha hb
        have := ord a b ha hb
        have := ord b a hb ha
        omega
      rw [flat_rev hc u hu, flat_rev hc v hv, flat_rev hc' u hu, flat_rev hc' v hv]
      exact mono ord u v hu hv
  intro u v hu hv
  show (if cmpL l u v ≠ 0 then _ else _) = if cmpL m u v ≠ 0 then _ else _
  rw [cmp u v hu hv]
  by_cases hz : cmpL m u v = 0
  · rw [if_neg (by simp [hz]), if_neg (by simp [hz])]
    have hm : u.map m.1 = v.map m.1 := by
      have := weighed_zero hz
      cases hd : m.2
      · rw [hd] at this; exact this
      · rw [hd] at this
        exact List.reverse_inj.mp (show (u.map m.1).reverse = (v.map m.1).reverse from this)
    have hlen : u.length = v.length := by have := congrArg List.length hm; simpa using this
    have eu : u = (u.zip v).map (·.1) := (List.map_fst_zip (by omega)).symm
    have ev : v = (u.zip v).map (·.2) := (List.map_snd_zip (by omega)).symm
    have tie : ∀ {a b : Nat}, T a → T b → m.1 a = m.1 b → l.1 a = l.1 b := fun {a b} ha hb h => by
      have := ord a b ha hb
      have := ord b a hb ha
      omega
    have hq : ∀ p ∈ u.zip v, (T p.1 ∧ T p.2) ∧ m.1 p.1 = m.1 p.2 := fun p hp => by
      obtain ⟨a, b⟩ := p
      have z := List.of_mem_zip hp
      refine ⟨⟨hu _ z.1, hv _ z.2⟩, ?_⟩
      obtain ⟨i, hi, e⟩ := List.mem_iff_getElem.mp hp
      rw [List.getElem_zip] at e
      have h1 : i < u.length := by simp at hi; omega
      have h2 : i < v.length := by omega
      have e3 : (u.map m.1)[i]'(by simpa using h1) = (v.map m.1)[i]'(by simpa using h2) := by simp only [hm]
      rw [List.getElem_map, List.getElem_map] at e3
      have ea : u[i] = a := congrArg Prod.fst e
      have eb : v[i] = b := congrArg Prod.snd e
      rw [ea, eb] at e3
      exact e3
    have c1 : ∀ (l : Lvl) (a b : Nat), l.1 a = l.1 b → cmpL l [a] [b] = 0 := fun l a b h => by
      unfold cmpL
      show weighedL (seenL l.2 [l.1 a]) (seenL l.2 [l.1 b]) = 0
      rw [h]; exact weighed_self _
    have c2 : ∀ (l : Lvl) (a b c d : Nat), l.1 a = l.1 c → l.1 b = l.1 d → cmpL l [a, b] [c, d] = 0 := fun l a b c d h h' => by
      unfold cmpL
      show weighedL (seenL l.2 [l.1 a, l.1 b]) (seenL l.2 [l.1 c, l.1 d]) = 0
      rw [h, h']; exact weighed_self _
    have st : ∀ (l : Lvl) (R : List Lvl) (u v : List Nat), cmpL l u v = 0 → wv (l :: R) u v = wv R u v := fun l R u v h => by
      show (if cmpL l u v ≠ 0 then _ else _) = _
      rw [if_neg (by simp [h])]
    have key : wv R ((u.zip v).map (·.1)) ((u.zip v).map (·.2)) = wv S ((u.zip v).map (·.1)) ((u.zip v).map (·.2)) := by
      rw [wv_val, wv_val]
      refine val_all (Q := fun p => (T p.1 ∧ T p.2) ∧ m.1 p.1 = m.1 p.2) (fun p h => ⟨⟨h.1.2, h.1.1⟩, h.2.symm⟩) (fun p h => ?_) (fun p q h h' => ?_) _ _ rfl hq
      · have z := h11 p.1 p.2 h.1.1 h.1.2
        rw [st l R _ _ (c1 l _ _ (tie h.1.1 h.1.2 h.2)), st m S _ _ (c1 m _ _ h.2)] at z
        exact (wv_val R [p]).symm.trans (z.trans (wv_val S [p]))
      · have z := h22 p.1 q.1 p.2 q.2 h.1.1 h'.1.1 h.1.2 h'.1.2
        rw [st l R _ _ (c2 l _ _ _ _ (tie h.1.1 h.1.2 h.2) (tie h'.1.1 h'.1.2 h'.2)), st m S _ _ (c2 m _ _ _ _ h.2 h'.2)] at z
        exact (wv_val R [p, q]).symm.trans (z.trans (wv_val S [p, q]))
    rw [← eu, ← ev] at key
    exact key
  · rw [if_pos hz, if_pos hz]
/-! books -/
def lvB (s : Txt) (l : Lv) : Lvl := (fun c => gI l.2 (ixT [c] s), l.1)
theorem kept_eq (b : Bk) (n : Txt) : keptL b n = n.filter fun c => decide (0 < gI (firstL b) (ixT [c] b.1)) := by
  unfold keptL sgs
  induction n with
  | nil => rfl
  | cons c n ih =>
    rw [List.map_cons, List.filter_cons, List.filter_cons]
    split
    · rw [List.flatten_cons, ih]; rfl
    · exact ih
theorem weigh_wv (b : Bk) (one other : Txt) : weighB b one other = wv (b.2.map (lvB b.1)) (keptL b one) (keptL b other) := by
  have e : ∀ (l : Lv) (n : Txt), (placesL b n).map (gI l.2) = (keptL b n).map (lvB b.1 l).1 := fun l n => by
    unfold placesL sgs
    rw [List.map_map, List.map_map]; rfl
  unfold weighB
  generalize hr : b.2 = R
  clear hr
  induction R with
  | nil => rfl
  | cons l R ih =>
    rw [List.map_cons]
    unfold weighGo wv cmpL
    rw [e, e, ih]; rfl
theorem books_alike {b d : Bk} (hb : 1 ≤ b.2.length) (hd : 1 ≤ d.2.length) {S : Txt} (h : ∀ u v : Txt, Of S u → Of S v → (u.length = 1 ∧ v.length = 1) ∨ (u.length = 1 ∧ v.length = 2) ∨ (u.length = 2 ∧ v.length = 2) → weighB b u v = weighB d u v) :
    ∀ u v : Txt, Of S u → Of S v → weighB b u v = weighB d u v := by
  obtain ⟨l, R, eb⟩ : ∃ l R, b.2 = l :: R := by cases q : b.2 with
    | nil => rw [q] at hb; simp at hb
    | cons l R => exact ⟨l, R, rfl⟩
  obtain ⟨m, M, ed⟩ : ∃ l R, d.2 = l :: R := by cases q : d.2 with
    | nil => rw [q] at hd; simp at hd
    | cons l R => exact ⟨l, R, rfl⟩
  have wb : ∀ u v, weighB b u v = wv (lvB b.1 l :: R.map (lvB b.1)) (keptL b u) (keptL b v) := fun u v => by rw [weigh_wv, eb]; rfl
  have wd : ∀ u v, weighB d u v = wv (lvB d.1 m :: M.map (lvB d.1)) (keptL d u) (keptL d v) := fun u v => by rw [weigh_wv, ed]; rfl
  have k12 : ∀ (b : Bk) (l : Lvl) (R : List Lvl) (c : Nat), wv (l :: R) (keptL b [c]) (keptL b [c, c]) = if 0 < gI (firstL b) (ixT [c] b.1) then -1 else 0 := fun b l R c => by
    rw [kept_eq, kept_eq]
    by_cases q : 0 < gI (firstL b) (ixT [c] b.1)
    · rw [List.filter_cons_of_pos (by simpa using q), List.filter_cons_of_pos (by simpa using q), List.filter_cons_of_pos (by simpa using q), List.filter_nil, if_pos q]
      have e : cmpL l [c] [c, c] = -1 := by
        unfold cmpL
        show weighedL (seenL l.2 [l.1 c]) (seenL l.2 [l.1 c, l.1 c]) = _
        rw [seen_one, seen_twice, weighed_12, if_pos rfl]
      show (if cmpL l _ _ ≠ 0 then _ else _) = _
      rw [e]; rfl
    · rw [List.filter_cons_of_neg (by simpa using q), List.filter_cons_of_neg (by simpa using q), List.filter_cons_of_neg (by simpa using q), List.filter_nil, if_neg q]
      exact wv_self _ _
  have one : ∀ {c : Nat}, c ∈ S → Of S [c] := fun hc z hz => by rw [List.mem_singleton.mp hz]; exact hc
  have two : ∀ {c e : Nat}, c ∈ S → e ∈ S → Of S [c, e] := fun hc he z hz => by
    rcases List.mem_cons.mp hz with rfl | hz
    · exact hc
    · rw [List.mem_singleton.mp hz]; exact he
  have hk : ∀ c ∈ S, (0 < gI (firstL b) (ixT [c] b.1) ↔ 0 < gI (firstL d) (ixT [c] d.1)) := fun c hc => by
    have z := h [c] [c, c] (one hc) (two hc hc) (.inr (.inl ⟨rfl, rfl⟩))
    rw [wb, wd, k12, k12] at z
    by_cases q : 0 < gI (firstL b) (ixT [c] b.1) <;> by_cases q' : 0 < gI (firstL d) (ixT [c] d.1)
    · exact ⟨fun _ => q', fun _ => q⟩
    · rw [if_pos q, if_neg q'] at z; omega
    · rw [if_neg q, if_pos q'] at z; omega
    · exact ⟨fun z => (q z).elim, fun z => (q' z).elim⟩
  have hkk : ∀ u, Of S u → keptL d u = keptL b u := fun u hu => by
    rw [kept_eq, kept_eq]
    refine List.filter_congr fun c hc => ?_
    have := hk c (hu c hc)
    by_cases q : 0 < gI (firstL b) (ixT [c] b.1)
    · rw [decide_eq_true q, decide_eq_true (this.mp q)]
    · rw [decide_eq_false q, decide_eq_false (fun z => q (this.mpr z))]
  have kid : ∀ u : Txt, (∀ c ∈ u, c ∈ S ∧ 0 < gI (firstL b) (ixT [c] b.1)) → keptL b u = u := fun u hu => by
    rw [kept_eq]
    exact List.filter_eq_self.mpr fun c hc => by simpa using (hu c hc).2
  have small : ∀ u v : Txt, (∀ c ∈ u, c ∈ S ∧ 0 < gI (firstL b) (ixT [c] b.1)) → (∀ c ∈ v, c ∈ S ∧ 0 < gI (firstL b) (ixT [c] b.1)) → (u.length = 1 ∧ v.length = 1) ∨ (u.length = 1 ∧ v.length = 2) ∨ (u.length = 2 ∧ v.length = 2) →
      wv (lvB b.1 l :: R.map (lvB b.1)) u v = wv (lvB d.1 m :: M.map (lvB d.1)) u v := fun u v hu hv hl => by
    have ou : Of S u := fun c hc => (hu c hc).1
    have ov : Of S v := fun c hc => (hv c hc).1
    have z := h u v ou ov hl
    rw [wb, wd, hkk u ou, hkk v ov, kid u hu, kid v hv] at z
    exact z
  have m1 : ∀ {T : Nat → Prop} {a : Nat}, T a → ∀ c ∈ [a], T c := fun ha c hc => by rw [List.mem_singleton.mp hc]; exact ha
  have m2 : ∀ {T : Nat → Prop} {a e : Nat}, T a → T e → ∀ c ∈ [a, e], T c := fun ha he c hc => by
    rcases List.mem_cons.mp hc with rfl | hc
    · exact ha
    · rw [List.mem_singleton.mp hc]; exact he
  have all := words_alike (T := fun c => c ∈ S ∧ 0 < gI (firstL b) (ixT [c] b.1)) (l := lvB b.1 l) (m := lvB d.1 m) (R := R.map (lvB b.1)) (S := M.map (lvB d.1))
    (fun a e ha he => small [a] [e] (m1 ha) (m1 he) (.inl ⟨rfl, rfl⟩)) (fun a e c ha he hc => small [a] [e, c] (m1 ha) (m2 he hc) (.inr (.inl ⟨rfl, rfl⟩)))
    (fun a e c f ha he hc hf => small [a, e] [c, f] (m2 ha he) (m2 hc hf) (.inr (.inr ⟨rfl, rfl⟩)))
  intro u v hu hv
  rw [wb, wd, hkk u hu, hkk v hv]
  have kin : ∀ u, Of S u → ∀ c ∈ keptL b u, c ∈ S ∧ 0 < gI (firstL b) (ixT [c] b.1) := fun u hu c hc => by
    rw [kept_eq] at hc
    have := List.mem_filter.mp hc
    exact ⟨hu c this.1, by simpa using this.2⟩
  exact all _ _ (kin u hu) (kin v hv)
end Law
namespace Law
open PySem L2 DL PySem.Spec PyProof.Rows
abbrev U2 : Type := Unit ⊕ (Txt × Txt)
abbrev rAl (CA : Addr) : Rp Unit := rObj (fun _ => CA) [] (fun _ => [])
abbrev rPt (CP : Addr) : Rp (Txt × Txt) := rObj (fun _ => CP) ["one", "other"] (fun o => [.val rTxt o.1, .val rTxt o.2])
abbrev rU (CA CP : Addr) : Rp U2 := rSum (rAl CA) (rPt CP)
structure TAl (K : PySem.W.Frag) (CA CP CAn : Addr) : Prop where
  ciA : ClsI K CA
  ciP : ClsI K CP
  clP : Cls K CP
  n1 : NoAttr K CP "one"
  n2 : NoAttr K CP "other"
  kAA : PySem.W.kitOne K (.ref CA) (.ref CA) = some true
  kAP : PySem.W.kitOne K (.ref CA) (.ref CP) = some false
  kPA : PySem.W.kitOne K (.ref CP) (.ref CA) = some false
  kPP : PySem.W.kitOne K (.ref CP) (.ref CP) = some true
  kAn : PySem.W.kitOne K (.ref CA) (.ref CAn) = some true
  kPn : PySem.W.kitOne K (.ref CP) (.ref CAn) = some true
def cU (CA CP : Addr) : U2 → Addr
  | .inl _ => CA
  | .inr _ => CP
section
variable {K : PySem.W.Frag} {CA CP CAn : Addr}
theorem TAl.ty (T : TAl K CA CP CAn) : ∀ v : U2, TyR K (rU CA CP) v (.ref (cU CA CP v))
  | .inl _ => ty_sumL (ty_obj T.ciA)
  | .inr _ => ty_sumR (ty_obj T.ciP)
theorem TAl.kA (T : TAl K CA CP CAn) : ∀ v : U2, PySem.W.kitOne K (.ref (cU CA CP v)) (.ref CA) = some v.isLeft
  | .inl _ => T.kAA
  | .inr _ => T.kPA
theorem TAl.kP (T : TAl K CA CP CAn) : ∀ v : U2, PySem.W.kitOne K (.ref (cU CA CP v)) (.ref CP) = some v.isRight
  | .inl _ => T.kAP
  | .inr _ => T.kPP
theorem TAl.kN (T : TAl K CA CP CAn) : ∀ v : U2, PySem.W.kitOne K (.ref (cU CA CP v)) (.ref CAn) = some true
  | .inl _ => T.kAn
  | .inr _ => T.kPn
end
/-! all names of so many signs -/
def allStep (s : Txt) (l : List Txt) : List Txt := l.foldl (fun acc n => acc ++ (sgs s).map fun x => n ++ x) []
def allL (s : Txt) (many : Int) : List Txt := (rng 0 many.toNat).foldl (fun l _ => allStep s l) [[]]
def allN (s : Txt) : Nat → List Txt
  | 0 => [[]]
  | n + 1 => allStep s (allN s n)
theorem step_flat (s : Txt) : ∀ (l acc : List Txt), l.foldl (fun acc n => acc ++ (sgs s).map fun x => n ++ x) acc = acc ++ l.flatMap fun n => (sgs s).map fun x => n ++ x
  | [], acc => by simp
  | n :: r, acc => by
    rw [List.foldl_cons, step_flat s r, List.flatMap_cons, List.append_assoc]
theorem all_fold (s : Txt) : ∀ (xs : List Int) (n : Nat), xs.foldl (fun l _ => allStep s l) (allN s n) = allN s (n + xs.length)
  | [], n => rfl
  | x :: r, n => by
    rw [List.foldl_cons]
    show r.foldl _ (allN s (n + 1)) = _
    rw [all_fold s r (n + 1), List.length_cons]
    congr 1; omega
theorem all_pre (s : Txt) (xs : List Int) : xs.foldl (fun l _ => allStep s l) [[]] = allN s xs.length := by
  have := all_fold s xs 0
  rw [Nat.zero_add] at this
  exact this
theorem all_eq (s : Txt) (many : Int) : allL s many = allN s many.toNat := by
  unfold allL
  rw [all_pre, rng_len]
theorem flat_len2 {α β : Type} (f : α → List β) (k : Nat) : ∀ l : List α, (∀ x ∈ l, (f x).length = k) → (l.flatMap f).length = l.length * k
  | [], _ => by simp
  | x :: r, h => by
    rw [List.flatMap_cons, List.length_append, h x (by simp), flat_len2 f k r fun y hy => h y (by simp [hy]), List.length_cons, Nat.add_mul]
    omega
theorem pre_len (s : Txt) (l : List Txt) : (l.foldl (fun acc n => acc ++ (sgs s).map fun x => n ++ x) []).length = l.length * s.length := by
  rw [step_flat, List.nil_append]
  exact flat_len2 _ _ _ fun x _ => by rw [List.length_map, sgs_len]
theorem all_len (s : Txt) : ∀ n : Nat, (allN s n).length = s.length ^ n
  | 0 => rfl
  | n + 1 => by
    show (allStep s (allN s n)).length = _
    unfold allStep
    rw [pre_len, all_len s n, Nat.pow_succ]
theorem all_mem (s : Txt) : ∀ (n : Nat) (x : Txt), x ∈ allN s n ↔ Of s x ∧ x.length = n
  | 0, x => by
    show x ∈ [[]] ↔ _
    rw [List.mem_singleton]
    exact ⟨fun h => by subst h; exact ⟨(fun c hc => by cases hc), rfl⟩, fun h => List.length_eq_zero_iff.mp h.2⟩
  | n + 1, x => by
    show x ∈ allStep s (allN s n) ↔ _
    unfold allStep
    rw [step_flat, List.nil_append, List.mem_flatMap]
    constructor
    · rintro ⟨y, hy, hx⟩
      obtain ⟨z, hz, rfl⟩ := List.mem_map.mp hx
      have q := (all_mem s n y).mp hy
      obtain ⟨c, hc, rfl⟩ := List.mem_map.mp hz
      refine ⟨of_app q.1 fun d hd => by rw [List.mem_singleton.mp hd]; exact hc, ?_⟩
      rw [List.length_append, q.2]; rfl
    · rintro ⟨h1, h2⟩
      obtain ⟨y, c, rfl⟩ : ∃ y c, x = y ++ [c] := by
        have hne : x ≠ [] := fun z => by rw [z] at h2; cases h2
        exact ⟨x.dropLast, x.getLast hne, (List.dropLast_concat_getLast hne).symm⟩
      rw [List.length_append] at h2
      refine ⟨y, (all_mem s n y).mpr ⟨fun d hd => h1 d (by simp [hd]), by simp at h2; omega⟩, ?_⟩
      exact List.mem_map.mpr ⟨[c], List.mem_map.mpr ⟨c, h1 c (by simp), rfl⟩, rfl⟩
theorem all_small {s : Txt} {n : Nat} (hs : s.length ≤ 8) (hn : n ≤ 3) : (allN s n).length ≤ 512 := by
  rw [all_len]
  exact Nat.le_trans (Nat.pow_le_pow_left hs n) (Nat.le_trans (Nat.pow_le_pow_right (by decide) hn) (by decide))
/-! the first that two books part -/
def pr (f d : Bk) (x y : Txt) : Option (Txt × Txt) := if (!decide (weighB f x y = weighB d x y)) = true then some (x, y) else none
def lotsN (f : Bk) : List (List Txt) := (rng 0 4).map fun m => allL f.1 m
def fX (f d : Bk) (ys xs : List Txt) : Option (Txt × Txt) := xs.findSome? fun x => ys.findSome? (pr f d x)
def fT (f d : Bk) (t : Int) (ms : List Int) : Option (Txt × Txt) := ms.findSome? fun m => fX f d (gI (lotsN f) (t - m)) (gI (lotsN f) m)
def firstP (f d : Bk) : Option (Txt × Txt) := ([2, 3, 4].findSome? fun t => fT f d t (rng 1 (t - 1).toNat)).or none
theorem fs_or {α β : Type} (g : α → Option β) (x : α) (r : List α) (K : Option β) : ((x :: r).findSome? g).or K = (g x).or ((r.findSome? g).or K) := by
  rw [List.findSome?_cons]
  cases g x <;> simp
def prT (a b : Txt × List (List Int × Bool)) (x y : Txt) : Option (Txt × Txt) := if (!decide (weighT a.1 a.2 x y = weighT b.1 b.2 x y)) = true then some (x, y) else none
def lotsT (s : Txt) : List (List Txt) := (rng 0 4).map fun m => allL s m
def gX (a b : Txt × List (List Int × Bool)) (ys xs : List Txt) : Option (Txt × Txt) := xs.findSome? fun x => ys.findSome? (prT a b x)
def gP (a b : Txt × List (List Int × Bool)) (ps : List (Int × Int)) : Option (Txt × Txt) := ps.findSome? fun p => gX a b (gI (lotsT a.1) p.2) (gI (lotsT a.1) p.1)
def firstT (a b : Txt × List (List Int × Bool)) : Option (Txt × Txt) := (gP a b [(1, 1), (1, 2), (2, 1), (1, 3), (2, 2), (3, 1)]).or none
def toK (a : Txt × List (List Int × Bool)) : Bk := toB a.1 a.2
theorem first_eq (a b : Txt × List (List Int × Bool)) : firstP (toK a) (toK b) = firstT a b := by
  have e1 : pr (toK a) (toK b) = prT a b := by
    funext x y
    unfold pr prT toK
    rw [weigh_told, weigh_told]
  have e2 : lotsN (toK a) = lotsT a.1 := rfl
  have e3 : fX (toK a) (toK b) = gX a b := by
    funext ys xs
    unfold fX gX
    rw [e1]
  unfold firstP firstT gP fT
  rw [e2, e3]
  have r1 : rng 1 ((2 : Int) - 1).toNat = [1] := rfl
  have r2 : rng 1 ((3 : Int) - 1).toNat = [1, 2] := rfl
  have r3 : rng 1 ((4 : Int) - 1).toNat = [1, 2, 3] := rfl
  simp only [List.findSome?_cons, List.findSome?_nil, r1, r2, r3]
  have k1 : (2 : Int) - 1 = 1 := rfl
  have k2 : (3 : Int) - 1 = 2 := rfl
  have k3 : (3 : Int) - 2 = 1 := rfl
  have k4 : (4 : Int) - 1 = 3 := rfl
  have k5 : (4 : Int) - 2 = 2 := rfl
  have k6 : (4 : Int) - 3 = 1 := rfl
  simp only [k1, k2, k3, k4, k5, k6]
  generalize gX a b (gI (lotsT a.1) 1) (gI (lotsT a.1) 1) = A
  generalize gX a b (gI (lotsT a.1) 2) (gI (lotsT a.1) 1) = B
  generalize gX a b (gI (lotsT a.1) 1) (gI (lotsT a.1) 2) = C
  generalize gX a b (gI (lotsT a.1) 3) (gI (lotsT a.1) 1) = D
  generalize gX a b (gI (lotsT a.1) 2) (gI (lotsT a.1) 2) = E
  generalize gX a b (gI (lotsT a.1) 1) (gI (lotsT a.1) 3) = F
  cases A <;> cases B <;> cases C <;> cases D <;> cases E <;> cases F <;> rfl
theorem lots_at (s : Txt) {i : Int} (h0 : 0 ≤ i) (h1 : i ≤ 3) : gI (lotsT s) i = allN s i.toNat := by
  have : i = 0 ∨ i = 1 ∨ i = 2 ∨ i = 3 := by omega
  rcases this with rfl | rfl | rfl | rfl <;> exact all_eq s _
/-- what is asked of two told books -/
def Two (a b : Txt × List (List Int × Bool)) : Prop := OkBk (toB a.1 a.2) ∧ OkBk (toB b.1 b.2) ∧ ∀ c, c ∈ a.1 → c ∈ b.1
theorem first_some {a b : Txt × List (List Int × Bool)} {p : Txt × Txt} (h : firstT a b = some p) : prT a b p.1 p.2 = some p ∧ (Of a.1 p.1 ∧ 1 ≤ p.1.length ∧ p.1.length ≤ 3) ∧ Of a.1 p.2 ∧ 1 ≤ p.2.length ∧ p.2.length ≤ 3 := by
  unfold firstT gP at h
  rw [Option.or_none] at h
  obtain ⟨q, hq, h⟩ := List.exists_of_findSome?_eq_some h
  unfold gX at h
  obtain ⟨x, hx, h⟩ := List.exists_of_findSome?_eq_some h
  obtain ⟨y, hy, h⟩ := List.exists_of_findSome?_eq_some h
  have hqb : (1 ≤ q.1 ∧ q.1 ≤ 3) ∧ 1 ≤ q.2 ∧ q.2 ≤ 3 := by
    simp only [List.mem_cons, List.not_mem_nil, or_false] at hq
    rcases hq with rfl | rfl | rfl | rfl | rfl | rfl <;> decide
  rw [lots_at _ (by omega) (by omega)] at hx hy
  have mx := (all_mem _ _ _).mp hx
  have my := (all_mem _ _ _).mp hy
  have e : p = (x, y) := by
    unfold prT at h
    split at h
    · exact (Option.some.inj h).symm
    · cases h
  subst e
  exact ⟨h, ⟨mx.1, by rw [mx.2]; omega, by rw [mx.2]; omega⟩, my.1, by rw [my.2]; omega, by rw [my.2]; omega⟩
theorem first_none {a b : Txt × List (List Int × Bool)} (h : firstT a b = none) (h1 : 1 ≤ a.2.length) (h2 : 1 ≤ b.2.length) : ∀ u v : Txt, Of a.1 u → Of a.1 v → weighT a.1 a.2 u v = weighT b.1 b.2 u v := by
  have key : ∀ m k : Int, (m, k) ∈ [(1, 1), (1, 2), (2, 1), (1, 3), (2, 2), (3, 1)] → ∀ x ∈ gI (lotsT a.1) m, ∀ y ∈ gI (lotsT a.1) k, weighT a.1 a.2 x y = weighT b.1 b.2 x y := fun m k hm x hx y hy => by
    unfold firstT gP at h
    rw [Option.or_none] at h
    have z1 := List.findSome?_eq_none_iff.mp h (m, k) hm
    unfold gX at z1
    have z2 := List.findSome?_eq_none_iff.mp z1 x hx
    have z3 := List.findSome?_eq_none_iff.mp z2 y hy
    unfold prT at z3
    split at z3
    · cases z3
    · rename_i q
      simpa using q
  intro u v hu hv
  rw [← weigh_told, ← weigh_told]
  refine books_alike (b := toB a.1 a.2) (d := toB b.1 b.2) (by simpa [toB] using h1) (by simpa [toB] using h2) (S := a.1) (fun u v hu hv hl => ?_) u v hu hv
  rw [weigh_told, weigh_told]
  rcases hl with ⟨l1, l2⟩ | ⟨l1, l2⟩ | ⟨l1, l2⟩
  · exact key 1 1 (by simp) u (by rw [lots_at _ (by decide) (by decide)]; exact (all_mem _ _ _).mpr ⟨hu, l1⟩) v (by rw [lots_at _ (by decide) (by decide)]; exact (all_mem _ _ _).mpr ⟨hv, l2⟩)
  · exact key 1 2 (by simp) u (by rw [lots_at _ (by decide) (by decide)]; exact (all_mem _ _ _).mpr ⟨hu, l1⟩) v (by rw [lots_at _ (by decide) (by decide)]; exact (all_mem _ _ _).mpr ⟨hv, l2⟩)
  · exact key 2 2 (by simp) u (by rw [lots_at _ (by decide) (by decide)]; exact (all_mem _ _ _).mpr ⟨hu, l1⟩) v (by rw [lots_at _ (by decide) (by decide)]; exact (all_mem _ _ _).mpr ⟨hv, l2⟩)
def showsU (v : U2) (f d : Bk) : Bool := match v with
  | .inl _ => decide (firstP f d = none)
  | .inr p => !decide (weighB f p.1 p.2 = weighB d p.1 p.2)
def comparedU (f d : Bk) : U2 := match firstP f d with
  | none => .inl ()
  | some p => .inr p
end Law
namespace Law
open PySem L2 DL PySem.Spec PyProof.Rows
abbrev Tl : Type := List (List Int × Bool)
abbrev Tk : Type := Txt × Tl
def bentT (ls : Tl) (cell : Int) : Tl :=
  let at_ := number cell 6 ls.length
  let z := gI ls at_
  if number cell 5 8 = 0 then ls.map fun x => (x.1.map fun r => if r < 40 then 2 * r else r, x.2)
  else if number cell 5 8 = 1 ∧ (ls.length : Int) < 3 then cutL ls none (some (at_ + 1)) ++ [gI ls at_] ++ cutL ls (some (at_ + 1)) none
  else if number cell 5 8 = 2 ∧ (ls.length : Int) < 3 then ls ++ [(repL (z.1.length : Int) [number cell 7 5], !z.2)]
  else if number cell 5 8 = 3 ∧ 1 < (ls.length : Int) then cutL ls none (some at_) ++ cutL ls (some (at_ + 1)) none
  else if number cell 5 8 = 4 then cutL ls none (some at_) ++ [(z.1, !z.2)] ++ cutL ls (some (at_ + 1)) none
  else if number cell 5 8 = 5 then ls.reverse
  else cutL ls none (some at_) ++ [(setL' z.1 (number cell 8 z.1.length) ((gI z.1 (number cell 8 z.1.length) + 1) % 100), z.2)] ++ cutL ls (some (at_ + 1)) none
def OkTl (n : Nat) (ls : Tl) : Prop := (1 ≤ ls.length ∧ ls.length ≤ 3) ∧ ∀ p ∈ ls, p.1.length = n ∧ ∀ x ∈ p.1, 0 ≤ x ∧ x ≤ 99
theorem okTl_of {s : Txt} {ls : Tl} (h : OkBk (toB s ls)) : OkTl s.length ls := by
  have e : (toB s ls).2.length = ls.length := by simp [toB]
  refine ⟨⟨by have := h.l1; omega, by have := h.l3; omega⟩, fun p hp => ?_⟩
  have q := h.lv (p.2, p.1) (by unfold toB; exact List.mem_map.mpr ⟨p, hp, rfl⟩)
  exact ⟨q.1, within_all.mp q.2⟩
theorem ok_of_tl {s : Txt} {ls : Tl} (ha : Alph s) (h1 : 1 ≤ s.length) (h8 : s.length ≤ 8) (h : OkTl s.length ls) : OkBk (toB s ls) := by
  have e : (toB s ls).2.length = ls.length := by simp [toB]
  refine ⟨ha, h1, h8, by rw [e]; exact h.1.1, by rw [e]; exact h.1.2, fun l hl => ?_⟩
  unfold toB at hl
  obtain ⟨p, hp, rfl⟩ := List.mem_map.mp hl
  have q := h.2 p hp
  exact ⟨q.1, within_all.mpr q.2⟩
theorem cut_some {α : Type} (xs : List α) {n : Int} (h : 0 ≤ n) : cutL xs none (some n) = xs.take n.toNat := by
  unfold cutL HT.sIx
  simp
  have : ¬ n < 0 := by omega
  simp [this]
theorem cut_from {α : Type} (xs : List α) {n : Int} (h : 0 ≤ n) : cutL xs (some n) none = xs.drop n.toNat := by
  unfold cutL HT.sIx
  have : ¬ n < 0 := by omega
  simp only [this, if_false]
  rw [List.take_of_length_le (by rw [List.length_drop]; omega)]
  by_cases q : n.toNat ≤ xs.length
  · congr 1; omega
  · rw [List.drop_eq_nil_of_le (by omega), List.drop_eq_nil_of_le (by omega)]
theorem cut_two {α : Type} {xs : List α} {n : Int} (h : 0 ≤ n) (hl : n < xs.length) : (cutL xs none (some n)).length = n.toNat ∧ (cutL xs (some (n + 1)) none).length = xs.length - n.toNat - 1 ∧ (cutL xs none (some (n + 1))).length = n.toNat + 1 := by
  rw [cut_some _ h, cut_from _ (by omega), cut_some _ (by omega), List.length_take, List.length_drop, List.length_take]
  omega
theorem set_mem {α : Type} {xs : List α} {i : Int} {y z : α} (h : z ∈ setL' xs i y) : z = y ∨ z ∈ xs := by
  unfold setL' at h
  split at h
  · rcases List.mem_or_eq_of_mem_set h with q | q
    · exact .inr q
    · exact .inl q
  · exact .inr h
theorem set_ln {α : Type} (xs : List α) (i : Int) (y : α) : (setL' xs i y).length = xs.length := by
  unfold setL'
  split
  · rw [List.length_set]
  · rfl
theorem repL_mem {n : Int} {x z : Int} (h : z ∈ repL n [x]) : z = x := by
  unfold repL at h
  obtain ⟨l, hl, hz⟩ := List.mem_flatten.mp h
  rw [(List.mem_replicate.mp hl).2] at hz
  exact List.mem_singleton.mp hz
theorem repL_ln {α : Type} (n : Int) (x : α) : (repL n [x]).length = n.toNat := by
  unfold repL
  generalize n.toNat = k
  induction k with
  | zero => rfl
  | succ k ih => rw [List.replicate_succ, List.flatten_cons, List.length_append, ih]; simp; omega
theorem bent_ok {n : Nat} {ls : Tl} {cell : Int} (hn : 1 ≤ n) (h : OkTl n ls) : OkTl n (bentT ls cell) := by
  obtain ⟨⟨h1, h3⟩, hp⟩ := h
  have q6 := number_in cell 6 (limit := (ls.length : Int)) (by omega)
  have hz := hp _ (gI_mem q6.1 q6.2)
  have q8 := number_in cell 8 (limit := ((gI ls (number cell 6 ls.length)).1.length : Int)) (by omega)
  have q7 := number_in cell 7 (limit := 5) (by decide)
  have c2 := cut_two q6.1 q6.2
  have inl : ∀ {l h : Option Int} {p}, p ∈ cutL ls l h → p.1.length = n ∧ ∀ x ∈ p.1, 0 ≤ x ∧ x ≤ 99 := fun hm => hp _ (mem_cut hm)
  unfold bentT
  split
  · refine ⟨by simp; exact ⟨h1, h3⟩, fun p hq => ?_⟩
    obtain ⟨x, hx, rfl⟩ := List.mem_map.mp hq
    have q := hp x hx
    refine ⟨by simpa using q.1, fun y hy => ?_⟩
    obtain ⟨r, hr, rfl⟩ := List.mem_map.mp hy
    have := q.2 r hr
    split <;> omega
  split
  · rename_i q
    refine ⟨by simp only [List.length_append, List.length_singleton, c2.2.1, c2.2.2]; omega, fun p hq => ?_⟩
    rcases List.mem_append.mp hq with hq | hq
    · rcases List.mem_append.mp hq with hq | hq
      · exact inl hq
      · rw [List.mem_singleton.mp hq]; exact hz
    · exact inl hq
  split
  · rename_i q
    refine ⟨by simp only [List.length_append, List.length_singleton]; omega, fun p hq => ?_⟩
    rcases List.mem_append.mp hq with hq | hq
    · exact hp p hq
    · rw [List.mem_singleton.mp hq]
      refine ⟨by rw [repL_ln]; have := hz.1; omega, fun x hx => ?_⟩
      rw [repL_mem hx]; omega
  split
  · rename_i q
    refine ⟨by simp only [List.length_append, c2.1, c2.2.1]; omega, fun p hq => ?_⟩
    rcases List.mem_append.mp hq with hq | hq <;> exact inl hq
  split
  · refine ⟨by simp only [List.length_append, List.length_singleton, c2.1, c2.2.1]; omega, fun p hq => ?_⟩
    rcases List.mem_append.mp hq with hq | hq
    · rcases List.mem_append.mp hq with hq | hq
      · exact inl hq
      · rw [List.mem_singleton.mp hq]; exact hz
    · exact inl hq
  split
  · refine ⟨by simp; exact ⟨h1, h3⟩, fun p hq => hp p (List.mem_reverse.mp hq)⟩
  · refine ⟨by simp only [List.length_append, List.length_singleton, c2.1, c2.2.1]; omega, fun p hq => ?_⟩
    rcases List.mem_append.mp hq with hq | hq
    · rcases List.mem_append.mp hq with hq | hq
      · exact inl hq
      · rw [List.mem_singleton.mp hq]
        refine ⟨by show (setL' _ _ _).length = n; rw [set_ln]; exact hz.1, fun x hx => ?_⟩
        rcases set_mem hx with z | z
        · rw [z]; omega
        · exact hz.2 x z
    · exact inl hq
def rotL {α : Type} (xs : List α) (b : Int) : List α := cutL xs (some b) none ++ cutL xs none (some b)
def movedT (t : Tk) (by_ : Int) : Tk := (rotL t.1 (by_ % t.1.length), t.2.map fun p => (rotL p.1 (by_ % t.1.length), p.2))
theorem rot_perm {α : Type} (xs : List α) {b : Int} (h : 0 ≤ b) : (rotL xs b).Perm xs := by
  unfold rotL
  rw [cut_some _ h, cut_from _ h]
  have := List.perm_append_comm (l₁ := xs.drop b.toNat) (l₂ := xs.take b.toNat)
  rwa [List.take_append_drop] at this
theorem alph_perm {s t : Txt} (h : t.Perm s) (a : Alph s) : Alph t := ⟨h.nodup_iff.mpr a.nd, fun c hc => a.sub c (h.mem_iff.mp hc)⟩
theorem moved_ok {t : Tk} {by_ : Int} (ha : Alph t.1) (h1 : 1 ≤ t.1.length) (h8 : t.1.length ≤ 8) (h : OkTl t.1.length t.2) : OkBk (toK (movedT t by_)) ∧ (movedT t by_).1.Perm t.1 := by
  have hb : 0 ≤ by_ % (t.1.length : Int) := Int.emod_nonneg _ (by omega)
  have p := rot_perm t.1 hb
  have hl := p.length_eq
  refine ⟨ok_of_tl (alph_perm p ha) (by show 1 ≤ (rotL t.1 _).length; omega) (by show (rotL t.1 _).length ≤ 8; omega) ⟨by show 1 ≤ (t.2.map _).length ∧ (t.2.map _).length ≤ 3; rw [List.length_map]; exact h.1, fun q hq => ?_⟩, p⟩
  obtain ⟨x, hx, rfl⟩ := List.mem_map.mp hq
  have z := h.2 x hx
  have px := rot_perm x.1 hb
  exact ⟨by show (rotL x.1 _).length = (rotL t.1 _).length; rw [px.length_eq, hl]; exact z.1, fun y hy => z.2 y (px.mem_iff.mp hy)⟩
end Law
namespace Law
open PySem L2 DL PySem.Spec PyProof.Rows
abbrev Sd : Type := List (Txt × Txt)
abbrev Ld : Type := Nat × List Txt
def tLeads : Txt := [108, 101, 97, 100, 115]
def tLacks : Txt := [108, 97, 99, 107, 115]
def tRound : Txt := [114, 111, 117, 110, 100]
def wordL (k : Nat) : Txt := if k = 0 then tLeads else if k = 1 then tLacks else tRound
def kindL (w : Txt) : Nat := if w = tLeads then 0 else if w = tLacks then 1 else 2
def ldC (C0 C1 C2 : Addr) (o : Ld) : Addr := if o.1 = 0 then C0 else if o.1 = 1 then C1 else C2
abbrev rLd (C0 C1 C2 : Addr) : Rp Ld := rObj (ldC C0 C1 C2) ["names"] (fun o => [.val (rList rTxt) o.2])
abbrev oLd (C0 C1 C2 : Addr) : Own Ld := oIns (ldC C0 C1 C2) ["names"] (fun o => [.own (oList rTxt) o.2])
theorem clC_ld {a : List Txt} : ClC [.own (oList rTxt) a] := .cons (cl_list sc_txt) .nil
theorem frzN_ld {C0 C1 C2 : Addr} : FrzN (oLd C0 C1 C2) (rLd C0 C1 C2) := frzN_ins fun a => .cons (frzN_list sc_txt) .nil
theorem cl_ld {C0 C1 C2 : Addr} : Cl (oLd C0 C1 C2) := cl_ins fun a => clC_ld
structure TLd (K : PySem.W.Frag) (C0 C1 C2 CAn : Addr) : Prop where
  ci : ∀ o, ClsI K (ldC C0 C1 C2 o)
  cl : ∀ o, Cls K (ldC C0 C1 C2 o)
  na : ∀ o, NoAttr K (ldC C0 C1 C2 o) "names"
  k0 : ∀ o : Ld, PySem.W.kitOne K (.ref (ldC C0 C1 C2 o)) (.ref C0) = some (decide (o.1 = 0))
  k1 : ∀ o : Ld, PySem.W.kitOne K (.ref (ldC C0 C1 C2 o)) (.ref C1) = some (decide (o.1 = 1))
  k2 : ∀ o : Ld, PySem.W.kitOne K (.ref (ldC C0 C1 C2 o)) (.ref C2) = some (!decide (o.1 = 0) && !decide (o.1 = 1))
  kA : ∀ o : Ld, PySem.W.kitOne K (.ref (ldC C0 C1 C2 o)) (.ref CAn) = some true
theorem ld_all {C0 C1 C2 : Addr} {φ : Ld → Addr → Prop} (h0 : ∀ o : Ld, o.1 = 0 → φ o C0) (h1 : ∀ o : Ld, o.1 = 1 → φ o C1) (h2 : ∀ o : Ld, ¬ o.1 = 0 → ¬ o.1 = 1 → φ o C2) (o : Ld) : φ o (ldC C0 C1 C2 o) := by
  unfold ldC
  by_cases e : o.1 = 0
  · rw [if_pos e]; exact h0 o e
  · rw [if_neg e]
    by_cases e1 : o.1 = 1
    · rw [if_pos e1]; exact h1 o e1
    · rw [if_neg e1]; exact h2 o e e1
/-! the walk -/
def cameGo (cards : List Txt) (sends : Sd) : Nat → List Txt → List Txt × Txt
  | 0, f => (f, tLacks)
  | n + 1, f => if gI f (-1) ∈ cards then (f, tLeads) else match atD sends (gI f (-1)) with
    | none => (f, tLacks)
    | some t => if t ∈ f then (f ++ [t], tRound) else cameGo cards sends n (f ++ [t])
def cameL (cards : List Txt) (sends : Sd) (name : Txt) : List Txt × Txt := cameGo cards sends (sends.length + 2) [name]
structure CaI (cards : List Txt) (sends : Sd) (name : Txt) (f : List Txt) : Prop where
  ne : 1 ≤ f.length
  nd : f.Nodup
  ks : ∀ x ∈ f.dropLast, x ∈ sends.map (·.1)
  eq : cameGo cards sends (sends.length + 2 - (f.length - 1)) f = cameL cards sends name
theorem last_snoc {α : Type} [Inhabited α] (xs : List α) (x : α) : gI (xs ++ [x]) (-1) = x := by
  unfold gI atI ixN
  rw [if_neg (by decide), List.length_append, List.length_singleton, if_pos (by omega)]
  have : ((-1 : Int) + ((xs.length + 1 : Nat) : Int)).toNat = xs.length := by omega
  simp only [this]
  simp
theorem drop_last {α : Type} [Inhabited α] {xs : List α} (h : 1 ≤ xs.length) : xs = xs.dropLast ++ [gI xs (-1)] := by
  have hne : xs ≠ [] := fun z => by rw [z] at h; simp at h
  have e := List.dropLast_concat_getLast hne
  have : gI xs (-1) = xs.getLast hne := by
    conv => lhs; rw [← e]
    exact last_snoc _ _
  rw [this]; exact e.symm
variable {cards : List Txt} {sends : Sd} {name : Txt} {f : List Txt}
theorem CaI.len (h : CaI cards sends name f) : f.length - 1 ≤ sends.length := by
  have := nodup_sub f.dropLast (sends.map (·.1)) (h.nd.sublist (List.dropLast_sublist f)) h.ks
  rw [List.length_dropLast, List.length_map] at this
  exact this
theorem ca_start (cards : List Txt) (sends : Sd) (name : Txt) : CaI cards sends name [name] := ⟨Nat.le_refl 1, by simp, (fun x hx => by cases hx), rfl⟩
theorem CaI.fuel (h : CaI cards sends name f) : ∃ n, sends.length + 2 - (f.length - 1) = n + 1 := ⟨sends.length + 1 - (f.length - 1), by have := h.len; omega⟩
theorem CaI.card (h : CaI cards sends name f) (hc : gI f (-1) ∈ cards) : cameL cards sends name = (f, tLeads) := by
  obtain ⟨n, e⟩ := h.fuel
  rw [← h.eq, e]
  unfold cameGo
  rw [if_pos hc]
theorem CaI.lack (h : CaI cards sends name f) (hc : gI f (-1) ∉ cards) (ha : (atD sends (gI f (-1))).isSome = false) : cameL cards sends name = (f, tLacks) := by
  obtain ⟨n, e⟩ := h.fuel
  rw [← h.eq, e]
  unfold cameGo
  rw [if_neg hc]
  cases q : atD sends (gI f (-1)) with
  | none => rfl
  | some t => rw [q] at ha; cases ha
theorem CaI.round (h : CaI cards sends name f) (hc : gI f (-1) ∉ cards) (ha : (atD sends (gI f (-1))).isSome = true) (ht : gO (atD sends (gI f (-1))) ∈ f) : cameL cards sends name = (f ++ [gO (atD sends (gI f (-1)))], tRound) := by
  obtain ⟨n, e⟩ := h.fuel
  rw [← h.eq, e]
  unfold cameGo
  rw [if_neg hc]
  cases q : atD sends (gI f (-1)) with
  | none => rw [q] at ha; cases ha
  | some t =>
    rw [q] at ht
    have ht : t ∈ f := ht
    show (if t ∈ f then _ else _) = _
    rw [if_pos ht]; rfl
theorem CaI.next (h : CaI cards sends name f) (hc : gI f (-1) ∉ cards) (ha : (atD sends (gI f (-1))).isSome = true) (ht : gO (atD sends (gI f (-1))) ∉ f) : CaI cards sends name (f ++ [gO (atD sends (gI f (-1)))]) ∧ f.length ≤ sends.length := by
  cases q : atD sends (gI f (-1)) with
  | none => rw [q] at ha; cases ha
  | some t =>
    rw [q] at ht
    show CaI cards sends name (f ++ [t]) ∧ _
    have ht : t ∉ f := ht
    have hk : ∀ x ∈ f, x ∈ sends.map (·.1) := fun x hx => by
      have e := drop_last h.ne
      rw [e] at hx
      rcases List.mem_append.mp hx with z | z
      · exact h.ks x z
      · rw [List.mem_singleton.mp z]
        exact List.mem_map.mpr ⟨_, atD_mem q, rfl⟩
    have hl : f.length ≤ sends.length := by
      have := nodup_sub f (sends.map (·.1)) h.nd hk
      rwa [List.length_map] at this
    refine ⟨⟨by rw [List.length_append]; simp, ?_, fun x hx => ?_, ?_⟩, hl⟩
    · rw [List.nodup_append]
      refine ⟨h.nd, by simp, fun a ha b hb z => ?_⟩
      rw [List.mem_singleton.mp hb] at z
      exact ht (z ▸ ha)
    · rw [List.dropLast_concat] at hx
      exact hk x hx
    · obtain ⟨n, e⟩ := h.fuel
      have h2 := h.eq
      rw [e] at h2
      unfold cameGo at h2
      rw [if_neg hc, q] at h2
      have h3 : (if t ∈ f then (f ++ [t], tRound) else cameGo cards sends n (f ++ [t])) = cameL cards sends name := h2
      rw [if_neg ht] at h3
      rw [← h3]
      congr 1
      rw [List.length_append, List.length_singleton]
      have := h.ne
      omega
theorem came_word (cards : List Txt) (sends : Sd) (name : Txt) : (cameL cards sends name).2 = tLeads ∨ (cameL cards sends name).2 = tLacks ∨ (cameL cards sends name).2 = tRound := by
  have : ∀ (n : Nat) (f : List Txt), (cameGo cards sends n f).2 = tLeads ∨ (cameGo cards sends n f).2 = tLacks ∨ (cameGo cards sends n f).2 = tRound := fun n => by
    induction n with
    | zero => exact fun f => .inr (.inl rfl)
    | succ n ih =>
      intro f
      unfold cameGo
      split
      · exact .inl rfl
      · split
        · exact .inr (.inl rfl)
        · split
          · exact .inr (.inr rfl)
          · exact ih _
  exact this _ _
theorem word_kind {w : Txt} (h : w = tLeads ∨ w = tLacks ∨ w = tRound) : wordL (kindL w) = w := by
  rcases h with rfl | rfl | rfl <;> decide
/-- the length of what is come to -/
theorem came_len (cards : List Txt) (sends : Sd) (name : Txt) : (cameL cards sends name).1.length ≤ sends.length + 3 := by
  have : ∀ (n : Nat) (f : List Txt), (cameGo cards sends n f).1.length ≤ f.length + n := fun n => by
    induction n with
    | zero => exact fun f => Nat.le_refl _
    | succ n ih =>
      intro f
      unfold cameGo
      split
      · show f.length ≤ _; omega
      · split
        · show f.length ≤ _; omega
        · split
          · show (f ++ [_]).length ≤ _; rw [List.length_append, List.length_singleton]; omega
          · have := ih (f ++ [‹Txt›]); rw [List.length_append, List.length_singleton] at this; omega
  have h := this (sends.length + 2) [name]
  unfold cameL
  simp at h; omega
/-- the law's look at the pairs -/
def thereL (sends : Sd) (k : Txt) : List Txt := (sends.filter fun x => decide (x.1 = k)).map (·.2)
theorem there_eq (k : Txt) : ∀ sends : Sd, atD sends k = (thereL sends k).head?
  | [] => rfl
  | kv :: r => by
    unfold atD thereL
    by_cases e : kv.1 = k
    · rw [List.find?_cons_of_pos (by simpa using e), List.filter_cons_of_pos (by simpa using e)]; rfl
    · rw [List.find?_cons_of_neg (by simpa using e), List.filter_cons_of_neg (by simpa using e)]
      exact there_eq k r
theorem there_nil {k : Txt} (h : thereL sends k = []) : (atD sends k).isSome = false := by rw [there_eq, h]; rfl
theorem there_some {k : Txt} (h : ¬ thereL sends k = []) : (atD sends k).isSome = true ∧ gI (thereL sends k) 0 = gO (atD sends k) ∧ 0 < (thereL sends k).length := by
  rw [there_eq]
  cases q : thereL sends k with
  | nil => exact absurd q h
  | cons a r =>
    refine ⟨rfl, ?_, by simp⟩
    rw [gI_nat (by decide)]; rfl
/-! houses -/
structure OkH (cards : List Txt) (sends : Sd) : Prop where
  c : ∀ x ∈ cards, isNameL x allS = true
  cl : cards.length ≤ 40
  cn : cards.Nodup
  s : ∀ p ∈ sends, isNameL p.1 allS = true ∧ isNameL p.2 allS = true
  sl : sends.length ≤ 40
  sn : (sends.map (·.1)).Nodup
  sc : ∀ p ∈ sends, p.1 ∉ cards
def ledL (cards : List Txt) (sends : Sd) (name : Txt) : Ld := (kindL (cameL cards sends name).2, (cameL cards sends name).1)
def showsLd (o : Ld) (cards : List Txt) (sends : Sd) (name : Txt) : Bool := decide (cameL cards sends name = (o.2, wordL o.1))
def lostL (cards : List Txt) (sends : Sd) : List Txt := (sends.filter fun p => !decide ((cameL cards sends p.1).2 = tLeads)).map (·.1)
theorem led_pair (cards : List Txt) (sends : Sd) (name : Txt) : ((ledL cards sends name).2, wordL (ledL cards sends name).1) = cameL cards sends name := by
  unfold ledL
  rw [word_kind (came_word cards sends name)]
theorem shows_led (cards : List Txt) (sends : Sd) (name : Txt) (c' : List Txt) (s' : Sd) (n' : Txt) : showsLd (ledL cards sends name) c' s' n' = decide (cameL c' s' n' = cameL cards sends name) := by
  unfold showsLd
  rw [led_pair]
theorem shows_more (cards : List Txt) (sends : Sd) (name x : Txt) : showsLd ((ledL cards sends name).1, (ledL cards sends name).2 ++ [x]) cards sends name = false := by
  unfold showsLd
  refine decide_eq_false fun z => ?_
  have := congrArg (fun p : List Txt × Txt => p.1.length) z
  simp [ledL] at this
/-! the law's houses -/
def names12 : List Txt := [[97], [98], [115, 101, 101], [115, 109, 105, 116, 104], [111, 39, 110, 101, 105, 108], [109, 97, 99, 45, 97], [115, 116, 32, 97], [122, 122], [115, 109, 121, 116, 104, 101], [97, 98, 99], [120, 32, 121], [108, 101, 101]]
def drawnL (cell k : Int) : Txt := gI names12 (number cell k 12)
theorem drawn_in (cell k : Int) : drawnL cell k ∈ names12 := by
  have q := number_in cell k (limit := 12) (by decide)
  exact gI_mem q.1 (by show number cell k 12 < 12; exact q.2)
theorem names12_ok : ∀ x ∈ names12, isNameL x allS = true := by decide +kernel
def cardStep (script : List Int) (by_ : Int) (s : List Txt) (k : Int) : List Txt := if (!decide (drawnL (cellAt script (by_ + k)) (k + 2) ∈ s)) = true then s ++ [drawnL (cellAt script (by_ + k)) (k + 2)] else s
def sendStep (script : List Int) (by_ : Int) (cards : List Txt) (s : Sd) (k : Int) : Sd :=
  if ((!decide (drawnL (cellAt script (by_ + k + 1) + 31 * k) (k + 3) ∈ cards)) && !decide (drawnL (cellAt script (by_ + k + 1) + 31 * k) (k + 3) ∈ s.map fun p => p.1)) = true then s ++ [(drawnL (cellAt script (by_ + k + 1) + 31 * k) (k + 3), drawnL (cellAt script (by_ + k + 1) + 31 * k) (k + 4))] else s
def cardsL (script : List Int) (by_ : Int) : List Txt := (rng 0 (number (cellAt script by_) 1 7).toNat).foldl (cardStep script by_) []
def houseL (script : List Int) (by_ : Int) : List Txt × Sd := (cardsL script by_, (rng 0 (number (cellAt script by_) 2 12).toNat).foldl (sendStep script by_ (cardsL script by_)) [])
def OkC (s : List Txt) : Prop := s.Nodup ∧ ∀ x ∈ s, x ∈ names12
theorem card_step {script : List Int} {by_ k : Int} {s : List Txt} (h : OkC s) : OkC (cardStep script by_ s k) ∧ (cardStep script by_ s k).length ≤ s.length + 1 := by
  unfold cardStep
  split
  · rename_i q
    have q : drawnL (cellAt script (by_ + k)) (k + 2) ∉ s := by simpa using q
    refine ⟨⟨?_, fun x hx => ?_⟩, by rw [List.length_append]; simp⟩
    · rw [List.nodup_append]
      refine ⟨h.1, by simp, fun a ha b hb z => ?_⟩
      rw [List.mem_singleton.mp hb] at z
      exact q (z ▸ ha)
    · rcases List.mem_append.mp hx with z | z
      · exact h.2 x z
      · rw [List.mem_singleton.mp z]; exact drawn_in _ _
  · exact ⟨h, by omega⟩
theorem card_fold {script : List Int} {by_ : Int} : ∀ (ks : List Int) {s : List Txt}, OkC s → OkC (ks.foldl (cardStep script by_) s) ∧ (ks.foldl (cardStep script by_) s).length ≤ s.length + ks.length
  | [], s, h => ⟨h, by simp⟩
  | k :: ks, s, h => by
    have h1 := card_step (script := script) (by_ := by_) (k := k) h
    have h2 := card_fold (script := script) (by_ := by_) ks h1.1
    exact ⟨h2.1, by rw [List.foldl_cons, List.length_cons]; have := h2.2; omega⟩
def OkS (cards : List Txt) (s : Sd) : Prop := (s.map (·.1)).Nodup ∧ (∀ p ∈ s, p.1 ∈ names12 ∧ p.2 ∈ names12) ∧ ∀ p ∈ s, p.1 ∉ cards
theorem send_step {script : List Int} {by_ k : Int} {s : Sd} (h : OkS cards s) : OkS cards (sendStep script by_ cards s k) ∧ (sendStep script by_ cards s k).length ≤ s.length + 1 := by
  unfold sendStep
  split
  · rename_i q
    rw [Bool.and_eq_true] at q
    have q1 : drawnL (cellAt script (by_ + k + 1) + 31 * k) (k + 3) ∉ cards := by simpa using q.1
    have q2 : drawnL (cellAt script (by_ + k + 1) + 31 * k) (k + 3) ∉ s.map (·.1) := by have := q.2; rw [Bool.not_eq_true', decide_eq_false_iff_not] at this; exact this
    refine ⟨⟨?_, fun p hp => ?_, fun p hp => ?_⟩, by rw [List.length_append]; simp⟩
    · rw [List.map_append, List.nodup_append]
      refine ⟨h.1, by simp, fun a ha b hb z => ?_⟩
      have hb' : b = drawnL (cellAt script (by_ + k + 1) + 31 * k) (k + 3) := List.mem_singleton.mp hb
      rw [z, hb'] at ha
      exact q2 ha
    · rcases List.mem_append.mp hp with z | z
      · exact h.2.1 p z
      · rw [List.mem_singleton.mp z]; exact ⟨drawn_in _ _, drawn_in _ _⟩
    · rcases List.mem_append.mp hp with z | z
      · exact h.2.2 p z
      · rw [List.mem_singleton.mp z]; exact q1
  · exact ⟨h, by omega⟩
theorem send_fold {script : List Int} {by_ : Int} : ∀ (ks : List Int) {s : Sd}, OkS cards s → OkS cards (ks.foldl (sendStep script by_ cards) s) ∧ (ks.foldl (sendStep script by_ cards) s).length ≤ s.length + ks.length
  | [], s, h => ⟨h, by simp⟩
  | k :: ks, s, h => by
    have h1 := send_step (script := script) (by_ := by_) (k := k) h
    have h2 := send_fold (script := script) (by_ := by_) ks h1.1
    exact ⟨h2.1, by rw [List.foldl_cons, List.length_cons]; have := h2.2; omega⟩
theorem cards_ok (script : List Int) (by_ : Int) : OkC (cardsL script by_) ∧ (cardsL script by_).length ≤ 7 := by
  have q := number_in (cellAt script by_) 1 (limit := 7) (by decide)
  have h := card_fold (script := script) (by_ := by_) (rng 0 (number (cellAt script by_) 1 7).toNat) (s := []) ⟨by simp, (fun x hx => by cases hx)⟩
  refine ⟨h.1, ?_⟩
  have := h.2
  rw [rng_len] at this
  unfold cardsL
  simp at this; omega
theorem house_ok (script : List Int) (by_ : Int) : OkH (houseL script by_).1 (houseL script by_).2 ∧ (houseL script by_).2.length ≤ 12 := by
  have hc := cards_ok script by_
  have q := number_in (cellAt script by_) 2 (limit := 12) (by decide)
  have h := send_fold (script := script) (by_ := by_) (cards := cardsL script by_) (rng 0 (number (cellAt script by_) 2 12).toNat) (s := []) ⟨by simp, (fun x hx => by cases hx), fun x hx => by cases hx⟩
  have hl := h.2
  rw [rng_len] at hl
  have hl2 : (houseL script by_).2.length ≤ 12 := by unfold houseL; simp at hl ⊢; omega
  exact ⟨⟨fun x hx => names12_ok x (hc.1.2 x hx), by show (cardsL script by_).length ≤ 40; omega, hc.1.1, fun p hp => ⟨names12_ok _ (h.1.2.1 p hp).1, names12_ok _ (h.1.2.1 p hp).2⟩, by omega, h.1.1, h.1.2.2⟩, hl2⟩
/-! a long row, in another turn -/
theorem atD_iff {k t : Txt} : ∀ {s : Sd}, (s.map (·.1)).Nodup → (atD s k = some t ↔ (k, t) ∈ s)
  | [], _ => by
    show (none = some t) ↔ _
    simp
  | kv :: r, hn => by
    have hn' := List.nodup_cons.mp hn
    have ih := atD_iff (k := k) (t := t) hn'.2
    by_cases e : kv.1 = k
    · have : atD (kv :: r) k = some kv.2 := by unfold atD; rw [List.find?_cons_of_pos (by simpa using e)]; rfl
      rw [this]
      constructor
      · intro z
        have z := Option.some.inj z
        rw [← e, ← z]; simp
      · intro z
        rcases List.mem_cons.mp z with z | z
        · rw [← z]
        · exact absurd (List.mem_map.mpr ⟨_, z, e.symm⟩ : kv.1 ∈ r.map (·.1)) hn'.1
    · have : atD (kv :: r) k = atD r k := by unfold atD; rw [List.find?_cons_of_neg (by simpa using e)]
      rw [this, ih]
      constructor
      · exact fun z => List.mem_cons_of_mem _ z
      · intro z
        rcases List.mem_cons.mp z with z | z
        · exact absurd (by rw [← z]) e
        · exact z
theorem atD_perm {s s' : Sd} (p : s.Perm s') (hn : (s.map (·.1)).Nodup) (k : Txt) : atD s k = atD s' k := by
  have hn' : (s'.map (·.1)).Nodup := (p.map _).nodup_iff.mp hn
  apply Option.ext
  intro t
  rw [atD_iff hn, atD_iff hn']
  exact p.mem_iff
theorem came_perm {s s' : Sd} (p : s.Perm s') (hn : (s.map (·.1)).Nodup) (cards : List Txt) (name : Txt) : cameL cards s name = cameL cards s' name := by
  have : ∀ (n : Nat) (f : List Txt), cameGo cards s n f = cameGo cards s' n f := fun n => by
    induction n with
    | zero => exact fun f => rfl
    | succ n ih =>
      intro f
      unfold cameGo
      rw [atD_perm p hn]
      split
      · rfl
      · split
        · rfl
        · split
          · rfl
          · exact ih _
  unfold cameL
  rw [this, p.length_eq]
theorem okH_perm {cards : List Txt} {s s' : Sd} (p : s.Perm s') (h : OkH cards s) : OkH cards s' :=
  ⟨h.c, h.cl, h.cn, fun q hq => h.s q (p.mem_iff.mpr hq), by rw [← p.length_eq]; exact h.sl, (p.map _).nodup_iff.mp h.sn, fun q hq => h.sc q (p.mem_iff.mpr hq)⟩
def namesN : List Txt := (rng 0 41).map fun k => repL (1 + k / 8) [97 + (k % 8).toNat]
def sends0 : Sd := (rng 0 40).map fun k => (gI namesN k, gI namesN (k + 1))
def ringG (p : Txt × Txt) : Txt × Txt := (p.1, if p.2 = gI namesN 40 then gI namesN 20 else p.2)
theorem okH_0 : OkH (cutL namesN (some 40) none) sends0 := ⟨by decide +kernel, by decide +kernel, by decide +kernel, by decide +kernel, by decide +kernel, by decide +kernel, by decide +kernel⟩
theorem okH_z : OkH [[122]] sends0 := ⟨by decide +kernel, by decide +kernel, by decide +kernel, by decide +kernel, by decide +kernel, by decide +kernel, by decide +kernel⟩
theorem okH_r : OkH [] (sends0.map ringG) := ⟨by decide +kernel, by decide +kernel, by decide +kernel, by decide +kernel, by decide +kernel, by decide +kernel, by decide +kernel⟩
theorem long_1 : cameL (cutL namesN (some 40) none) sends0 (gI namesN 0) = (namesN, tLeads) := by decide +kernel
theorem long_2 : ∀ p ∈ sends0, (cameL (cutL namesN (some 40) none) sends0 p.1).2 = tLeads := by decide +kernel
theorem long_3 : ∀ p ∈ sends0, ¬ (cameL [[122]] sends0 p.1).2 = tLeads := by decide +kernel
theorem long_4 : (cameL [[122]] sends0 (gI namesN 9)).2 = tLacks := by decide +kernel
theorem long_5 : cameL [] (sends0.map ringG) (gI namesN 3) = (cutL namesN (some 3) (some 40) ++ [gI namesN 20], tRound) := by decide +kernel
theorem lost_none {cards : List Txt} {s : Sd} (p : sends0.Perm s) (hn : (sends0.map (·.1)).Nodup) (h : ∀ p ∈ sends0, (cameL cards sends0 p.1).2 = tLeads) : lostL cards s = [] := by
  unfold lostL
  rw [List.map_eq_nil_iff, List.filter_eq_nil_iff]
  intro q hq
  rw [← came_perm p hn, h q (p.mem_iff.mpr hq)]
  simp
theorem lost_all {cards : List Txt} {s : Sd} (p : sends0.Perm s) (hn : (sends0.map (·.1)).Nodup) (h : ∀ p ∈ sends0, ¬ (cameL cards sends0 p.1).2 = tLeads) : lostL cards s = s.map (·.1) := by
  unfold lostL
  rw [List.filter_eq_self.mpr]
  intro q hq
  rw [← came_perm p hn]
  simp [h q (p.mem_iff.mpr hq)]
theorem cut_snoc {α : Type} (xs : List α) (x : α) : cutL (xs ++ [x]) none (some (-1)) = xs := by
  unfold cutL HT.sIx
  have : ((-1 : Int) + ((xs.length : Int) + 1)).toNat = xs.length := by omega
  simp [this]

theorem cut_lenle {α : Type} (xs : List α) (l h : Option Int) : (cutL xs l h).length ≤ xs.length := by
  unfold cutL
  rw [List.length_take, List.length_drop]; omega
end Law
namespace Law
open PySem L2 DL PySem.Spec PyProof.Rows
def top (i : Nat) : Stmt := PySem.Challenge.pw_filedcards_k08_whole_sent_on.main.body.getD i (.Pass ⟨0, 0, 0, 0⟩)
section
variable {P : Program} {w : World} {K : PySem.W.Frag} {mg : Str → Option Value} {base : Heap}
abbrev s_is_name : Stmt := top 4
theorem sc_s_is_name : FnScope ["thing", "signs", "sign"] ["thing", "signs"] (defScope s_is_name) := ⟨rfl, rfl, rfl, by decide +kernel, rfl, by decide +kernel, by decide +kernel⟩
abbrev P_is_name (P : Program) (w : World) (K : PySem.W.Frag) (mg : Str → Option Value) (base : Heap) : Prop := FN P w K mg base CX0 1 "is_name" ["thing", "signs"] (SpF2 rTxt rTxt (fun n _ => n.length ≤ 1000) rBool (isNameL))
set_option maxHeartbeats 4000000 in
theorem ok_is_name (b_all : mg "all" = none) (b_isinstance : mg "isinstance" = none) (b_len : mg "len" = none) (b_str : mg "str" = none) (m_LONGEST : ∃ t, mg "LONGEST" = some (.int 20 t)) (T : FT K mg "is_name" "is_name" s_is_name ["thing", "signs"]) : P_is_name P w K mg base :=
  fnF2 T sc_s_is_name (vs := [0, 1]) (by decide +kernel) [.un] (body := fun X B D v_thing v_signs c hp hD hn =>
  (sd_retC hD (de_and (c_isi (T' := "str") (b := true) c (c_var c 0 (.z)) ty_txt (kit_ty (by decide +kernel)) b_isinstance b_str) (fun h1 => (de_and ((dc_leLe de_int (c_lenS c (c_var c 0 (.z)) b_len (by /- 0 -/ first | omega | (rw [sgs_len]; omega) | exact one_sgs (by assumption))) (c_gintE c m_LONGEST))).v (fun h2 => (de_one (c_all c (de_of_dm (dm_lc c (c_lc c [("sign", 2)] [1, 2] [2] _ (di_str (c_var c 0 (.z))) (fun _ _ c1 => (c_tname c1 2)) (fun _ => .s (.s (.z))) (fun _ _ x1 c1 hx1 => ((c_inS c1 (c_var c1 2 (.s (.s (.z)))) (c_var c1 1 (.s (.z))) (by /- 1 -/ first | omega | (rw [sgs_len]; omega) | exact one_sgs (by assumption)))).v) (by /- 2 -/ first | omega | (rw [sgs_len]; omega) | exact one_sgs (by assumption)) (Uns.all (.cons (.s (.s (.z))) .nil))))) b_all)))))) (by /- ret 1 -/ simp [isNameL, List.all_map, Function.comp_def, Bool.and_assoc])))
abbrev s__law_cell_at : Stmt := top 22
theorem sc_s__law_cell_at : FnScope ["_law_script", "_law_k"] ["_law_script", "_law_k"] (defScope s__law_cell_at) := ⟨rfl, rfl, rfl, by decide +kernel, rfl, by decide +kernel, by decide +kernel⟩
abbrev P__law_cell_at (P : Program) (w : World) (K : PySem.W.Frag) (mg : Str → Option Value) (base : Heap) : Prop := FN P w K mg base CX0 1 "_law_cell_at" ["_law_script", "_law_k"] (SpF2 (rScr K) rInt (fun _ k => 0 ≤ k) rInt (cellAt))
set_option maxHeartbeats 4000000 in
theorem ok__law_cell_at (b_len : mg "len" = none) (T : FT K mg "_law_cell_at" "_law_cell_at" s__law_cell_at ["_law_script", "_law_k"]) : P__law_cell_at P w K mg base :=
  fnF2 T sc_s__law_cell_at (vs := [0, 1]) (by decide +kernel) [] (body := fun X B D v_script v_k c hp hD hn =>
  (sd_ifT ((dc_lt (c_var c 1 (.s (.z))) (c_lenScr c (c_var c 0 (.z)) b_len))).t (fun ht1 => (sd_retC hD (c_ixScr c (c_var c 0 (.z)) (c_var c 1 (.s (.z))) (by /- 0 -/ have := of_decide_eq_true ht1; omega)) (by /- ret 1 -/ exact (if_pos (of_decide_eq_true ht1)).symm))) (fun he1 =>
  (sd_retC hD de_int (by /- ret 2 -/ exact (if_neg (of_decide_eq_false he1)).symm)))))
abbrev s__law_draw : Stmt := top 23
theorem sc_s__law_draw : FnScope ["_law_cell", "_law_k", "_law_most", "_law_primes"] ["_law_cell", "_law_k", "_law_most"] (defScope s__law_draw) := ⟨rfl, rfl, rfl, by decide +kernel, rfl, by decide +kernel, by decide +kernel⟩
abbrev P__law_draw (P : Program) (w : World) (K : PySem.W.Frag) (mg : Str → Option Value) (base : Heap) : Prop := FN P w K mg base CX0 1 "_law_draw" ["_law_cell", "_law_k", "_law_most"] (SpF3 rInt rInt rInt (fun _ _ m => 0 < m) rInt (draw))
set_option maxHeartbeats 4000000 in
theorem ok__law_draw  (T : FT K mg "_law_draw" "_law_draw" s__law_draw ["_law_cell", "_law_k", "_law_most"]) : P__law_draw P w K mg base :=
  fnF3 T sc_s__law_draw (vs := [0, 1, 2, 3]) (by decide +kernel) [.un] (body := fun X B D v_cell v_k v_most c hp hD hn =>
  (c_asg c 3 (de_tupL (dl_cons de_int (dl_cons de_int (dl_cons de_int (dl_cons de_int (dl_cons de_int (dl_cons de_int (dl_cons de_int (dl_cons de_int (dl_cons de_int (dl_cons de_int (dl_cons de_int (dl_cons de_int (dl_cons de_int (dl_cons de_int (dl_cons de_int (dl_cons de_int dl_nil))))))))))))))))) (fun _ => .s (.s (.s (.z)))) (fun v_primes e_v_primes =>
  (sd_retC hD (de_mod (de_mod (de_add (de_mul (c_var c 0 (.z)) de_int (by /- 0 -/ first | trivial | omega | assumption | exact one_sgs (by assumption) | decide | (rw [sgs_len]; omega) | (subst_vars; rfl))) (de_mul (c_var c 1 (.s (.z))) de_int (by /- 1 -/ first | trivial | omega | assumption | exact one_sgs (by assumption) | decide | (rw [sgs_len]; omega) | (subst_vars; rfl)))) (de_ixT (c_var c 3 (.s (.s (.s (.z))))) (de_mod (c_var c 1 (.s (.z))) de_int (by /- 2 -/ first | trivial | omega | assumption | exact one_sgs (by assumption) | decide | (rw [sgs_len]; omega) | (subst_vars; rfl))) (by /- 3 -/ subst_vars; simp; omega)) (by /- 4 -/ subst_vars; exact prime_pos _)) (c_var c 2 (.s (.s (.z)))) (by /- 5 -/ exact hp)) (by /- ret 1 -/ subst_vars; rfl)))))
abbrev s__law_number : Stmt := top 24
theorem sc_s__law_number : FnScope ["_law_cell", "_law_k", "_law_limit", "_law_rest", "_law_turn", "_law_small"] ["_law_cell", "_law_k", "_law_limit"] (defScope s__law_number) := ⟨rfl, rfl, rfl, by decide +kernel, rfl, by decide +kernel, by decide +kernel⟩
abbrev P__law_number (P : Program) (w : World) (K : PySem.W.Frag) (mg : Str → Option Value) (base : Heap) : Prop := FN P w K mg base CX0 2 "_law_number" ["_law_cell", "_law_k", "_law_limit"] (SpF3 rInt rInt rInt (fun _ k m => 0 ≤ k ∧ k ≤ 1000000 ∧ 0 < m) rInt (number))
set_option maxHeartbeats 4000000 in
theorem ok__law_number (h__law_draw : P__law_draw P w K mg base) (b_range : mg "range" = none) (T : FT K mg "_law_number" "_law_number" s__law_number ["_law_cell", "_law_k", "_law_limit"]) : P__law_number P w K mg base :=
  fnF3 T sc_s__law_number (vs := [0, 1, 2, 3, 4, 5]) (by decide +kernel) [.un, .un, .un] (body := fun X B D v_cell v_k v_limit c hp hD hn =>
  (c_asg c 3 (de_sub (c_var c 0 (.z)) (de_pow de_int de_int (by /- 0 -/ first | trivial | omega | assumption | exact one_sgs (by assumption) | decide | (rw [sgs_len]; omega) | (subst_vars; rfl)))) (fun _ => .s (.s (.s (.z)))) (fun v_rest e_v_rest =>
  (sd_forF c.po c.calm (S := Int) (fun s1 => [.val rInt v_cell, .val rInt v_k, .val rInt v_limit, .val rInt s1, .un, .un]) (fun r _ => r / 1009) (v_rest) (c_range1 c (de_mod (c_var c 1 (.s (.z))) de_int (by /- 1 -/ first | trivial | omega | assumption | exact one_sgs (by assumption) | decide | (rw [sgs_len]; omega) | (subst_vars; rfl))) b_range (by /- 2 -/ first | trivial | omega | assumption | exact one_sgs (by assumption) | decide | (rw [sgs_len]; omega) | (subst_vars; rfl))) (fun _ => (c_tname c 4)) (.k (.k (.k (.k (.k (.k .nil)))))) (fun _ => fun _ => .s (.s (.s (.s (.z))))) (fun _ pre1 y1 post1 s1 hp1 hs1 =>
    (have hr_y1 := mem_rng (by rw [hp1]; simp : y1 ∈ _); (c_asg c 3 (de_fdiv (c_var c 3 (.s (.s (.s (.z))))) de_int (by /- 3 -/ first | trivial | omega | assumption | exact one_sgs (by assumption) | decide | (rw [sgs_len]; omega) | (subst_vars; rfl))) (fun _ => .s (.s (.s (.z)))) (fun v_rest_1 e_v_rest_1 =>
    (sd_go (.k (.k (.k (.e (by /- 4 -/ subst_vars; rfl) (.u (.k .nil)))))) (fun _ _ h => h))))))
  (fun s1 hs1 =>
  (sd_ifT ((dc_gt (c_var c 3 (.s (.s (.s (.z))))) de_int)).t (fun ht1 => (sd_retC hD (de_mod (de_mod (c_var c 3 (.s (.s (.s (.z))))) de_int (by /- 5 -/ first | trivial | omega | assumption | exact one_sgs (by assumption) | decide | (rw [sgs_len]; omega) | (subst_vars; rfl))) (c_var c 2 (.s (.s (.z)))) (by /- 6 -/ first | trivial | omega | assumption | exact one_sgs (by assumption) | decide | (rw [sgs_len]; omega) | (subst_vars; rfl))) (by /- ret 1 -/ subst_vars; exact (if_pos (of_decide_eq_true ht1)).symm))) (fun he1 =>
  (c_asg c 5 (de_mod (c_var c 0 (.z)) de_int (by /- 7 -/ first | trivial | omega | assumption | exact one_sgs (by assumption) | decide | (rw [sgs_len]; omega) | (subst_vars; rfl))) (fun _ => .s (.s (.s (.s (.s (.z)))))) (fun v_small e_v_small =>
  (sd_retC hD (de_mod (c_callF3 c h__law_draw (de_mul (de_add (c_var c 5 (.s (.s (.s (.s (.s (.z))))))) (de_mul de_int (c_var c 1 (.s (.z))) (by /- 8 -/ first | trivial | omega | assumption | exact one_sgs (by assumption) | decide | (rw [sgs_len]; omega) | (subst_vars; rfl)))) (de_add (de_add (c_var c 5 (.s (.s (.s (.s (.s (.z))))))) (de_mul de_int (c_var c 1 (.s (.z))) (by /- 9 -/ first | trivial | omega | assumption | exact one_sgs (by assumption) | decide | (rw [sgs_len]; omega) | (subst_vars; rfl)))) de_int) (by /- 10 -/ left; subst_vars; constructor <;> omega)) (de_add (de_mod (c_var c 1 (.s (.z))) de_int (by /- 11 -/ first | trivial | omega | assumption | exact one_sgs (by assumption) | decide | (rw [sgs_len]; omega) | (subst_vars; rfl))) de_int) de_int (by /- 12 -/ first | trivial | omega | assumption | exact one_sgs (by assumption) | decide | (rw [sgs_len]; omega) | (subst_vars; rfl))) (c_var c 2 (.s (.s (.z)))) (by /- 13 -/ first | trivial | omega | assumption | exact one_sgs (by assumption) | decide | (rw [sgs_len]; omega) | (subst_vars; rfl))) (by /- ret 2 -/ subst_vars; exact (if_neg (of_decide_eq_false he1)).symm)))))))))))
abbrev s_is_send : Stmt := top 17
theorem sc_s_is_send : FnScope ["thing", "name"] ["thing"] (defScope s_is_send) := ⟨rfl, rfl, rfl, by decide +kernel, rfl, by decide +kernel, by decide +kernel⟩
abbrev P_is_send (P : Program) (w : World) (K : PySem.W.Frag) (mg : Str → Option Value) (base : Heap) : Prop := FN P w K mg base CX0 2 "is_send" ["thing"] (SpF1 (rPair rTxt rTxt) (fun p => p.1.length ≤ 1000 ∧ p.2.length ≤ 1000) rBool (fun p => isNameL p.1 allS && isNameL p.2 allS))
set_option maxHeartbeats 4000000 in
theorem ok_is_send (h_is_name : P_is_name P w K mg base) (b_all : mg "all" = none) (b_isinstance : mg "isinstance" = none) (b_len : mg "len" = none) (b_tuple : mg "tuple" = none) (m_ALL_SIGNS : ∃ t, mg "ALL_SIGNS" = some (.str (tx allS) t)) (T : FT K mg "is_send" "is_send" s_is_send ["thing"]) : P_is_send P w K mg base :=
  fnF1 T sc_s_is_send (vs := [0]) (by decide +kernel) [.un] (body := fun X B D v_thing c hp hD hn =>
  (sd_retC hD (de_and (c_isi (T' := "tuple") (b := true) c (c_var c 0 (.z)) ty_pair (kit_ty (by decide +kernel)) b_isinstance b_tuple) (fun h1 => (de_and ((dc_eqI (c_lenT c (de_pairT (c_var c 0 (.z))) b_len) de_int)).v (fun h2 => (de_one (c_all c (de_of_dm (dm_lc c (c_lc c [("name", 1)] [1] [1] _ (di_tup (de_pairT (c_var c 0 (.z)))) (fun _ _ c1 => (c_tname c1 1)) (fun _ => .s (.z)) (fun _ _ x1 c1 hx1 => (c_callF2 c1 h_is_name (c_var c1 1 (.s (.z))) (c_gstrE c1 m_ALL_SIGNS rfl (by decide)) (by /- 0 -/ first | exact True.intro | (have hx := hx1; simp only [List.mem_cons, List.not_mem_nil, or_false] at hx; rcases hx with rfl | rfl <;> first | exact hp.1 | exact hp.2) | (show 2 ≤ 1000000; decide) | skip))) (by /- 1 -/ first | exact True.intro | (have hx := hx1; simp only [List.mem_cons, List.not_mem_nil, or_false] at hx; rcases hx with rfl | rfl <;> first | exact hp.1 | exact hp.2) | (show 2 ≤ 1000000; decide) | skip) (Uns.all (.cons (.s (.z)) .nil))))) b_all)))))) (by /- ret 1 -/ simp)))
abbrev s_check_sends : Stmt := top 18
theorem sc_s_check_sends : FnScope ["cards", "sends", "names", "pair", "name"] ["cards", "sends"] (defScope s_check_sends) := ⟨rfl, rfl, rfl, by decide +kernel, rfl, by decide +kernel, by decide +kernel⟩
abbrev P_check_sends (P : Program) (w : World) (K : PySem.W.Frag) (mg : Str → Option Value) (base : Heap) : Prop := FN P w K mg base CX0 3 "check_sends" ["cards", "sends"] (SpF2 (rList rTxt) (rList (rPair rTxt rTxt)) (OkH) rNon (fun _ _ => ()))
set_option maxHeartbeats 4000000 in
theorem ok_check_sends (h_is_name : P_is_name P w K mg base) (h_is_send : P_is_send P w K mg base) (b_all : mg "all" = none) (b_any : mg "any" = none) (b_isinstance : mg "isinstance" = none) (b_len : mg "len" = none) (b_list : mg "list" = none) (b_set : mg "set" = none) (m_MOST_NAMES : ∃ t, mg "MOST_NAMES" = some (.int 40 t)) (m_ALL_SIGNS : ∃ t, mg "ALL_SIGNS" = some (.str (tx allS) t)) (T : FT K mg "check_sends" "check_sends" s_check_sends ["cards", "sends"]) : P_check_sends P w K mg base :=
  fnF2 T sc_s_check_sends (vs := [0, 1, 2]) (by decide +kernel) [.un, .un, .un] (body := fun X B D v_cards v_sends c hp hD hn =>
  (have cl := hp.cl
  have sl := hp.sl
  have sh : ∀ n, isNameL n allS = true → n.length ≤ 1000 := fun n h => Nat.le_trans (of_is h).2.2 (by decide)
  (sd_ifF (dw_pt (dw_or (dt_not (dt_val (c_isi (T' := "list") (b := true) c (c_var c 0 (.z)) ty_list (kit_ty (by decide +kernel)) b_isinstance b_list))) (fun h1 => (dw_or ((dc_gt (c_len c (c_var c 0 (.z)) b_len) (c_gintE c m_MOST_NAMES))).t (fun h2 => (dw_or1 (dt_not (dt_val (c_all c (de_of_dm (dm_lc c (c_lc c [("name", 4)] [4] [4] _ (di_list (c_var c 0 (.z))) (fun _ _ c1 => (c_tname c1 4)) (fun _ => .s (.s (.s (.s (.z))))) (fun _ _ x1 c1 hx1 => (c_callF2 c1 h_is_name (c_var c1 4 (.s (.s (.s (.s (.z)))))) (c_gstrE c1 m_ALL_SIGNS rfl (by decide)) (by /- 0 -/ first | exact True.intro | omega | exact sh _ (hp.c _ (by assumption)) | exact ⟨sh _ (hp.s _ (by assumption)).1, sh _ (hp.s _ (by assumption)).2⟩ | skip))) (by /- 1 -/ first | exact True.intro | omega | exact sh _ (hp.c _ (by assumption)) | exact ⟨sh _ (hp.s _ (by assumption)).1, sh _ (hp.s _ (by assumption)).2⟩ | skip) (Uns.all (.cons (.s (.s (.s (.s (.z))))) .nil))))) b_all))))))))) (by /- if 1 -/ (have h : (List.map (fun x1 => isNameL x1 allS) v_cards).all id = true := by rw [List.all_map]; exact List.all_eq_true.mpr hp.c); simp only [h]; simp; omega)
  (sd_ifF ((dc_lt (c_lenSetL c (c_var c 0 (.z)) b_len b_set (by /- 2 -/ first | exact True.intro | omega | exact sh _ (hp.c _ (by assumption)) | exact ⟨sh _ (hp.s _ (by assumption)).1, sh _ (hp.s _ (by assumption)).2⟩ | skip)) (c_len c (c_var c 0 (.z)) b_len))).t (by /- if 2 -/ rw [disL_nodup hp.cn]; simp)
  (sd_ifF (dw_pt (dw_or (dt_not (dt_val (c_isi (T' := "list") (b := true) c (c_var c 1 (.s (.z))) ty_list (kit_ty (by decide +kernel)) b_isinstance b_list))) (fun h3 => (dw_or ((dc_gt (c_len c (c_var c 1 (.s (.z))) b_len) (c_gintE c m_MOST_NAMES))).t (fun h4 => (dw_or1 (dt_not (dt_val (c_all c (de_of_dm (dm_lc c (c_lc c [("pair", 3)] [3] [3] _ (di_list (c_var c 1 (.s (.z)))) (fun _ _ c2 => (c_tname c2 3)) (fun _ => .s (.s (.s (.z)))) (fun _ _ x2 c2 hx2 => (c_callF1 c2 h_is_send (c_var c2 3 (.s (.s (.s (.z))))) (by /- 3 -/ first | exact True.intro | omega | exact sh _ (hp.c _ (by assumption)) | exact ⟨sh _ (hp.s _ (by assumption)).1, sh _ (hp.s _ (by assumption)).2⟩ | skip))) (by /- 4 -/ first | exact True.intro | omega | exact sh _ (hp.c _ (by assumption)) | exact ⟨sh _ (hp.s _ (by assumption)).1, sh _ (hp.s _ (by assumption)).2⟩ | skip) (Uns.all (.cons (.s (.s (.s (.z)))) .nil))))) b_all))))))))) (by /- if 3 -/ (have h : (List.map (fun x2 => isNameL x2.1 allS && isNameL x2.2 allS) v_sends).all id = true := by rw [List.all_map]; exact List.all_eq_true.mpr fun p h => by simp [(hp.s p h).1, (hp.s p h).2]); simp only [h]; simp; omega)
  (c_asgLc c 2 (c_lc c [("pair", 3)] [3] [3] _ (di_list (c_var c 1 (.s (.z)))) (fun _ _ c3 => (c_tname c3 3)) (fun _ => .s (.s (.s (.z)))) (fun _ _ x3 c3 hx3 => (de_ixP0 (c_var c3 3 (.s (.s (.s (.z))))))) (by /- 5 -/ first | exact True.intro | omega | exact sh _ (hp.c _ (by assumption)) | exact ⟨sh _ (hp.s _ (by assumption)).1, sh _ (hp.s _ (by assumption)).2⟩ | skip) (Uns.all (.cons (.s (.s (.s (.z)))) .nil))) (fun _ => .s (.s (.z))) (fun v_names e_v_names =>
  (have nl : v_names.length = v_sends.length := by rw [e_v_names, List.length_map]
  have nn : v_names.Nodup := by rw [e_v_names]; exact hp.sn
  (sd_ifF (dw_pt (dw_or ((dc_lt (c_lenSetL c (c_var c 2 (.s (.s (.z)))) b_len b_set (by /- 6 -/ first | exact True.intro | omega | exact sh _ (hp.c _ (by assumption)) | exact ⟨sh _ (hp.s _ (by assumption)).1, sh _ (hp.s _ (by assumption)).2⟩ | skip)) (c_len c (c_var c 2 (.s (.s (.z)))) b_len))).t (fun h5 => (dw_or1 (dt_val (c_any c (de_of_dm (dm_lc c (c_lc c [("name", 4)] [0, 4] [4] _ (di_list (c_var c 2 (.s (.s (.z))))) (fun _ _ c4 => (c_tname c4 4)) (fun _ => .s (.s (.s (.s (.z))))) (fun _ _ x4 c4 hx4 => ((c_inL c4 flat_txt (c_var c4 4 (.s (.s (.s (.s (.z)))))) (c_var c4 0 (.z)))).v) (by /- 7 -/ first | exact True.intro | omega | exact sh _ (hp.c _ (by assumption)) | exact ⟨sh _ (hp.s _ (by assumption)).1, sh _ (hp.s _ (by assumption)).2⟩ | skip) (Uns.all (.cons (.s (.s (.s (.s (.z))))) .nil))))) b_any)))))) (by /- if 4 -/ (rw [disL_nodup nn]; refine Bool.or_eq_false_iff.mpr ⟨by simp, ?_⟩; rw [List.any_map, List.any_eq_false]; intro x hx; rw [e_v_names] at hx; obtain ⟨p, hm, rfl⟩ := List.mem_map.mp hx; simpa using hp.sc p hm))
  (sd_nil (fun σ H h => h.elim fun F en => hD _ F H en.base rfl)))))))))))
abbrev s_came_to : Stmt := top 7
theorem sc_s_came_to : FnScope ["cards", "sends", "name", "found", "table", "there"] ["cards", "sends", "name"] (defScope s_came_to) := ⟨rfl, rfl, rfl, by decide +kernel, rfl, by decide +kernel, by decide +kernel⟩
abbrev P_came_to (P : Program) (w : World) (K : PySem.W.Frag) (mg : Str → Option Value) (base : Heap) : Prop := FN P w K mg base CX0 1 "came_to" ["cards", "sends", "name"] (SpF3 (rList rTxt) (rList (rPair rTxt rTxt)) rTxt (fun c s _ => s.length ≤ 1000 ∧ (s.map (·.1)).Nodup) (rPair (rList rTxt) rTxt) (cameL))
set_option maxHeartbeats 4000000 in
theorem ok_came_to (b_dict : mg "dict" = none) (T : FT K mg "came_to" "came_to" s_came_to ["cards", "sends", "name"]) : P_came_to P w K mg base :=
  fnF3 T sc_s_came_to (vs := [0, 1, 2, 3, 4, 5]) (by decide +kernel) [.un, .un, .un] (body := fun X B D v_cards v_sends v_name c hp hD hn =>
  (c_asgM c 3 (dm_list (dl_cons (c_var c 2 (.s (.s (.z)))) dl_nil)) (fun _ => .s (.s (.s (.z)))) (fun v_found e_v_found =>
  (c_asg c 4 (c_dict c (c_var c 1 (.s (.z))) b_dict (by /- 0 -/ first | exact True.intro | exact hp.2 | omega | (have := hi1.ne; omega) | (rw [e_v_found]; exact ca_start _ _ _) | (rw [e_v_table]; exact la) | (show CaI v_cards v_sends v_name v_found_1 ∧ v_sends.length + 1 - v_found_1.length < v_sends.length + 1 - s1.length; have z := hi1.next lc la (by rw [← et]; simpa using he1); rw [e_v_found_1, et]; exact ⟨z.1, by rw [List.length_append, List.length_singleton]; omega⟩) | (simp only [List.length_cons, List.length_nil]; omega) | skip)) (fun _ => .s (.s (.s (.s (.z))))) (fun v_table e_v_table =>
  (sd_while c.po (S := (List Txt)) (fun s1 => [.val (rList rTxt) v_cards, .val (rList (rPair rTxt rTxt)) v_sends, .val rTxt v_name, .own (oList rTxt) s1, .val rDct v_table, .un]) (fun s => CaI v_cards v_sends v_name s) (fun s => v_sends.length + 1 - s.length) (v_found) (.k (.k (.k (.k (.k (.k .nil)))))) (by /- 1 -/ first | exact True.intro | exact hp.2 | omega | (have := hi1.ne; omega) | (rw [e_v_found]; exact ca_start _ _ _) | (rw [e_v_table]; exact la) | (show CaI v_cards v_sends v_name v_found_1 ∧ v_sends.length + 1 - v_found_1.length < v_sends.length + 1 - s1.length; have z := hi1.next lc la (by rw [← et]; simpa using he1); rw [e_v_found_1, et]; exact ⟨z.1, by rw [List.length_append, List.length_singleton]; omega⟩) | (simp only [List.length_cons, List.length_nil]; omega) | skip) (fun _ s1 hi1 => (dt_thaw (frz_list _) (.s (.s (.s (.z)))) (.s (.s (.s (.z)))) (dw_pt (dw_and ((c_ninL c flat_txt (de_ixL (c_var c 3 (.s (.s (.s (.z))))) (de_neg de_int) (by /- 2 -/ first | exact True.intro | exact hp.2 | omega | (have := hi1.ne; omega) | (rw [e_v_found]; exact ca_start _ _ _) | (rw [e_v_table]; exact la) | (show CaI v_cards v_sends v_name v_found_1 ∧ v_sends.length + 1 - v_found_1.length < v_sends.length + 1 - s1.length; have z := hi1.next lc la (by rw [← et]; simpa using he1); rw [e_v_found_1, et]; exact ⟨z.1, by rw [List.length_append, List.length_singleton]; omega⟩) | (simp only [List.length_cons, List.length_nil]; omega) | skip)) (c_var c 0 (.z)))).t (fun h1 => (dw_and1 ((c_inD c (de_ixL (c_var c 3 (.s (.s (.s (.z))))) (de_neg de_int) (by /- 3 -/ first | exact True.intro | exact hp.2 | omega | (have := hi1.ne; omega) | (rw [e_v_found]; exact ca_start _ _ _) | (rw [e_v_table]; exact la) | (show CaI v_cards v_sends v_name v_found_1 ∧ v_sends.length + 1 - v_found_1.length < v_sends.length + 1 - s1.length; have z := hi1.next lc la (by rw [← et]; simpa using he1); rw [e_v_found_1, et]; exact ⟨z.1, by rw [List.length_append, List.length_singleton]; omega⟩) | (simp only [List.length_cons, List.length_nil]; omega) | skip)) (c_var c 4 (.s (.s (.s (.s (.z)))))))).t)))))) (fun _ s1 hi1 hw1 =>
    (have hl := hi1.len
    have ne := hi1.ne
    have lc : gI s1 (-1) ∉ v_cards := by have h := hw1; rw [Bool.and_eq_true] at h; simpa using h.1
    have la : (atD v_sends (gI s1 (-1))).isSome = true := by have h := hw1; rw [Bool.and_eq_true, e_v_table] at h; exact h.2
    (c_asg c 5 (de_thaw (frz_list _) (.s (.s (.s (.z)))) (.s (.s (.s (.z)))) sc_txt (c_getD c (c_var c 4 (.s (.s (.s (.s (.z)))))) (de_ixL (c_var c 3 (.s (.s (.s (.z))))) (de_neg de_int) (by /- 4 -/ first | exact True.intro | exact hp.2 | omega | (have := hi1.ne; omega) | (rw [e_v_found]; exact ca_start _ _ _) | (rw [e_v_table]; exact la) | (show CaI v_cards v_sends v_name v_found_1 ∧ v_sends.length + 1 - v_found_1.length < v_sends.length + 1 - s1.length; have z := hi1.next lc la (by rw [← et]; simpa using he1); rw [e_v_found_1, et]; exact ⟨z.1, by rw [List.length_append, List.length_singleton]; omega⟩) | (simp only [List.length_cons, List.length_nil]; omega) | skip)) (by /- 5 -/ first | exact True.intro | exact hp.2 | omega | (have := hi1.ne; omega) | (rw [e_v_found]; exact ca_start _ _ _) | (rw [e_v_table]; exact la) | (show CaI v_cards v_sends v_name v_found_1 ∧ v_sends.length + 1 - v_found_1.length < v_sends.length + 1 - s1.length; have z := hi1.next lc la (by rw [← et]; simpa using he1); rw [e_v_found_1, et]; exact ⟨z.1, by rw [List.length_append, List.length_singleton]; omega⟩) | (simp only [List.length_cons, List.length_nil]; omega) | skip))) (fun _ => .s (.s (.s (.s (.s (.z)))))) (fun v_there e_v_there =>
    (have et : v_there = gO (atD v_sends (gI s1 (-1))) := by rw [e_v_there, e_v_table]
    (sd_ifT (dt_thaw (frz_list _) (.s (.s (.s (.z)))) (.s (.s (.s (.z)))) ((c_inL c flat_txt (c_var c 5 (.s (.s (.s (.s (.s (.z))))))) (c_var c 3 (.s (.s (.s (.z))))))).t) (fun ht1 => (sd_freeze (frz_list _) (.s (.s (.s (.z)))) (.s (.s (.s (.z)))) (sd_retC hD (de_pair (da_cons (de_of_dm (dm_cat (c_var c 3 (.s (.s (.s (.z))))) (de_of_dm (dm_list (dl_cons (c_var c 5 (.s (.s (.s (.s (.s (.z))))))) dl_nil))) (by /- 7 -/ first | exact True.intro | exact hp.2 | omega | (have := hi1.ne; omega) | (rw [e_v_found]; exact ca_start _ _ _) | (rw [e_v_table]; exact la) | (show CaI v_cards v_sends v_name v_found_1 ∧ v_sends.length + 1 - v_found_1.length < v_sends.length + 1 - s1.length; have z := hi1.next lc la (by rw [← et]; simpa using he1); rw [e_v_found_1, et]; exact ⟨z.1, by rw [List.length_append, List.length_singleton]; omega⟩) | (simp only [List.length_cons, List.length_nil]; omega) | skip))) (da_cons (de_str (l := [114, 111, 117, 110, 100]) (by decide +kernel) (by decide)) da_nil))) (by /- ret 1 -/ rw [et]; exact (hi1.round lc la (by rw [← et]; simpa using ht1)).symm)))) (fun he1 =>
    (c_append c 3 (.s (.s (.s (.z)))) (c_var c 5 (.s (.s (.s (.s (.s (.z))))))) (.s (.s (.s (.z)))) (sd_gen (Γf := fun v_found_1 => [.val (rList rTxt) v_cards, .val (rList (rPair rTxt rTxt)) v_sends, .val rTxt v_name, .own (oList rTxt) v_found_1, .val rDct v_table, .val rTxt v_there]) _ (fun v_found_1 e_v_found_1 =>
    (sd_turn (Γs := fun s1 => [.val (rList rTxt) v_cards, .val (rList (rPair rTxt rTxt)) v_sends, .val rTxt v_name, .own (oList rTxt) s1, .val rDct v_table, .un]) (Φ := fun t => (fun s => CaI v_cards v_sends v_name s) t ∧ (fun s => v_sends.length + 1 - s.length) t < (fun s => v_sends.length + 1 - s.length) s1) (v_found_1) (.k (.k (.k (.k (.k (.u .nil)))))) (by /- 8 -/ first | exact True.intro | exact hp.2 | omega | (have := hi1.ne; omega) | (rw [e_v_found]; exact ca_start _ _ _) | (rw [e_v_table]; exact la) | (show CaI v_cards v_sends v_name v_found_1 ∧ v_sends.length + 1 - v_found_1.length < v_sends.length + 1 - s1.length; have z := hi1.next lc la (by rw [← et]; simpa using he1); rw [e_v_found_1, et]; exact ⟨z.1, by rw [List.length_append, List.length_singleton]; omega⟩) | (simp only [List.length_cons, List.length_nil]; omega) | skip)))) (by /- 9 -/ first | exact True.intro | exact hp.2 | omega | (have := hi1.ne; omega) | (rw [e_v_found]; exact ca_start _ _ _) | (rw [e_v_table]; exact la) | (show CaI v_cards v_sends v_name v_found_1 ∧ v_sends.length + 1 - v_found_1.length < v_sends.length + 1 - s1.length; have z := hi1.next lc la (by rw [← et]; simpa using he1); rw [e_v_found_1, et]; exact ⟨z.1, by rw [List.length_append, List.length_singleton]; omega⟩) | (simp only [List.length_cons, List.length_nil]; omega) | skip)))))))))
  (fun s1 hi1 hw1 =>
  (have hl := hi1.len
  have ne := hi1.ne
  (sd_freeze (frz_list _) (.s (.s (.s (.z)))) (.s (.s (.s (.z)))) (sd_retC hD (de_pair (da_cons (c_var c 3 (.s (.s (.s (.z))))) (da_cons (de_ifExp ((c_inL c flat_txt (de_ixL (c_var c 3 (.s (.s (.s (.z))))) (de_neg de_int) (by /- 11 -/ first | exact True.intro | exact hp.2 | omega | (have := hi1.ne; omega) | (rw [e_v_found]; exact ca_start _ _ _) | (rw [e_v_table]; exact la) | (show CaI v_cards v_sends v_name v_found_1 ∧ v_sends.length + 1 - v_found_1.length < v_sends.length + 1 - s1.length; have z := hi1.next lc la (by rw [← et]; simpa using he1); rw [e_v_found_1, et]; exact ⟨z.1, by rw [List.length_append, List.length_singleton]; omega⟩) | (simp only [List.length_cons, List.length_nil]; omega) | skip)) (c_var c 0 (.z)))).t (fun h4 => (de_str (l := [108, 101, 97, 100, 115]) (by decide +kernel) (by decide))) (fun h5 => (de_str (l := [108, 97, 99, 107, 115]) (by decide +kernel) (by decide)))) da_nil))) (by /- ret 2 -/ (by_cases q : gI s1 (-1) ∈ v_cards; (· rw [hi1.card q]; simp [q]; rfl); (· (have la : (atD v_sends (gI s1 (-1))).isSome = false := by (have h := hw1; rw [e_v_table] at h; simpa [q] using h)); rw [hi1.lack q la]; simp [q]; rfl)))))))))))))
abbrev s_Leads___init__ : Stmt := inClass (top 8) 0
theorem sc_s_Leads___init__ : FnScope ["self", "names"] ["self", "names"] (defScope s_Leads___init__) := ⟨rfl, rfl, rfl, by decide +kernel, rfl, by decide +kernel, by decide +kernel⟩
abbrev I_Leads (P : Program) (w : World) (K : PySem.W.Frag) (mg : Str → Option Value) (base : Heap) (C0 C1 C2 : Addr) : Prop := FMk P w K mg base 1 "Leads" C0 ["self", "names"] (SpIQ1 C0 (rList rTxt) (fun _ => True) ["names"] (fun a => [.own (oList rTxt) a]))
set_option maxHeartbeats 4000000 in
theorem ok_Leads_init {C0 C1 C2 : Addr} (b_list : mg "list" = none) (hc : Cls K C0) (hn : NoAttr K C0 "names") (T : FTk K mg "Leads" "Leads.__init__" C0 s_Leads___init__ ["self", "names"]) : I_Leads P w K mg base C0 C1 C2 :=
  fnIQ1 T sc_s_Leads___init__ (vs := [0, 1]) (by decide +kernel) [] (fun _ => clC_ld) (body := fun X B D v_names xd c hp hD =>
  (c_setFQ c 0 (.z) (dq_of_dm (c_list c (c_var c 1 (.s (.z))) b_list)) hc hn (.z)
  (sd_nil (fun σ H e => hD σ H _ e))))
abbrev s_Lacks___init__ : Stmt := inClass (top 9) 0
theorem sc_s_Lacks___init__ : FnScope ["self", "names"] ["self", "names"] (defScope s_Lacks___init__) := ⟨rfl, rfl, rfl, by decide +kernel, rfl, by decide +kernel, by decide +kernel⟩
abbrev I_Lacks (P : Program) (w : World) (K : PySem.W.Frag) (mg : Str → Option Value) (base : Heap) (C0 C1 C2 : Addr) : Prop := FMk P w K mg base 1 "Lacks" C1 ["self", "names"] (SpIQ1 C1 (rList rTxt) (fun _ => True) ["names"] (fun a => [.own (oList rTxt) a]))
set_option maxHeartbeats 4000000 in
theorem ok_Lacks_init {C0 C1 C2 : Addr} (b_list : mg "list" = none) (hc : Cls K C1) (hn : NoAttr K C1 "names") (T : FTk K mg "Lacks" "Lacks.__init__" C1 s_Lacks___init__ ["self", "names"]) : I_Lacks P w K mg base C0 C1 C2 :=
  fnIQ1 T sc_s_Lacks___init__ (vs := [0, 1]) (by decide +kernel) [] (fun _ => clC_ld) (body := fun X B D v_names xd c hp hD =>
  (c_setFQ c 0 (.z) (dq_of_dm (c_list c (c_var c 1 (.s (.z))) b_list)) hc hn (.z)
  (sd_nil (fun σ H e => hD σ H _ e))))
abbrev s_Round___init__ : Stmt := inClass (top 10) 0
theorem sc_s_Round___init__ : FnScope ["self", "names"] ["self", "names"] (defScope s_Round___init__) := ⟨rfl, rfl, rfl, by decide +kernel, rfl, by decide +kernel, by decide +kernel⟩
abbrev I_Round (P : Program) (w : World) (K : PySem.W.Frag) (mg : Str → Option Value) (base : Heap) (C0 C1 C2 : Addr) : Prop := FMk P w K mg base 1 "Round" C2 ["self", "names"] (SpIQ1 C2 (rList rTxt) (fun _ => True) ["names"] (fun a => [.own (oList rTxt) a]))
set_option maxHeartbeats 4000000 in
theorem ok_Round_init {C0 C1 C2 : Addr} (b_list : mg "list" = none) (hc : Cls K C2) (hn : NoAttr K C2 "names") (T : FTk K mg "Round" "Round.__init__" C2 s_Round___init__ ["self", "names"]) : I_Round P w K mg base C0 C1 C2 :=
  fnIQ1 T sc_s_Round___init__ (vs := [0, 1]) (by decide +kernel) [] (fun _ => clC_ld) (body := fun X B D v_names xd c hp hD =>
  (c_setFQ c 0 (.z) (dq_of_dm (c_list c (c_var c 1 (.s (.z))) b_list)) hc hn (.z)
  (sd_nil (fun σ H e => hD σ H _ e))))
abbrev s_Leads_shows : Stmt := inClass (top 8) 1
theorem sc_s_Leads_shows : FnScope ["self", "cards", "sends", "name"] ["self", "cards", "sends", "name"] (defScope s_Leads_shows) := ⟨rfl, rfl, rfl, by decide +kernel, rfl, by decide +kernel, by decide +kernel⟩
set_option maxHeartbeats 4000000 in
theorem ok_Leads_shows {C0 C1 C2 CAn : Addr} (o : Ld) (eo : o.1 = 0) (h_came_to : P_came_to P w K mg base) (TD : TLd K C0 C1 C2 CAn) (T : FTm K "shows" "Leads.shows" C0 s_Leads_shows ["self", "cards", "sends", "name"]) : FMe P w K mg base 2 C0 "shows" ["self", "cards", "sends", "name"] (SpF4 (rLd C0 C1 C2) (rList rTxt) (rList (rPair rTxt rTxt)) rTxt (fun o' _ s _ => o'.1 = o.1 ∧ s.length ≤ 1000 ∧ (s.map (·.1)).Nodup) rBool (showsLd)) :=
  meF4 T sc_s_Leads_shows (vs := [0, 1, 2, 3]) (by decide +kernel) [] (body := fun X B D v_self v_cards v_sends v_name c hp hD hn =>
  (sd_retC hD ((c_eqD c (eqPair (eqList eqTxt) eqTxt) (c_callF3 c h_came_to (c_var c 1 (.s (.z))) (c_var c 2 (.s (.s (.z)))) (c_var c 3 (.s (.s (.s (.z))))) (by /- 0 -/ exact hp.2)) (de_pair (da_cons (c_fld c 0 (c_var c 0 (.z)) (.z) (TD.cl _) (TD.na _)) (da_cons (de_str (l := [108, 101, 97, 100, 115]) (by decide +kernel) (by decide)) da_nil))))).v (by /- ret 1 -/ unfold showsLd wordL; rw [hp.1]; rw [eo]; rfl)))
abbrev s_Lacks_shows : Stmt := inClass (top 9) 1
theorem sc_s_Lacks_shows : FnScope ["self", "cards", "sends", "name"] ["self", "cards", "sends", "name"] (defScope s_Lacks_shows) := ⟨rfl, rfl, rfl, by decide +kernel, rfl, by decide +kernel, by decide +kernel⟩
set_option maxHeartbeats 4000000 in
theorem ok_Lacks_shows {C0 C1 C2 CAn : Addr} (o : Ld) (eo : o.1 = 1) (h_came_to : P_came_to P w K mg base) (TD : TLd K C0 C1 C2 CAn) (T : FTm K "shows" "Lacks.shows" C1 s_Lacks_shows ["self", "cards", "sends", "name"]) : FMe P w K mg base 2 C1 "shows" ["self", "cards", "sends", "name"] (SpF4 (rLd C0 C1 C2) (rList rTxt) (rList (rPair rTxt rTxt)) rTxt (fun o' _ s _ => o'.1 = o.1 ∧ s.length ≤ 1000 ∧ (s.map (·.1)).Nodup) rBool (showsLd)) :=
  meF4 T sc_s_Lacks_shows (vs := [0, 1, 2, 3]) (by decide +kernel) [] (body := fun X B D v_self v_cards v_sends v_name c hp hD hn =>
  (sd_retC hD ((c_eqD c (eqPair (eqList eqTxt) eqTxt) (c_callF3 c h_came_to (c_var c 1 (.s (.z))) (c_var c 2 (.s (.s (.z)))) (c_var c 3 (.s (.s (.s (.z))))) (by /- 0 -/ exact hp.2)) (de_pair (da_cons (c_fld c 0 (c_var c 0 (.z)) (.z) (TD.cl _) (TD.na _)) (da_cons (de_str (l := [108, 97, 99, 107, 115]) (by decide +kernel) (by decide)) da_nil))))).v (by /- ret 1 -/ unfold showsLd wordL; rw [hp.1]; rw [eo]; rfl)))
abbrev s_Round_shows : Stmt := inClass (top 10) 1
theorem sc_s_Round_shows : FnScope ["self", "cards", "sends", "name"] ["self", "cards", "sends", "name"] (defScope s_Round_shows) := ⟨rfl, rfl, rfl, by decide +kernel, rfl, by decide +kernel, by decide +kernel⟩
set_option maxHeartbeats 4000000 in
theorem ok_Round_shows {C0 C1 C2 CAn : Addr} (o : Ld) (e0 : ¬ o.1 = 0) (e1 : ¬ o.1 = 1) (h_came_to : P_came_to P w K mg base) (TD : TLd K C0 C1 C2 CAn) (T : FTm K "shows" "Round.shows" C2 s_Round_shows ["self", "cards", "sends", "name"]) : FMe P w K mg base 2 C2 "shows" ["self", "cards", "sends", "name"] (SpF4 (rLd C0 C1 C2) (rList rTxt) (rList (rPair rTxt rTxt)) rTxt (fun o' _ s _ => o'.1 = o.1 ∧ s.length ≤ 1000 ∧ (s.map (·.1)).Nodup) rBool (showsLd)) :=
  meF4 T sc_s_Round_shows (vs := [0, 1, 2, 3]) (by decide +kernel) [] (body := fun X B D v_self v_cards v_sends v_name c hp hD hn =>
  (sd_retC hD ((c_eqD c (eqPair (eqList eqTxt) eqTxt) (c_callF3 c h_came_to (c_var c 1 (.s (.z))) (c_var c 2 (.s (.s (.z)))) (c_var c 3 (.s (.s (.s (.z))))) (by /- 0 -/ exact hp.2)) (de_pair (da_cons (c_fld c 0 (c_var c 0 (.z)) (.z) (TD.cl _) (TD.na _)) (da_cons (de_str (l := [114, 111, 117, 110, 100]) (by decide +kernel) (by decide)) da_nil))))).v (by /- ret 1 -/ unfold showsLd wordL; rw [hp.1]; rw [if_neg e0, if_neg e1]; rfl)))
abbrev M_Led_shows (P : Program) (w : World) (K : PySem.W.Frag) (mg : Str → Option Value) (base : Heap) (C0 C1 C2 : Addr) : Prop := ∀ o : Ld, FMe P w K mg base 2 (ldC C0 C1 C2 o) "shows" ["self", "cards", "sends", "name"] (SpF4 (rLd C0 C1 C2) (rList rTxt) (rList (rPair rTxt rTxt)) rTxt (fun o' _ s _ => o'.1 = o.1 ∧ s.length ≤ 1000 ∧ (s.map (·.1)).Nodup) rBool (showsLd))
theorem all_shows {C0 C1 C2 : Addr} (h0 : ∀ o : Ld, o.1 = 0 → FMe P w K mg base 2 C0 "shows" ["self", "cards", "sends", "name"] (SpF4 (rLd C0 C1 C2) (rList rTxt) (rList (rPair rTxt rTxt)) rTxt (fun o' _ s _ => o'.1 = o.1 ∧ s.length ≤ 1000 ∧ (s.map (·.1)).Nodup) rBool (showsLd))) (h1 : ∀ o : Ld, o.1 = 1 → FMe P w K mg base 2 C1 "shows" ["self", "cards", "sends", "name"] (SpF4 (rLd C0 C1 C2) (rList rTxt) (rList (rPair rTxt rTxt)) rTxt (fun o' _ s _ => o'.1 = o.1 ∧ s.length ≤ 1000 ∧ (s.map (·.1)).Nodup) rBool (showsLd))) (h2 : ∀ o : Ld, ¬ o.1 = 0 → ¬ o.1 = 1 → FMe P w K mg base 2 C2 "shows" ["self", "cards", "sends", "name"] (SpF4 (rLd C0 C1 C2) (rList rTxt) (rList (rPair rTxt rTxt)) rTxt (fun o' _ s _ => o'.1 = o.1 ∧ s.length ≤ 1000 ∧ (s.map (·.1)).Nodup) rBool (showsLd))) : M_Led_shows P w K mg base C0 C1 C2 := ld_all (φ := fun o C => FMe P w K mg base 2 C "shows" ["self", "cards", "sends", "name"] (SpF4 (rLd C0 C1 C2) (rList rTxt) (rList (rPair rTxt rTxt)) rTxt (fun o' _ s _ => o'.1 = o.1 ∧ s.length ≤ 1000 ∧ (s.map (·.1)).Nodup) rBool (showsLd))) h0 h1 h2
abbrev s_led : Stmt := top 19
theorem sc_s_led : FnScope ["cards", "sends", "name", "names", "end"] ["cards", "sends", "name"] (defScope s_led) := ⟨rfl, rfl, rfl, by decide +kernel, rfl, by decide +kernel, by decide +kernel⟩
abbrev P_led (P : Program) (w : World) (K : PySem.W.Frag) (mg : Str → Option Value) (base : Heap) (C0 C1 C2 : Addr) : Prop := FN P w K mg base CX0 4 "led" ["cards", "sends", "name"] (SpQ3 (rList rTxt) (rList (rPair rTxt rTxt)) rTxt (fun c s n => OkH c s ∧ isNameL n allS = true) (oLd C0 C1 C2) (ledL))
set_option maxHeartbeats 4000000 in
theorem ok_led {C0 C1 C2 : Addr} (h_Lacks : I_Lacks P w K mg base C0 C1 C2) (h_Leads : I_Leads P w K mg base C0 C1 C2) (h_Round : I_Round P w K mg base C0 C1 C2) (h_came_to : P_came_to P w K mg base) (h_check_sends : P_check_sends P w K mg base) (h_is_name : P_is_name P w K mg base) (m_ALL_SIGNS : ∃ t, mg "ALL_SIGNS" = some (.str (tx allS) t)) (T : FT K mg "led" "led" s_led ["cards", "sends", "name"]) : P_led P w K mg base C0 C1 C2 :=
  fnQ3 T sc_s_led (vs := [0, 1, 2, 3, 4]) (by decide +kernel) [.un, .un] (body := fun X B D v_cards v_sends v_name c hp hD =>
  (have sl := hp.1.sl
  have cl := came_len v_cards v_sends v_name
  (sd_drop (c_callF2 c h_check_sends (c_var c 0 (.z)) (c_var c 1 (.s (.z))) (by /- 0 -/ first | exact True.intro | exact hp.1 | exact ⟨by omega, hp.1.sn⟩ | exact Nat.le_trans (of_is hp.2).2.2 (by decide) | skip))
  (sd_ifF (dt_not (dt_val (c_callF2 c h_is_name (c_var c 2 (.s (.s (.z)))) (c_gstrE c m_ALL_SIGNS rfl (by decide)) (by /- 1 -/ first | exact True.intro | exact hp.1 | exact ⟨by omega, hp.1.sn⟩ | exact Nat.le_trans (of_is hp.2).2.2 (by decide) | skip)))) (by /- if 1 -/ rw [hp.2]; rfl)
  (c_asgP c 3 4 (c_callF3 c h_came_to (c_var c 0 (.z)) (c_var c 1 (.s (.z))) (c_var c 2 (.s (.s (.z)))) (by /- 2 -/ first | exact True.intro | exact hp.1 | exact ⟨by omega, hp.1.sn⟩ | exact Nat.le_trans (of_is hp.2).2.2 (by decide) | skip)) (fun _ => .s (.s (.s (.z)))) (fun _ => .s (.s (.s (.s (.z))))) (fun v_names_end e_v_names_end =>
  (sd_ifT ((dc_eqS (c_var c 4 (.s (.s (.s (.s (.z)))))) (de_str (l := [108, 101, 97, 100, 115]) (by decide +kernel) (by decide)))).t (fun ht2 => (sd_retQ hD (c_makeQ1 c (0, _) h_Leads (c_var c 3 (.s (.s (.s (.z))))) (by /- 3 -/ first | exact True.intro | exact hp.1 | exact ⟨by omega, hp.1.sn⟩ | exact Nat.le_trans (of_is hp.2).2.2 (by decide) | skip)) (by /- ret 1 -/ rw [e_v_names_end] at ht2 ⊢; unfold ledL kindL; rw [if_pos (show (cameL v_cards v_sends v_name).2 = tLeads from of_decide_eq_true ht2)]) cl_ld)) (fun he2 =>
  (sd_retQ hD (dq_ifExp ((dc_eqS (c_var c 4 (.s (.s (.s (.s (.z)))))) (de_str (l := [108, 97, 99, 107, 115]) (by decide +kernel) (by decide)))).t (fun h1 => (c_makeQ1 c (1, _) h_Lacks (c_var c 3 (.s (.s (.s (.z))))) (by /- 4 -/ first | exact True.intro | exact hp.1 | exact ⟨by omega, hp.1.sn⟩ | exact Nat.le_trans (of_is hp.2).2.2 (by decide) | skip))) (fun h2 => (c_makeQ1 c (2, _) h_Round (c_var c 3 (.s (.s (.s (.z))))) (by /- 5 -/ first | exact True.intro | exact hp.1 | exact ⟨by omega, hp.1.sn⟩ | exact Nat.le_trans (of_is hp.2).2.2 (by decide) | skip)))) (by /- ret 2 -/ (rw [e_v_names_end] at he2 ⊢; unfold ledL kindL; rw [if_neg (show ¬ (cameL v_cards v_sends v_name).2 = tLeads from of_decide_eq_false he2)]; split; (· rename_i h; rw [if_pos (show (cameL v_cards v_sends v_name).2 = tLacks from of_decide_eq_true h)]); (· rename_i h; rw [if_neg (show ¬ (cameL v_cards v_sends v_name).2 = tLacks from fun z => h (decide_eq_true z))]))) cl_ld)))))))))
abbrev s_lost : Stmt := top 20
theorem sc_s_lost : FnScope ["cards", "sends", "pair"] ["cards", "sends"] (defScope s_lost) := ⟨rfl, rfl, rfl, by decide +kernel, rfl, by decide +kernel, by decide +kernel⟩
abbrev P_lost (P : Program) (w : World) (K : PySem.W.Frag) (mg : Str → Option Value) (base : Heap) : Prop := FN P w K mg base CX0 4 "lost" ["cards", "sends"] (SpM2 (rList rTxt) (rList (rPair rTxt rTxt)) (fun c s => OkH c s) rTxt (lostL))
set_option maxHeartbeats 4000000 in
theorem ok_lost (h_came_to : P_came_to P w K mg base) (h_check_sends : P_check_sends P w K mg base) (T : FT K mg "lost" "lost" s_lost ["cards", "sends"]) : P_lost P w K mg base :=
  fnM2 T sc_s_lost (vs := [0, 1]) (by decide +kernel) [.un] (body := fun X B D v_cards v_sends c hp hD =>
  (have sl := hp.sl
  (sd_drop (c_callF2 c h_check_sends (c_var c 0 (.z)) (c_var c 1 (.s (.z))) (by /- 0 -/ first | exact True.intro | exact hp | exact ⟨by omega, hp.sn⟩ | omega | skip))
  (sd_retM hD (dm_lc c (c_lcF c [("pair", 2)] [0, 1, 2] [2] _ _ (di_list (c_var c 1 (.s (.z)))) (fun _ _ c1 => (c_tname c1 2)) (fun _ => .s (.s (.z))) (fun _ _ x1 c1 hx1 => (dts_one ((dc_neS (de_ixP1 (c_callF3 c1 h_came_to (c_var c1 0 (.z)) (c_var c1 1 (.s (.z))) (de_ixP0 (c_var c1 2 (.s (.s (.z))))) (by /- 1 -/ first | exact True.intro | exact hp | exact ⟨by omega, hp.sn⟩ | omega | skip))) (de_str (l := [108, 101, 97, 100, 115]) (by decide +kernel) (by decide)))).t)) (fun _ _ x1 c1 hx1 h1 => (de_ixP0 (c_var c1 2 (.s (.s (.z)))))) (by /- 2 -/ first | exact True.intro | exact hp | exact ⟨by omega, hp.sn⟩ | omega | skip) (Uns.all (.cons (.s (.s (.z))) .nil)))) (by /- ret 1 -/ rfl)))))
abbrev s__law_drawn_name : Stmt := top 25
theorem sc_s__law_drawn_name : FnScope ["_law_cell", "_law_k", "_law_names"] ["_law_cell", "_law_k"] (defScope s__law_drawn_name) := ⟨rfl, rfl, rfl, by decide +kernel, rfl, by decide +kernel, by decide +kernel⟩
abbrev P__law_drawn_name (P : Program) (w : World) (K : PySem.W.Frag) (mg : Str → Option Value) (base : Heap) : Prop := FN P w K mg base CX0 3 "_law_drawn_name" ["_law_cell", "_law_k"] (SpF2 rInt rInt (fun _ k => 0 ≤ k ∧ k ≤ 1000) rTxt (drawnL))
set_option maxHeartbeats 4000000 in
theorem ok__law_drawn_name (h__law_number : P__law_number P w K mg base) (T : FT K mg "_law_drawn_name" "_law_drawn_name" s__law_drawn_name ["_law_cell", "_law_k"]) : P__law_drawn_name P w K mg base :=
  fnF2 T sc_s__law_drawn_name (vs := [0, 1, 2]) (by decide +kernel) [.un] (body := fun X B D v_cell v_k c hp hD hn =>
  (c_asg c 2 (de_tupL (dl_cons (de_str (l := [97]) (by decide +kernel) (by decide)) (dl_cons (de_str (l := [98]) (by decide +kernel) (by decide)) (dl_cons (de_str (l := [115, 101, 101]) (by decide +kernel) (by decide)) (dl_cons (de_str (l := [115, 109, 105, 116, 104]) (by decide +kernel) (by decide)) (dl_cons (de_str (l := [111, 39, 110, 101, 105, 108]) (by decide +kernel) (by decide)) (dl_cons (de_str (l := [109, 97, 99, 45, 97]) (by decide +kernel) (by decide)) (dl_cons (de_str (l := [115, 116, 32, 97]) (by decide +kernel) (by decide)) (dl_cons (de_str (l := [122, 122]) (by decide +kernel) (by decide)) (dl_cons (de_str (l := [115, 109, 121, 116, 104, 101]) (by decide +kernel) (by decide)) (dl_cons (de_str (l := [97, 98, 99]) (by decide +kernel) (by decide)) (dl_cons (de_str (l := [120, 32, 121]) (by decide +kernel) (by decide)) (dl_cons (de_str (l := [108, 101, 101]) (by decide +kernel) (by decide)) dl_nil))))))))))))) (fun _ => .s (.s (.z))) (fun v_names e_v_names =>
  (sd_retC hD (de_ixT (c_var c 2 (.s (.s (.z)))) (c_callF3 c h__law_number (c_var c 0 (.z)) (c_var c 1 (.s (.z))) de_int (by /- 0 -/ first | exact True.intro | exact ⟨by omega, by omega, by decide⟩ | (have q := number_in v_cell v_k (limit := 12) (by decide); rw [e_v_names]; exact ⟨by omega, q.2⟩) | (have q := number_in v_cell v_k (limit := 12) (by decide); rw [e_v_names]; exact ⟨by (simp only [List.length_cons, List.length_nil]; omega), by (simp only [List.length_cons, List.length_nil]; omega)⟩) | skip)) (by /- 1 -/ first | exact True.intro | exact ⟨by omega, by omega, by decide⟩ | (have q := number_in v_cell v_k (limit := 12) (by decide); rw [e_v_names]; exact ⟨by omega, q.2⟩) | (have q := number_in v_cell v_k (limit := 12) (by decide); rw [e_v_names]; exact ⟨by (simp only [List.length_cons, List.length_nil]; omega), by (simp only [List.length_cons, List.length_nil]; omega)⟩) | skip)) (by /- ret 1 -/ rw [e_v_names]; rfl)))))
abbrev s__law_house : Stmt := top 26
theorem sc_s__law_house : FnScope ["_law_script", "_law_by", "_law_cell", "_law_cards", "_law_sends", "_law_k", "_law_name", "_law_there", "_law_one", "_law_other", "_law_pair"] ["_law_script", "_law_by"] (defScope s__law_house) := ⟨rfl, rfl, rfl, by decide +kernel, rfl, by decide +kernel, by decide +kernel⟩
abbrev P__law_house (P : Program) (w : World) (K : PySem.W.Frag) (mg : Str → Option Value) (base : Heap) : Prop := FN P w K mg base CX0 4 "_law_house" ["_law_script", "_law_by"] (SpF2 (rScr K) rInt (fun _ b => 0 ≤ b ∧ b ≤ 100) (rPair (rList rTxt) (rList (rPair rTxt rTxt))) (houseL))
set_option maxHeartbeats 4000000 in
theorem ok__law_house (h__law_cell_at : P__law_cell_at P w K mg base) (h__law_drawn_name : P__law_drawn_name P w K mg base) (h__law_number : P__law_number P w K mg base) (b_range : mg "range" = none) (T : FT K mg "_law_house" "_law_house" s__law_house ["_law_script", "_law_by"]) : P__law_house P w K mg base :=
  fnF2 T sc_s__law_house (vs := [0, 1, 2, 3, 4, 5, 6, 7, 8, 9]) (by decide +kernel) [.un, .un, .un, .un, .un, .un, .un, .un, .un] (body := fun X B D v_script v_by c hp hD hn =>
  (c_asg c 2 (c_callF2 c h__law_cell_at (c_var c 0 (.z)) (c_var c 1 (.s (.z))) (by /- 0 -/ first | exact True.intro | omega | exact ⟨by omega, by omega, by decide⟩ | (unfold cardStep; rw [← e_v_name, if_pos (by simpa using ht1)]; exact e_v_cards_1) | (unfold cardStep; rw [← e_v_name, if_neg (by simpa using he1)]) | (unfold sendStep; rw [← e_v_there, ← e_v_one, ← e_v_other, ← hc, if_pos (by simpa using ht2)]; exact e_v_sends_1) | (unfold sendStep; rw [← e_v_there, ← e_v_one, ← e_v_other, ← hc, if_neg (by simpa using he2)]) | skip)) (fun _ => .s (.s (.z))) (fun v_cell e_v_cell =>
  (have q1 := number_in v_cell 1 (limit := 7) (by decide)
  have q2 := number_in v_cell 2 (limit := 12) (by decide)
  (c_par2 c 3 4 (s1 := fun a => .own (oList rTxt) a) (s2 := fun a => .own (oList (rPair rTxt rTxt)) a) (ve_m (dm_list (dl_nil (r := rTxt)))) (ve_m (dm_list (dl_nil (r := (rPair rTxt rTxt))))) (fun _ => .s (.s (.s (.z)))) (fun _ _ => .s (.s (.s (.s (.z))))) (fun v_cards v_sends e_v_cards e_v_sends =>
  (sd_forF c.po c.calm (S := (List Txt)) (fun s1 => [.val (rScr K) v_script, .val rInt v_by, .val rInt v_cell, .own (oList rTxt) s1, .own (oList (rPair rTxt rTxt)) v_sends, .un, .un, .un, .un, .un, .un]) (cardStep v_script v_by) (v_cards) (c_range1 c (c_callF3 c h__law_number (c_var c 2 (.s (.s (.z)))) de_int de_int (by /- 1 -/ first | exact True.intro | omega | exact ⟨by omega, by omega, by decide⟩ | (unfold cardStep; rw [← e_v_name, if_pos (by simpa using ht1)]; exact e_v_cards_1) | (unfold cardStep; rw [← e_v_name, if_neg (by simpa using he1)]) | (unfold sendStep; rw [← e_v_there, ← e_v_one, ← e_v_other, ← hc, if_pos (by simpa using ht2)]; exact e_v_sends_1) | (unfold sendStep; rw [← e_v_there, ← e_v_one, ← e_v_other, ← hc, if_neg (by simpa using he2)]) | skip)) b_range (by /- 2 -/ first | exact True.intro | omega | exact ⟨by omega, by omega, by decide⟩ | (unfold cardStep; rw [← e_v_name, if_pos (by simpa using ht1)]; exact e_v_cards_1) | (unfold cardStep; rw [← e_v_name, if_neg (by simpa using he1)]) | (unfold sendStep; rw [← e_v_there, ← e_v_one, ← e_v_other, ← hc, if_pos (by simpa using ht2)]; exact e_v_sends_1) | (unfold sendStep; rw [← e_v_there, ← e_v_one, ← e_v_other, ← hc, if_neg (by simpa using he2)]) | skip)) (fun _ => (c_tname c 5)) (.k (.k (.k (.k (.k (.k (.k (.k (.k (.k (.k .nil))))))))))) (fun _ => fun _ => .s (.s (.s (.s (.s (.z)))))) (fun _ pre1 y1 post1 s1 hp1 hs1 =>
    (have hr_y1 := mem_rng (by rw [hp1]; simp : y1 ∈ _); (have lf := (card_fold (script := v_script) (by_ := v_by) pre1 (s := []) ⟨by simp, (fun x hx => by cases hx)⟩).2
    have hl : pre1.length < (number v_cell 1 7).toNat := by have h := congrArg List.length hp1; simp [rng_len] at h; omega
    have ls : s1.length ≤ 7 := by rw [hs1, e_v_cards]; simp at lf; omega
    (c_asg c 6 (c_callF2 c h__law_drawn_name (c_callF2 c h__law_cell_at (c_var c 0 (.z)) (de_add (c_var c 1 (.s (.z))) (c_var c 5 (.s (.s (.s (.s (.s (.z)))))))) (by /- 3 -/ first | exact True.intro | omega | exact ⟨by omega, by omega, by decide⟩ | (unfold cardStep; rw [← e_v_name, if_pos (by simpa using ht1)]; exact e_v_cards_1) | (unfold cardStep; rw [← e_v_name, if_neg (by simpa using he1)]) | (unfold sendStep; rw [← e_v_there, ← e_v_one, ← e_v_other, ← hc, if_pos (by simpa using ht2)]; exact e_v_sends_1) | (unfold sendStep; rw [← e_v_there, ← e_v_one, ← e_v_other, ← hc, if_neg (by simpa using he2)]) | skip)) (de_add (c_var c 5 (.s (.s (.s (.s (.s (.z))))))) de_int) (by /- 4 -/ first | exact True.intro | omega | exact ⟨by omega, by omega, by decide⟩ | (unfold cardStep; rw [← e_v_name, if_pos (by simpa using ht1)]; exact e_v_cards_1) | (unfold cardStep; rw [← e_v_name, if_neg (by simpa using he1)]) | (unfold sendStep; rw [← e_v_there, ← e_v_one, ← e_v_other, ← hc, if_pos (by simpa using ht2)]; exact e_v_sends_1) | (unfold sendStep; rw [← e_v_there, ← e_v_one, ← e_v_other, ← hc, if_neg (by simpa using he2)]) | skip)) (fun _ => .s (.s (.s (.s (.s (.s (.z))))))) (fun v_name e_v_name =>
    (sd_ifE (dt_thaw (frz_list _) (.s (.s (.s (.z)))) (.s (.s (.s (.z)))) ((c_ninL c flat_txt (c_var c 6 (.s (.s (.s (.s (.s (.s (.z)))))))) (c_var c 3 (.s (.s (.s (.z))))))).t) (fun ht1 => (c_append c 3 (.s (.s (.s (.z)))) (c_var c 6 (.s (.s (.s (.s (.s (.s (.z)))))))) (.s (.s (.s (.z)))) (sd_gen (Γf := fun v_cards_1 => [.val (rScr K) v_script, .val rInt v_by, .val rInt v_cell, .own (oList rTxt) v_cards_1, .own (oList (rPair rTxt rTxt)) v_sends, .val rInt y1, .val rTxt v_name, .un, .un, .un, .un]) _ (fun v_cards_1 e_v_cards_1 =>
    (sd_go (.k (.k (.k (.o (by /- 5 -/ first | exact True.intro | omega | exact ⟨by omega, by omega, by decide⟩ | (unfold cardStep; rw [← e_v_name, if_pos (by simpa using ht1)]; exact e_v_cards_1) | (unfold cardStep; rw [← e_v_name, if_neg (by simpa using he1)]) | (unfold sendStep; rw [← e_v_there, ← e_v_one, ← e_v_other, ← hc, if_pos (by simpa using ht2)]; exact e_v_sends_1) | (unfold sendStep; rw [← e_v_there, ← e_v_one, ← e_v_other, ← hc, if_neg (by simpa using he2)]) | skip) (.k (.u (.u (.k (.k (.k (.k .nil))))))))))) (fun _ _ h => h)))) (by /- 6 -/ first | exact True.intro | omega | exact ⟨by omega, by omega, by decide⟩ | (unfold cardStep; rw [← e_v_name, if_pos (by simpa using ht1)]; exact e_v_cards_1) | (unfold cardStep; rw [← e_v_name, if_neg (by simpa using he1)]) | (unfold sendStep; rw [← e_v_there, ← e_v_one, ← e_v_other, ← hc, if_pos (by simpa using ht2)]; exact e_v_sends_1) | (unfold sendStep; rw [← e_v_there, ← e_v_one, ← e_v_other, ← hc, if_neg (by simpa using he2)]) | skip))) (fun he1 =>
    (sd_go (.k (.k (.k (.o (by /- 7 -/ first | exact True.intro | omega | exact ⟨by omega, by omega, by decide⟩ | (unfold cardStep; rw [← e_v_name, if_pos (by simpa using ht1)]; exact e_v_cards_1) | (unfold cardStep; rw [← e_v_name, if_neg (by simpa using he1)]) | (unfold sendStep; rw [← e_v_there, ← e_v_one, ← e_v_other, ← hc, if_pos (by simpa using ht2)]; exact e_v_sends_1) | (unfold sendStep; rw [← e_v_there, ← e_v_one, ← e_v_other, ← hc, if_neg (by simpa using he2)]) | skip) (.k (.u (.u (.k (.k (.k (.k .nil))))))))))) (fun _ _ h => h)))))))))
  (fun s1 hs1 =>
  (sd_forF c.po c.calm (S := (List (Txt × Txt))) (fun s2 => [.val (rScr K) v_script, .val rInt v_by, .val rInt v_cell, .own (oList rTxt) s1, .own (oList (rPair rTxt rTxt)) s2, .un, .un, .un, .un, .un, .un]) (sendStep v_script v_by (cardsL v_script v_by)) (v_sends) (c_range1 c (c_callF3 c h__law_number (c_var c 2 (.s (.s (.z)))) de_int de_int (by /- 8 -/ first | exact True.intro | omega | exact ⟨by omega, by omega, by decide⟩ | (unfold cardStep; rw [← e_v_name, if_pos (by simpa using ht1)]; exact e_v_cards_1) | (unfold cardStep; rw [← e_v_name, if_neg (by simpa using he1)]) | (unfold sendStep; rw [← e_v_there, ← e_v_one, ← e_v_other, ← hc, if_pos (by simpa using ht2)]; exact e_v_sends_1) | (unfold sendStep; rw [← e_v_there, ← e_v_one, ← e_v_other, ← hc, if_neg (by simpa using he2)]) | skip)) b_range (by /- 9 -/ first | exact True.intro | omega | exact ⟨by omega, by omega, by decide⟩ | (unfold cardStep; rw [← e_v_name, if_pos (by simpa using ht1)]; exact e_v_cards_1) | (unfold cardStep; rw [← e_v_name, if_neg (by simpa using he1)]) | (unfold sendStep; rw [← e_v_there, ← e_v_one, ← e_v_other, ← hc, if_pos (by simpa using ht2)]; exact e_v_sends_1) | (unfold sendStep; rw [← e_v_there, ← e_v_one, ← e_v_other, ← hc, if_neg (by simpa using he2)]) | skip)) (fun _ => (c_tname c 5)) (.k (.k (.k (.k (.k (.k (.k (.k (.k (.k (.k .nil))))))))))) (fun _ => fun _ => .s (.s (.s (.s (.s (.z)))))) (fun _ pre2 y2 post2 s2 hp2 hs2 =>
    (have hr_y2 := mem_rng (by rw [hp2]; simp : y2 ∈ _); (have hc : s1 = cardsL v_script v_by := by rw [hs1, e_v_cards, e_v_cell]; rfl
    have lf := (send_fold (script := v_script) (by_ := v_by) (cards := cardsL v_script v_by) pre2 (s := []) ⟨by simp, (fun x hx => by cases hx), fun x hx => by cases hx⟩).2
    have hl : pre2.length < (number v_cell 2 12).toNat := by have h := congrArg List.length hp2; simp [rng_len] at h; omega
    have ls : s2.length ≤ 12 := by rw [hs2, e_v_sends]; simp at lf; omega
    (c_asg c 7 (de_add (c_callF2 c h__law_cell_at (c_var c 0 (.z)) (de_add (de_add (c_var c 1 (.s (.z))) (c_var c 5 (.s (.s (.s (.s (.s (.z)))))))) de_int) (by /- 10 -/ first | exact True.intro | omega | exact ⟨by omega, by omega, by decide⟩ | (unfold cardStep; rw [← e_v_name, if_pos (by simpa using ht1)]; exact e_v_cards_1) | (unfold cardStep; rw [← e_v_name, if_neg (by simpa using he1)]) | (unfold sendStep; rw [← e_v_there, ← e_v_one, ← e_v_other, ← hc, if_pos (by simpa using ht2)]; exact e_v_sends_1) | (unfold sendStep; rw [← e_v_there, ← e_v_one, ← e_v_other, ← hc, if_neg (by simpa using he2)]) | skip)) (de_mul de_int (c_var c 5 (.s (.s (.s (.s (.s (.z))))))) (by /- 11 -/ first | exact True.intro | omega | exact ⟨by omega, by omega, by decide⟩ | (unfold cardStep; rw [← e_v_name, if_pos (by simpa using ht1)]; exact e_v_cards_1) | (unfold cardStep; rw [← e_v_name, if_neg (by simpa using he1)]) | (unfold sendStep; rw [← e_v_there, ← e_v_one, ← e_v_other, ← hc, if_pos (by simpa using ht2)]; exact e_v_sends_1) | (unfold sendStep; rw [← e_v_there, ← e_v_one, ← e_v_other, ← hc, if_neg (by simpa using he2)]) | skip))) (fun _ => .s (.s (.s (.s (.s (.s (.s (.z)))))))) (fun v_there e_v_there =>
    (c_par2 c 8 9 (s1 := fun a => .val rTxt a) (s2 := fun a => .val rTxt a) (ve_d (c_callF2 c h__law_drawn_name (c_var c 7 (.s (.s (.s (.s (.s (.s (.s (.z))))))))) (de_add (c_var c 5 (.s (.s (.s (.s (.s (.z))))))) de_int) (by /- 12 -/ first | exact True.intro | omega | exact ⟨by omega, by omega, by decide⟩ | (unfold cardStep; rw [← e_v_name, if_pos (by simpa using ht1)]; exact e_v_cards_1) | (unfold cardStep; rw [← e_v_name, if_neg (by simpa using he1)]) | (unfold sendStep; rw [← e_v_there, ← e_v_one, ← e_v_other, ← hc, if_pos (by simpa using ht2)]; exact e_v_sends_1) | (unfold sendStep; rw [← e_v_there, ← e_v_one, ← e_v_other, ← hc, if_neg (by simpa using he2)]) | skip))) (ve_d (c_callF2 c h__law_drawn_name (c_var c 7 (.s (.s (.s (.s (.s (.s (.s (.z))))))))) (de_add (c_var c 5 (.s (.s (.s (.s (.s (.z))))))) de_int) (by /- 13 -/ first | exact True.intro | omega | exact ⟨by omega, by omega, by decide⟩ | (unfold cardStep; rw [← e_v_name, if_pos (by simpa using ht1)]; exact e_v_cards_1) | (unfold cardStep; rw [← e_v_name, if_neg (by simpa using he1)]) | (unfold sendStep; rw [← e_v_there, ← e_v_one, ← e_v_other, ← hc, if_pos (by simpa using ht2)]; exact e_v_sends_1) | (unfold sendStep; rw [← e_v_there, ← e_v_one, ← e_v_other, ← hc, if_neg (by simpa using he2)]) | skip))) (fun _ => .s (.s (.s (.s (.s (.s (.s (.s (.z))))))))) (fun _ _ => .s (.s (.s (.s (.s (.s (.s (.s (.s (.z)))))))))) (fun v_one v_other e_v_one e_v_other =>
    (sd_ifE (dt_thaw (frz_list _) (.s (.s (.s (.s (.z))))) (.s (.s (.s (.s (.z))))) (dt_thaw (frz_list _) (.s (.s (.s (.z)))) (.s (.s (.s (.z)))) (dw_pt (dw_and ((c_ninL c flat_txt (c_var c 8 (.s (.s (.s (.s (.s (.s (.s (.s (.z)))))))))) (c_var c 3 (.s (.s (.s (.z))))))).t (fun h1 => (dw_and1 ((c_ninL c flat_txt (c_var c 8 (.s (.s (.s (.s (.s (.s (.s (.s (.z)))))))))) (de_of_dm (dm_lc c (c_lc c [("_law_pair", 10)] [10] [10] _ (di_list (c_var c 4 (.s (.s (.s (.s (.z))))))) (fun _ _ c1 => (c_tname c1 10)) (fun _ => .s (.s (.s (.s (.s (.s (.s (.s (.s (.s (.z))))))))))) (fun _ _ x1 c1 hx1 => (de_ixP0 (c_var c1 10 (.s (.s (.s (.s (.s (.s (.s (.s (.s (.s (.z)))))))))))))) (by /- 14 -/ first | exact True.intro | omega | exact ⟨by omega, by omega, by decide⟩ | (unfold cardStep; rw [← e_v_name, if_pos (by simpa using ht1)]; exact e_v_cards_1) | (unfold cardStep; rw [← e_v_name, if_neg (by simpa using he1)]) | (unfold sendStep; rw [← e_v_there, ← e_v_one, ← e_v_other, ← hc, if_pos (by simpa using ht2)]; exact e_v_sends_1) | (unfold sendStep; rw [← e_v_there, ← e_v_one, ← e_v_other, ← hc, if_neg (by simpa using he2)]) | skip) (Uns.all (.cons (.s (.s (.s (.s (.s (.s (.s (.s (.s (.s (.z))))))))))) .nil))))))).t)))))) (fun ht2 => (c_append c 4 (.s (.s (.s (.s (.z))))) (de_pair (da_cons (c_var c 8 (.s (.s (.s (.s (.s (.s (.s (.s (.z)))))))))) (da_cons (c_var c 9 (.s (.s (.s (.s (.s (.s (.s (.s (.s (.z))))))))))) da_nil))) (.s (.s (.s (.s (.z))))) (sd_gen (Γf := fun v_sends_1 => [.val (rScr K) v_script, .val rInt v_by, .val rInt v_cell, .own (oList rTxt) s1, .own (oList (rPair rTxt rTxt)) v_sends_1, .val rInt y2, .un, .val rInt v_there, .val rTxt v_one, .val rTxt v_other, .un]) _ (fun v_sends_1 e_v_sends_1 =>
    (sd_go (.k (.k (.k (.k (.o (by /- 15 -/ first | exact True.intro | omega | exact ⟨by omega, by omega, by decide⟩ | (unfold cardStep; rw [← e_v_name, if_pos (by simpa using ht1)]; exact e_v_cards_1) | (unfold cardStep; rw [← e_v_name, if_neg (by simpa using he1)]) | (unfold sendStep; rw [← e_v_there, ← e_v_one, ← e_v_other, ← hc, if_pos (by simpa using ht2)]; exact e_v_sends_1) | (unfold sendStep; rw [← e_v_there, ← e_v_one, ← e_v_other, ← hc, if_neg (by simpa using he2)]) | skip) (.u (.k (.u (.u (.u (.k .nil))))))))))) (fun _ _ h => h)))) (by /- 16 -/ first | exact True.intro | omega | exact ⟨by omega, by omega, by decide⟩ | (unfold cardStep; rw [← e_v_name, if_pos (by simpa using ht1)]; exact e_v_cards_1) | (unfold cardStep; rw [← e_v_name, if_neg (by simpa using he1)]) | (unfold sendStep; rw [← e_v_there, ← e_v_one, ← e_v_other, ← hc, if_pos (by simpa using ht2)]; exact e_v_sends_1) | (unfold sendStep; rw [← e_v_there, ← e_v_one, ← e_v_other, ← hc, if_neg (by simpa using he2)]) | skip))) (fun he2 =>
    (sd_go (.k (.k (.k (.k (.o (by /- 17 -/ first | exact True.intro | omega | exact ⟨by omega, by omega, by decide⟩ | (unfold cardStep; rw [← e_v_name, if_pos (by simpa using ht1)]; exact e_v_cards_1) | (unfold cardStep; rw [← e_v_name, if_neg (by simpa using he1)]) | (unfold sendStep; rw [← e_v_there, ← e_v_one, ← e_v_other, ← hc, if_pos (by simpa using ht2)]; exact e_v_sends_1) | (unfold sendStep; rw [← e_v_there, ← e_v_one, ← e_v_other, ← hc, if_neg (by simpa using he2)]) | skip) (.u (.k (.u (.u (.u (.k .nil))))))))))) (fun _ _ h => h)))))))))))
  (fun s2 hs2 =>
  (sd_freeze (frz_list _) (.s (.s (.s (.s (.z))))) (.s (.s (.s (.s (.z))))) (sd_freeze (frz_list _) (.s (.s (.s (.z)))) (.s (.s (.s (.z)))) (sd_retC hD (de_pair (da_cons (c_var c 3 (.s (.s (.s (.z))))) (da_cons (c_var c 4 (.s (.s (.s (.s (.z)))))) da_nil))) (by /- ret 1 -/ (have hc : s1 = cardsL v_script v_by := by rw [hs1, e_v_cards, e_v_cell]; rfl); rw [hs2, e_v_sends, hc, e_v_cell]; rfl))))))))))))))
abbrev s__law_walk : Stmt := top 27
theorem sc_s__law_walk : FnScope ["_law_cards", "_law_sends", "_law_name", "_law_found", "_law_there", "_law_one", "_law_other"] ["_law_cards", "_law_sends", "_law_name"] (defScope s__law_walk) := ⟨rfl, rfl, rfl, by decide +kernel, rfl, by decide +kernel, by decide +kernel⟩
abbrev P__law_walk (P : Program) (w : World) (K : PySem.W.Frag) (mg : Str → Option Value) (base : Heap) : Prop := FN P w K mg base CX0 1 "_law_walk" ["_law_cards", "_law_sends", "_law_name"] (SpF3 (rList rTxt) (rList (rPair rTxt rTxt)) rTxt (fun c s _ => s.length ≤ 1000 ∧ (s.map (·.1)).Nodup) (rPair (rList rTxt) rTxt) (cameL))
set_option maxHeartbeats 4000000 in
theorem ok__law_walk  (T : FT K mg "_law_walk" "_law_walk" s__law_walk ["_law_cards", "_law_sends", "_law_name"]) : P__law_walk P w K mg base :=
  fnF3 T sc_s__law_walk (vs := [0, 1, 2, 3, 4]) (by decide +kernel) [.un, .un, .un, .un] (body := fun X B D v_cards v_sends v_name c hp hD hn =>
  (c_asgM c 3 (dm_list (dl_cons (c_var c 2 (.s (.s (.z)))) dl_nil)) (fun _ => .s (.s (.s (.z)))) (fun v_found e_v_found =>
  (sd_while c.po (S := (List Txt)) (fun s1 => [.val (rList rTxt) v_cards, .val (rList (rPair rTxt rTxt)) v_sends, .val rTxt v_name, .own (oList rTxt) s1, .un, .un, .un]) (fun s => CaI v_cards v_sends v_name s) (fun s => v_sends.length + 1 - s.length) (v_found) (.k (.k (.k (.k (.k (.k (.k .nil))))))) (by /- 0 -/ first | exact True.intro | omega | (have := hi1.ne; omega) | (rw [e_v_found]; exact ca_start _ _ _) | (show CaI v_cards v_sends v_name v_found_1 ∧ v_sends.length + 1 - v_found_1.length < v_sends.length + 1 - s1.length; have z := hi1.next lc ts.1 (by have h := he2; rw [e_v_found_1, cut_snoc, eg] at h; simpa using h); rw [e_v_found_1, eg]; exact ⟨z.1, by rw [List.length_append, List.length_singleton]; omega⟩) | (simp only [List.length_cons, List.length_nil]; omega) | skip) (fun _ s1 hi1 => (dt_thaw (frz_list _) (.s (.s (.s (.z)))) (.s (.s (.s (.z)))) ((c_ninL c flat_txt (de_ixL (c_var c 3 (.s (.s (.s (.z))))) (de_neg de_int) (by /- 1 -/ first | exact True.intro | omega | (have := hi1.ne; omega) | (rw [e_v_found]; exact ca_start _ _ _) | (show CaI v_cards v_sends v_name v_found_1 ∧ v_sends.length + 1 - v_found_1.length < v_sends.length + 1 - s1.length; have z := hi1.next lc ts.1 (by have h := he2; rw [e_v_found_1, cut_snoc, eg] at h; simpa using h); rw [e_v_found_1, eg]; exact ⟨z.1, by rw [List.length_append, List.length_singleton]; omega⟩) | (simp only [List.length_cons, List.length_nil]; omega) | skip)) (c_var c 0 (.z)))).t)) (fun _ s1 hi1 hw1 =>
    (have hl := hi1.len
    have ne := hi1.ne
    have lc : gI s1 (-1) ∉ v_cards := by simpa using hw1
    (c_asgLc c 4 (lcok_thaw (frz_list _) (.s (.s (.s (.z)))) (.s (.s (.s (.z)))) sc_txt (c_lcF c [("_law_one", 5), ("_law_other", 6)] [3, 5, 6] [5, 6] _ _ (di_list (c_var c 1 (.s (.z)))) (fun _ _ c1 => (c_tpair c1 5 6)) (fun _ => ⟨_, .s (.s (.s (.s (.s (.z))))), .s (.s (.s (.s (.s (.s (.z))))))⟩) (fun _ _ x1 c1 hx1 => (dts_one ((dc_eqS (c_var c1 5 (.s (.s (.s (.s (.s (.z))))))) (de_ixL (c_var c1 3 (.s (.s (.s (.z))))) (de_neg de_int) (by /- 2 -/ first | exact True.intro | omega | (have := hi1.ne; omega) | (rw [e_v_found]; exact ca_start _ _ _) | (show CaI v_cards v_sends v_name v_found_1 ∧ v_sends.length + 1 - v_found_1.length < v_sends.length + 1 - s1.length; have z := hi1.next lc ts.1 (by have h := he2; rw [e_v_found_1, cut_snoc, eg] at h; simpa using h); rw [e_v_found_1, eg]; exact ⟨z.1, by rw [List.length_append, List.length_singleton]; omega⟩) | (simp only [List.length_cons, List.length_nil]; omega) | skip)))).t)) (fun _ _ x1 c1 hx1 h1 => (c_var c1 6 (.s (.s (.s (.s (.s (.s (.z))))))))) (by /- 3 -/ first | exact True.intro | omega | (have := hi1.ne; omega) | (rw [e_v_found]; exact ca_start _ _ _) | (show CaI v_cards v_sends v_name v_found_1 ∧ v_sends.length + 1 - v_found_1.length < v_sends.length + 1 - s1.length; have z := hi1.next lc ts.1 (by have h := he2; rw [e_v_found_1, cut_snoc, eg] at h; simpa using h); rw [e_v_found_1, eg]; exact ⟨z.1, by rw [List.length_append, List.length_singleton]; omega⟩) | (simp only [List.length_cons, List.length_nil]; omega) | skip) (Uns.all (.cons (.s (.s (.s (.s (.s (.z)))))) (.cons (.s (.s (.s (.s (.s (.s (.z))))))) .nil))))) (fun _ => .s (.s (.s (.s (.z))))) (fun v_there e_v_there =>
    (have et : v_there = thereL v_sends (gI s1 (-1)) := e_v_there
    (sd_ifT ((c_eqD c (eqList eqTxt) (c_var c 4 (.s (.s (.s (.s (.z)))))) (de_of_dm (dm_list (dl_nil (r := rTxt)))))).t (fun ht1 => (sd_freeze (frz_list _) (.s (.s (.s (.z)))) (.s (.s (.s (.z)))) (sd_retC hD (de_pair (da_cons (c_var c 3 (.s (.s (.s (.z))))) (da_cons (de_str (l := [108, 97, 99, 107, 115]) (by decide +kernel) (by decide)) da_nil))) (by /- ret 1 -/ exact (hi1.lack lc (there_nil (by rw [← et]; exact of_decide_eq_true ht1))).symm)))) (fun he1 =>
    (have ts := there_some (sends := v_sends) (k := gI s1 (-1)) (by rw [← et]; exact of_decide_eq_false he1)
    have eg : gI v_there 0 = gO (atD v_sends (gI s1 (-1))) := by rw [et]; exact ts.2.1
    have tl : 0 < v_there.length := by rw [et]; exact ts.2.2
    (c_append c 3 (.s (.s (.s (.z)))) (de_ixL (c_var c 4 (.s (.s (.s (.s (.z)))))) de_int (by /- 4 -/ first | exact True.intro | omega | (have := hi1.ne; omega) | (rw [e_v_found]; exact ca_start _ _ _) | (show CaI v_cards v_sends v_name v_found_1 ∧ v_sends.length + 1 - v_found_1.length < v_sends.length + 1 - s1.length; have z := hi1.next lc ts.1 (by have h := he2; rw [e_v_found_1, cut_snoc, eg] at h; simpa using h); rw [e_v_found_1, eg]; exact ⟨z.1, by rw [List.length_append, List.length_singleton]; omega⟩) | (simp only [List.length_cons, List.length_nil]; omega) | skip)) (.s (.s (.s (.z)))) (sd_gen (Γf := fun v_found_1 => [.val (rList rTxt) v_cards, .val (rList (rPair rTxt rTxt)) v_sends, .val rTxt v_name, .own (oList rTxt) v_found_1, .val (rList rTxt) v_there, .un, .un]) _ (fun v_found_1 e_v_found_1 =>
    (sd_ifT (dt_thaw (frz_list _) (.s (.s (.s (.z)))) (.s (.s (.s (.z)))) ((c_inL c flat_txt (de_ixL (c_var c 4 (.s (.s (.s (.s (.z)))))) de_int (by /- 5 -/ first | exact True.intro | omega | (have := hi1.ne; omega) | (rw [e_v_found]; exact ca_start _ _ _) | (show CaI v_cards v_sends v_name v_found_1 ∧ v_sends.length + 1 - v_found_1.length < v_sends.length + 1 - s1.length; have z := hi1.next lc ts.1 (by have h := he2; rw [e_v_found_1, cut_snoc, eg] at h; simpa using h); rw [e_v_found_1, eg]; exact ⟨z.1, by rw [List.length_append, List.length_singleton]; omega⟩) | (simp only [List.length_cons, List.length_nil]; omega) | skip)) (de_of_dm (dm_sl (c_var c 3 (.s (.s (.s (.z))))) do_none (do_some (de_neg de_int)))))).t) (fun ht2 => (sd_freeze (frz_list _) (.s (.s (.s (.z)))) (.s (.s (.s (.z)))) (sd_retC hD (de_pair (da_cons (c_var c 3 (.s (.s (.s (.z))))) (da_cons (de_str (l := [114, 111, 117, 110, 100]) (by decide +kernel) (by decide)) da_nil))) (by /- ret 2 -/ rw [e_v_found_1, eg]; exact (hi1.round lc ts.1 (by have h := ht2; rw [e_v_found_1, cut_snoc, eg] at h; simpa using h)).symm)))) (fun he2 =>
    (sd_turn (Γs := fun s1 => [.val (rList rTxt) v_cards, .val (rList (rPair rTxt rTxt)) v_sends, .val rTxt v_name, .own (oList rTxt) s1, .un, .un, .un]) (Φ := fun t => (fun s => CaI v_cards v_sends v_name s) t ∧ (fun s => v_sends.length + 1 - s.length) t < (fun s => v_sends.length + 1 - s.length) s1) (v_found_1) (.k (.k (.k (.k (.u (.k (.k .nil))))))) (by /- 6 -/ first | exact True.intro | omega | (have := hi1.ne; omega) | (rw [e_v_found]; exact ca_start _ _ _) | (show CaI v_cards v_sends v_name v_found_1 ∧ v_sends.length + 1 - v_found_1.length < v_sends.length + 1 - s1.length; have z := hi1.next lc ts.1 (by have h := he2; rw [e_v_found_1, cut_snoc, eg] at h; simpa using h); rw [e_v_found_1, eg]; exact ⟨z.1, by rw [List.length_append, List.length_singleton]; omega⟩) | (simp only [List.length_cons, List.length_nil]; omega) | skip)))))) (by /- 7 -/ first | exact True.intro | omega | (have := hi1.ne; omega) | (rw [e_v_found]; exact ca_start _ _ _) | (show CaI v_cards v_sends v_name v_found_1 ∧ v_sends.length + 1 - v_found_1.length < v_sends.length + 1 - s1.length; have z := hi1.next lc ts.1 (by have h := he2; rw [e_v_found_1, cut_snoc, eg] at h; simpa using h); rw [e_v_found_1, eg]; exact ⟨z.1, by rw [List.length_append, List.length_singleton]; omega⟩) | (simp only [List.length_cons, List.length_nil]; omega) | skip))))))))))
  (fun s1 hi1 hw1 =>
  (have hl := hi1.len
  have ne := hi1.ne
  have lc : gI s1 (-1) ∈ v_cards := by simpa using hw1
  (sd_freeze (frz_list _) (.s (.s (.s (.z)))) (.s (.s (.s (.z)))) (sd_retC hD (de_pair (da_cons (c_var c 3 (.s (.s (.s (.z))))) (da_cons (de_str (l := [108, 101, 97, 100, 115]) (by decide +kernel) (by decide)) da_nil))) (by /- ret 3 -/ exact (hi1.card lc).symm)))))))))
abbrev s__law_word : Stmt := top 28
theorem sc_s__law_word : FnScope ["_law_found", "_law_words"] ["_law_found"] (defScope s__law_word) := ⟨rfl, rfl, rfl, by decide +kernel, rfl, by decide +kernel, by decide +kernel⟩
abbrev P__law_word (P : Program) (w : World) (K : PySem.W.Frag) (mg : Str → Option Value) (base : Heap) (C0 C1 C2 CAn : Addr) : Prop := FN P w K mg base CX0 1 "_law_word" ["_law_found"] (SpF1 (rLd C0 C1 C2) (fun _ => True) rTxt (fun o => wordL o.1))
set_option maxHeartbeats 4000000 in
theorem ok__law_word {C0 C1 C2 CAn : Addr} (b_isinstance : mg "isinstance" = none) (b_len : mg "len" = none) (TD : TLd K C0 C1 C2 CAn) (m_Leads : mg "Leads" = some (.ref C0)) (m_Lacks : mg "Lacks" = some (.ref C1)) (m_Round : mg "Round" = some (.ref C2)) (m_Answer : mg "Answer" = some (.ref CAn)) (T : FT K mg "_law_word" "_law_word" s__law_word ["_law_found"]) : P__law_word P w K mg base C0 C1 C2 CAn :=
  fnF1 T sc_s__law_word (vs := [0, 1]) (by decide +kernel) [.un] (body := fun X B D v_found c hp hD hn =>
  (c_asgM c 1 (dm_list (dl_nil (r := rTxt))) (fun _ => .s (.z)) (fun v_words e_v_words =>
  (sd_ifJ (fun bb => [.val (rLd C0 C1 C2) v_found, .own (oList rTxt) (if bb = true then v_words ++ [[108, 101, 97, 100, 115]] else v_words)]) (dt_val (c_isiC c (c_var c 0 (.z)) (ty_obj (TD.ci _)) (TD.k0 _) b_isinstance m_Leads)) (fun ht1 => (c_append c 1 (.s (.z)) (de_str (l := [108, 101, 97, 100, 115]) (by decide +kernel) (by decide)) (.s (.z)) (sd_gen (Γf := fun v_words_1 => [.val (rLd C0 C1 C2) v_found, .own (oList rTxt) v_words_1]) _ (fun v_words_1 e_v_words_1 =>
  (sd_go (.k (.o (by /- 0 -/ first | exact True.intro | omega | (rw [e_v_words]; decide) | assumption | (have z : decide ((v_words_6.length : Int) = 1) = true := by (have h : (decide ((v_words_6.length : Int) = 1) && true) = true := by assumption); rw [Bool.and_true] at h; exact h); (have z := of_decide_eq_true z; omega) | (rw [e_v_words_1]) | (rw [e_v_words_3]) | (rw [e_v_words_5]) | skip) .nil)) (fun _ _ h => h)))) (by /- 1 -/ first | exact True.intro | omega | (rw [e_v_words]; decide) | assumption | (have z : decide ((v_words_6.length : Int) = 1) = true := by (have h : (decide ((v_words_6.length : Int) = 1) && true) = true := by assumption); rw [Bool.and_true] at h; exact h); (have z := of_decide_eq_true z; omega) | (rw [e_v_words_1]) | (rw [e_v_words_3]) | (rw [e_v_words_5]) | skip))) (fun he1 => (sd_go (.k (.o rfl .nil)) (fun _ _ h => h))) (sd_gen (Γf := fun v_words_2 => [.val (rLd C0 C1 C2) v_found, .own (oList rTxt) v_words_2]) _ (fun v_words_2 e_v_words_2 =>
  (have w2 : v_words_2.length ≤ 1 := by rw [e_v_words_2, e_v_words]; split <;> simp
  (sd_ifJ (fun bb => [.val (rLd C0 C1 C2) v_found, .own (oList rTxt) (if bb = true then v_words_2 ++ [[108, 97, 99, 107, 115]] else v_words_2)]) (dt_val (c_isiC c (c_var c 0 (.z)) (ty_obj (TD.ci _)) (TD.k1 _) b_isinstance m_Lacks)) (fun ht2 => (c_append c 1 (.s (.z)) (de_str (l := [108, 97, 99, 107, 115]) (by decide +kernel) (by decide)) (.s (.z)) (sd_gen (Γf := fun v_words_3 => [.val (rLd C0 C1 C2) v_found, .own (oList rTxt) v_words_3]) _ (fun v_words_3 e_v_words_3 =>
  (sd_go (.k (.o (by /- 2 -/ first | exact True.intro | omega | (rw [e_v_words]; decide) | assumption | (have z : decide ((v_words_6.length : Int) = 1) = true := by (have h : (decide ((v_words_6.length : Int) = 1) && true) = true := by assumption); rw [Bool.and_true] at h; exact h); (have z := of_decide_eq_true z; omega) | (rw [e_v_words_1]) | (rw [e_v_words_3]) | (rw [e_v_words_5]) | skip) .nil)) (fun _ _ h => h)))) (by /- 3 -/ first | exact True.intro | omega | (rw [e_v_words]; decide) | assumption | (have z : decide ((v_words_6.length : Int) = 1) = true := by (have h : (decide ((v_words_6.length : Int) = 1) && true) = true := by assumption); rw [Bool.and_true] at h; exact h); (have z := of_decide_eq_true z; omega) | (rw [e_v_words_1]) | (rw [e_v_words_3]) | (rw [e_v_words_5]) | skip))) (fun he2 => (sd_go (.k (.o rfl .nil)) (fun _ _ h => h))) (sd_gen (Γf := fun v_words_4 => [.val (rLd C0 C1 C2) v_found, .own (oList rTxt) v_words_4]) _ (fun v_words_4 e_v_words_4 =>
  (have w4 : v_words_4.length ≤ 2 := by rw [e_v_words_4]; split <;> (try simp) <;> omega
  (sd_ifJ (fun bb => [.val (rLd C0 C1 C2) v_found, .own (oList rTxt) (if bb = true then v_words_4 ++ [[114, 111, 117, 110, 100]] else v_words_4)]) (dt_val (c_isiC c (c_var c 0 (.z)) (ty_obj (TD.ci _)) (TD.k2 _) b_isinstance m_Round)) (fun ht3 => (c_append c 1 (.s (.z)) (de_str (l := [114, 111, 117, 110, 100]) (by decide +kernel) (by decide)) (.s (.z)) (sd_gen (Γf := fun v_words_5 => [.val (rLd C0 C1 C2) v_found, .own (oList rTxt) v_words_5]) _ (fun v_words_5 e_v_words_5 =>
  (sd_go (.k (.o (by /- 4 -/ first | exact True.intro | omega | (rw [e_v_words]; decide) | assumption | (have z : decide ((v_words_6.length : Int) = 1) = true := by (have h : (decide ((v_words_6.length : Int) = 1) && true) = true := by assumption); rw [Bool.and_true] at h; exact h); (have z := of_decide_eq_true z; omega) | (rw [e_v_words_1]) | (rw [e_v_words_3]) | (rw [e_v_words_5]) | skip) .nil)) (fun _ _ h => h)))) (by /- 5 -/ first | exact True.intro | omega | (rw [e_v_words]; decide) | assumption | (have z : decide ((v_words_6.length : Int) = 1) = true := by (have h : (decide ((v_words_6.length : Int) = 1) && true) = true := by assumption); rw [Bool.and_true] at h; exact h); (have z := of_decide_eq_true z; omega) | (rw [e_v_words_1]) | (rw [e_v_words_3]) | (rw [e_v_words_5]) | skip))) (fun he3 => (sd_go (.k (.o rfl .nil)) (fun _ _ h => h))) (sd_gen (Γf := fun v_words_6 => [.val (rLd C0 C1 C2) v_found, .own (oList rTxt) v_words_6]) _ (fun v_words_6 e_v_words_6 =>
  (have w6 : v_words_6.length ≤ 3 := by rw [e_v_words_6]; split <;> (try simp) <;> omega
  (sd_retC hD (de_thaw (frz_list _) (.s (.z)) (.s (.z)) sc_txt (de_ifExp (dw_pt (dw_and ((dc_eqI (c_len c (c_var c 1 (.s (.z))) b_len) de_int)).t (fun h1 => (dw_and1 (dt_val (c_isiC c (c_var c 0 (.z)) (ty_obj (TD.ci _)) (TD.kA _) b_isinstance m_Answer)))))) (fun h2 => (de_ixL (c_var c 1 (.s (.z))) de_int (by /- 6 -/ first | exact True.intro | omega | (rw [e_v_words]; decide) | assumption | (have z : decide ((v_words_6.length : Int) = 1) = true := by (have h : (decide ((v_words_6.length : Int) = 1) && true) = true := by assumption); rw [Bool.and_true] at h; exact h); (have z := of_decide_eq_true z; omega) | (rw [e_v_words_1]) | (rw [e_v_words_3]) | (rw [e_v_words_5]) | skip))) (fun h3 => (de_str (l := []) (by decide +kernel) (by decide))))) (by /- ret 1 -/ (rw [e_v_words_6, e_v_words_4, e_v_words_2, e_v_words]; unfold wordL; by_cases a : v_found.1 = 0 <;> by_cases b : v_found.1 = 1 <;> simp [a, b] <;> first | rfl | omega | skip))))))))))))))))))
end
end Law
namespace Law
open PySem L2 DL PySem.Spec PyProof.Rows
section
variable {P : Program} {w : World} {K : PySem.W.Frag} {mg : Str → Option Value} {base : Heap}
abbrev s__law_right : Stmt := top 29
theorem sc_s__law_right : FnScope ["_law_cards", "_law_sends", "_law_name", "_law_others", "_law_mine", "_law_pairs", "_law_due", "_law_again", "_law_found", "_law_house_here", "_law_other", "_law_good"] ["_law_cards", "_law_sends", "_law_name", "_law_others"] (defScope s__law_right) := ⟨rfl, rfl, rfl, by decide +kernel, rfl, by decide +kernel, by decide +kernel⟩
abbrev P__law_right (P : Program) (w : World) (K : PySem.W.Frag) (mg : Str → Option Value) (base : Heap) (C0 C1 C2 CAn : Addr) : Prop := FN P w K mg base CX0 5 "_law_right" ["_law_cards", "_law_sends", "_law_name", "_law_others"] (SpF4 (rList rTxt) (rList (rPair rTxt rTxt)) rTxt (rList (rPair (rPair (rList rTxt) (rList (rPair rTxt rTxt))) rTxt)) (fun c s n os => OkH c s ∧ isNameL n allS = true ∧ (∀ o ∈ os, o.1.2.length ≤ 1000 ∧ (o.1.2.map (·.1)).Nodup) ∧ os.length ≤ 1000) rBool (fun _ _ _ _ => true))
set_option maxHeartbeats 4000000 in
theorem ok__law_right {C0 C1 C2 CAn : Addr} (h_Led_shows : M_Led_shows P w K mg base C0 C1 C2) (h__law_walk : P__law_walk P w K mg base) (h__law_word : P__law_word P w K mg base C0 C1 C2 CAn) (h_led : P_led P w K mg base C0 C1 C2) (b_list : mg "list" = none) (b_range : mg "range" = none) (b_str : mg "str" = none) (TD : TLd K C0 C1 C2 CAn) (T : FT K mg "_law_right" "_law_right" s__law_right ["_law_cards", "_law_sends", "_law_name", "_law_others"]) : P__law_right P w K mg base C0 C1 C2 CAn :=
  fnF4 T sc_s__law_right (vs := [0, 1, 2, 3, 4, 5, 6, 7, 8, 9, 10, 11]) (by decide +kernel) [.un, .un, .un, .un, .un, .un, .un, .un] (body := fun X B D v_cards v_sends v_name v_others c hp hD hn =>
  (have sl := hp.1.sl
  have cl := hp.1.cl
  have lc := came_len v_cards v_sends v_name
  (c_par3 c 4 5 6 (s1 := fun a => .val (rList rTxt) a) (s2 := fun a => .val (rList (rPair rTxt rTxt)) a) (s3 := fun a => .val (rPair (rList rTxt) rTxt) a) (ve_d (de_of_dm (c_list c (c_var c 0 (.z)) b_list))) (ve_d (de_of_dm (c_list c (c_var c 1 (.s (.z))) b_list))) (ve_d (c_callF3 c h__law_walk (c_var c 0 (.z)) (c_var c 1 (.s (.z))) (c_var c 2 (.s (.s (.z)))) (by /- 0 -/ first | exact True.intro | omega | rfl | exact hp.1 | exact ⟨by omega, hp.1.sn⟩ | (rw [em, ep]; exact ⟨hp.1, hp.2.1⟩) | exact yo | exact ⟨rfl, yo⟩ | exact ⟨rfl, by omega, hp.1.sn⟩ | exact sh1 _ | (rw [ef]; show (cameL v_cards v_sends v_name).1.length ≤ 1000000; omega) | decide | (rw [ef]; show (cameL v_cards v_sends v_name).1.length + 1 ≤ 1000000; omega) | skip))) (fun _ => .s (.s (.s (.s (.z))))) (fun _ _ => .s (.s (.s (.s (.s (.z)))))) (fun _ _ _ => .s (.s (.s (.s (.s (.s (.z))))))) (fun v_mine v_pairs v_due e_v_mine e_v_pairs e_v_due =>
  (have em : v_mine = v_cards := e_v_mine
  have ep : v_pairs = v_sends := e_v_pairs
  have ed : v_due = cameL v_cards v_sends v_name := e_v_due
  (sd_forR c.po c.calm (S := Unit) (fun s1 => [.val (rList rTxt) v_cards, .val (rList (rPair rTxt rTxt)) v_sends, .val rTxt v_name, .val (rList (rPair (rPair (rList rTxt) (rList (rPair rTxt rTxt))) rTxt)) v_others, .val (rList rTxt) v_mine, .val (rList (rPair rTxt rTxt)) v_pairs, .val (rPair (rList rTxt) rTxt) v_due, .un, .un, .un, .un, .un]) (fun _ _ => true) true () (c_range1 c de_int b_range (by /- 1 -/ first | exact True.intro | omega | rfl | exact hp.1 | exact ⟨by omega, hp.1.sn⟩ | (rw [em, ep]; exact ⟨hp.1, hp.2.1⟩) | exact yo | exact ⟨rfl, yo⟩ | exact ⟨rfl, by omega, hp.1.sn⟩ | exact sh1 _ | (rw [ef]; show (cameL v_cards v_sends v_name).1.length ≤ 1000000; omega) | decide | (rw [ef]; show (cameL v_cards v_sends v_name).1.length + 1 ≤ 1000000; omega) | skip)) (fun _ => (c_tname c 7)) (.k (.k (.k (.k (.k (.k (.k (.k (.k (.k (.k (.k .nil)))))))))))) (by /- 14 -/ first | exact True.intro | omega | rfl | exact hp.1 | exact ⟨by omega, hp.1.sn⟩ | (rw [em, ep]; exact ⟨hp.1, hp.2.1⟩) | exact yo | exact ⟨rfl, yo⟩ | exact ⟨rfl, by omega, hp.1.sn⟩ | exact sh1 _ | (rw [ef]; show (cameL v_cards v_sends v_name).1.length ≤ 1000000; omega) | decide | (rw [ef]; show (cameL v_cards v_sends v_name).1.length + 1 ≤ 1000000; omega) | skip) (fun _ => fun _ => .s (.s (.s (.s (.s (.s (.s (.z)))))))) (fun _ y1 post1 s1 hm1 hq1 hs1 =>
    (have hr_y1 := mem_rng hm1; (c_asgO c 8 (c_callQ3 c h_led (c_var c 4 (.s (.s (.s (.s (.z)))))) (c_var c 5 (.s (.s (.s (.s (.s (.z))))))) (c_var c 2 (.s (.s (.z)))) (by /- 2 -/ first | exact True.intro | omega | rfl | exact hp.1 | exact ⟨by omega, hp.1.sn⟩ | (rw [em, ep]; exact ⟨hp.1, hp.2.1⟩) | exact yo | exact ⟨rfl, yo⟩ | exact ⟨rfl, by omega, hp.1.sn⟩ | exact sh1 _ | (rw [ef]; show (cameL v_cards v_sends v_name).1.length ≤ 1000000; omega) | decide | (rw [ef]; show (cameL v_cards v_sends v_name).1.length + 1 ≤ 1000000; omega) | skip)) (fun _ => .s (.s (.s (.s (.s (.s (.s (.s (.z))))))))) (fun v_found e_v_found =>
    (have ef : v_found = ledL v_cards v_sends v_name := by rw [e_v_found, em, ep]
    (sd_ifF (dt_thaw (frz_of frzN_ld) (.s (.s (.s (.s (.s (.s (.s (.s (.z))))))))) (.s (.s (.s (.s (.s (.s (.s (.s (.z))))))))) (dw_pt (dw_or ((c_neD c (eqL2 (eqList eqTxt) (eqList (eqPair eqTxt eqTxt))) (de_l2 (da_cons (c_var c 4 (.s (.s (.s (.s (.z)))))) (da_cons (c_var c 5 (.s (.s (.s (.s (.s (.z))))))) da_nil))) (de_l2 (da_cons (c_var c 0 (.z)) (da_cons (c_var c 1 (.s (.z))) da_nil))))).t (fun h1 => (dw_or1 ((c_neD c (eqPair (eqList eqTxt) eqTxt) (de_pair (da_cons (c_fld c 0 (c_var c 8 (.s (.s (.s (.s (.s (.s (.s (.s (.z)))))))))) (.z) (TD.cl _) (TD.na _)) (da_cons (c_callF1 c h__law_word (c_var c 8 (.s (.s (.s (.s (.s (.s (.s (.s (.z)))))))))) (by /- 3 -/ first | exact True.intro | omega | rfl | exact hp.1 | exact ⟨by omega, hp.1.sn⟩ | (rw [em, ep]; exact ⟨hp.1, hp.2.1⟩) | exact yo | exact ⟨rfl, yo⟩ | exact ⟨rfl, by omega, hp.1.sn⟩ | exact sh1 _ | (rw [ef]; show (cameL v_cards v_sends v_name).1.length ≤ 1000000; omega) | decide | (rw [ef]; show (cameL v_cards v_sends v_name).1.length + 1 ≤ 1000000; omega) | skip)) da_nil))) (c_var c 6 (.s (.s (.s (.s (.s (.s (.z)))))))))).t))))) (by /- if 1 -/ (rw [em, ep, ef, ed, led_pair]; simp))
    (sd_ifF (dt_thaw (frz_of frzN_ld) (.s (.s (.s (.s (.s (.s (.s (.s (.z))))))))) (.s (.s (.s (.s (.s (.s (.s (.s (.z))))))))) ((c_nisB c (c_methF4 c (h_Led_shows _) (c_var c 8 (.s (.s (.s (.s (.s (.s (.s (.s (.z)))))))))) (c_var c 0 (.z)) (c_var c 1 (.s (.z))) (c_var c 2 (.s (.s (.z)))) (by /- 4 -/ first | exact True.intro | omega | rfl | exact hp.1 | exact ⟨by omega, hp.1.sn⟩ | (rw [em, ep]; exact ⟨hp.1, hp.2.1⟩) | exact yo | exact ⟨rfl, yo⟩ | exact ⟨rfl, by omega, hp.1.sn⟩ | exact sh1 _ | (rw [ef]; show (cameL v_cards v_sends v_name).1.length ≤ 1000000; omega) | decide | (rw [ef]; show (cameL v_cards v_sends v_name).1.length + 1 ≤ 1000000; omega) | skip)) de_bl)).t) (by /- if 2 -/ (rw [ef, shows_led]; simp))
    (sd_forR c.po c.calm (S := Unit) (fun s2 => [.val (rList rTxt) v_cards, .val (rList (rPair rTxt rTxt)) v_sends, .val rTxt v_name, .val (rList (rPair (rPair (rList rTxt) (rList (rPair rTxt rTxt))) rTxt)) v_others, .val (rList rTxt) v_mine, .val (rList (rPair rTxt rTxt)) v_pairs, .val (rPair (rList rTxt) rTxt) v_due, .val rInt y1, .own (oLd C0 C1 C2) v_found, .un, .un, .un]) (fun _ _ => true) true () (di_list (c_var c 3 (.s (.s (.s (.z)))))) (fun _ => (c_tpair c 9 10)) (.k (.k (.k (.k (.k (.k (.k (.k (.k (.k (.k (.k .nil)))))))))))) (by /- 10 -/ first | exact True.intro | omega | rfl | exact hp.1 | exact ⟨by omega, hp.1.sn⟩ | (rw [em, ep]; exact ⟨hp.1, hp.2.1⟩) | exact yo | exact ⟨rfl, yo⟩ | exact ⟨rfl, by omega, hp.1.sn⟩ | exact sh1 _ | (rw [ef]; show (cameL v_cards v_sends v_name).1.length ≤ 1000000; omega) | decide | (rw [ef]; show (cameL v_cards v_sends v_name).1.length + 1 ≤ 1000000; omega) | skip) (fun _ => fun _ => ⟨_, .s (.s (.s (.s (.s (.s (.s (.s (.s (.z))))))))), .s (.s (.s (.s (.s (.s (.s (.s (.s (.s (.z))))))))))⟩) (fun _ y2 post2 s2 hm2 hq2 hs2 =>
      (have yo := hp.2.2.1 y2 hm2
      (c_asg c 11 ((c_eqD c (eqPair (eqList eqTxt) eqTxt) (c_callF3 c h__law_walk (de_ixP0 (c_var c 9 (.s (.s (.s (.s (.s (.s (.s (.s (.s (.z)))))))))))) (de_ixP1 (c_var c 9 (.s (.s (.s (.s (.s (.s (.s (.s (.s (.z)))))))))))) (c_var c 10 (.s (.s (.s (.s (.s (.s (.s (.s (.s (.s (.z)))))))))))) (by /- 5 -/ first | exact True.intro | omega | rfl | exact hp.1 | exact ⟨by omega, hp.1.sn⟩ | (rw [em, ep]; exact ⟨hp.1, hp.2.1⟩) | exact yo | exact ⟨rfl, yo⟩ | exact ⟨rfl, by omega, hp.1.sn⟩ | exact sh1 _ | (rw [ef]; show (cameL v_cards v_sends v_name).1.length ≤ 1000000; omega) | decide | (rw [ef]; show (cameL v_cards v_sends v_name).1.length + 1 ≤ 1000000; omega) | skip)) (c_var c 6 (.s (.s (.s (.s (.s (.s (.z)))))))))).v (fun _ => .s (.s (.s (.s (.s (.s (.s (.s (.s (.s (.s (.z)))))))))))) (fun v_good e_v_good =>
      (have eg : v_good = decide (cameL y2.1.1 y2.1.2 y2.2 = cameL v_cards v_sends v_name) := by rw [e_v_good, ed]
      (sd_ifF (dt_thaw (frz_of frzN_ld) (.s (.s (.s (.s (.s (.s (.s (.s (.z))))))))) (.s (.s (.s (.s (.s (.s (.s (.s (.z))))))))) ((dc_neS (c_strB c (de_of_dm (dm_list (dl_cons (c_methF4 c (h_Led_shows _) (c_var c 8 (.s (.s (.s (.s (.s (.s (.s (.s (.z)))))))))) (de_ixP0 (c_var c 9 (.s (.s (.s (.s (.s (.s (.s (.s (.s (.z)))))))))))) (de_ixP1 (c_var c 9 (.s (.s (.s (.s (.s (.s (.s (.s (.s (.z)))))))))))) (c_var c 10 (.s (.s (.s (.s (.s (.s (.s (.s (.s (.s (.z)))))))))))) (by /- 6 -/ first | exact True.intro | omega | rfl | exact hp.1 | exact ⟨by omega, hp.1.sn⟩ | (rw [em, ep]; exact ⟨hp.1, hp.2.1⟩) | exact yo | exact ⟨rfl, yo⟩ | exact ⟨rfl, by omega, hp.1.sn⟩ | exact sh1 _ | (rw [ef]; show (cameL v_cards v_sends v_name).1.length ≤ 1000000; omega) | decide | (rw [ef]; show (cameL v_cards v_sends v_name).1.length + 1 ≤ 1000000; omega) | skip)) dl_nil))) b_str (by /- 7 -/ first | exact True.intro | omega | rfl | exact hp.1 | exact ⟨by omega, hp.1.sn⟩ | (rw [em, ep]; exact ⟨hp.1, hp.2.1⟩) | exact yo | exact ⟨rfl, yo⟩ | exact ⟨rfl, by omega, hp.1.sn⟩ | exact sh1 _ | (rw [ef]; show (cameL v_cards v_sends v_name).1.length ≤ 1000000; omega) | decide | (rw [ef]; show (cameL v_cards v_sends v_name).1.length + 1 ≤ 1000000; omega) | skip)) (c_strB c (de_of_dm (dm_list (dl_cons (c_var c 11 (.s (.s (.s (.s (.s (.s (.s (.s (.s (.s (.s (.z))))))))))))) dl_nil))) b_str (by /- 8 -/ first | exact True.intro | omega | rfl | exact hp.1 | exact ⟨by omega, hp.1.sn⟩ | (rw [em, ep]; exact ⟨hp.1, hp.2.1⟩) | exact yo | exact ⟨rfl, yo⟩ | exact ⟨rfl, by omega, hp.1.sn⟩ | exact sh1 _ | (rw [ef]; show (cameL v_cards v_sends v_name).1.length ≤ 1000000; omega) | decide | (rw [ef]; show (cameL v_cards v_sends v_name).1.length + 1 ≤ 1000000; omega) | skip)))).t) (by /- if 3 -/ (rw [shT1, ef, shows_led, eg]; simp))
      (sd_turn (Γs := fun s2 => [.val (rList rTxt) v_cards, .val (rList (rPair rTxt rTxt)) v_sends, .val rTxt v_name, .val (rList (rPair (rPair (rList rTxt) (rList (rPair rTxt rTxt))) rTxt)) v_others, .val (rList rTxt) v_mine, .val (rList (rPair rTxt rTxt)) v_pairs, .val (rPair (rList rTxt) rTxt) v_due, .val rInt y1, .own (oLd C0 C1 C2) v_found, .un, .un, .un]) (Φ := fun s2 => (fun _ _ => true) post2 s2 = true) () (.k (.k (.k (.k (.k (.k (.k (.k (.k (.u (.u (.u .nil)))))))))))) (by /- 9 -/ first | exact True.intro | omega | rfl | exact hp.1 | exact ⟨by omega, hp.1.sn⟩ | (rw [em, ep]; exact ⟨hp.1, hp.2.1⟩) | exact yo | exact ⟨rfl, yo⟩ | exact ⟨rfl, by omega, hp.1.sn⟩ | exact sh1 _ | (rw [ef]; show (cameL v_cards v_sends v_name).1.length ≤ 1000000; omega) | decide | (rw [ef]; show (cameL v_cards v_sends v_name).1.length + 1 ≤ 1000000; omega) | skip))))))))
    (fun s2 hs2 =>
    (c_appP c (.s (.s (.s (.s (.s (.s (.s (.s (.z))))))))) (dp_l (dp_fld c 0 (fun z => ((v_found).1, z)) (dp_name c 8 (.s (.s (.s (.s (.s (.s (.s (.s (.z)))))))))) rfl (fun _ => ⟨rfl, rfl⟩) (TD.cl _) (TD.na _))) (dq_of_de (de_str (l := [97]) (by decide +kernel) (by decide))) (.s (.s (.s (.s (.s (.s (.s (.s (.z))))))))) (sd_gen (Γf := fun v_found_1 => [.val (rList rTxt) v_cards, .val (rList (rPair rTxt rTxt)) v_sends, .val rTxt v_name, .val (rList (rPair (rPair (rList rTxt) (rList (rPair rTxt rTxt))) rTxt)) v_others, .val (rList rTxt) v_mine, .val (rList (rPair rTxt rTxt)) v_pairs, .val (rPair (rList rTxt) rTxt) v_due, .val rInt y1, .own (oLd C0 C1 C2) v_found_1, .un, .un, .un]) _ (fun v_found_1 e_v_found_1 =>
    (have ef1 : v_found_1 = ((ledL v_cards v_sends v_name).1, (ledL v_cards v_sends v_name).2 ++ [[97]]) := by rw [e_v_found_1, ef]; rfl
    (sd_ifF (dt_thaw (frz_of frzN_ld) (.s (.s (.s (.s (.s (.s (.s (.s (.z))))))))) (.s (.s (.s (.s (.s (.s (.s (.s (.z))))))))) ((c_nisB c (c_methF4 c (h_Led_shows _) (c_var c 8 (.s (.s (.s (.s (.s (.s (.s (.s (.z)))))))))) (c_var c 0 (.z)) (c_var c 1 (.s (.z))) (c_var c 2 (.s (.s (.z)))) (by /- 12 -/ first | exact True.intro | omega | rfl | exact hp.1 | exact ⟨by omega, hp.1.sn⟩ | (rw [em, ep]; exact ⟨hp.1, hp.2.1⟩) | exact yo | exact ⟨rfl, yo⟩ | exact ⟨rfl, by omega, hp.1.sn⟩ | exact sh1 _ | (rw [ef]; show (cameL v_cards v_sends v_name).1.length ≤ 1000000; omega) | decide | (rw [ef]; show (cameL v_cards v_sends v_name).1.length + 1 ≤ 1000000; omega) | skip)) de_bl)).t) (by /- if 4 -/ (rw [ef1, shows_more]; rfl))
    (sd_turn (Γs := fun s1 => [.val (rList rTxt) v_cards, .val (rList (rPair rTxt rTxt)) v_sends, .val rTxt v_name, .val (rList (rPair (rPair (rList rTxt) (rList (rPair rTxt rTxt))) rTxt)) v_others, .val (rList rTxt) v_mine, .val (rList (rPair rTxt rTxt)) v_pairs, .val (rPair (rList rTxt) rTxt) v_due, .un, .un, .un, .un, .un]) (Φ := fun s1 => (fun _ _ => true) post1 s1 = true) () (.k (.k (.k (.k (.k (.k (.k (.u (.u (.k (.k (.k .nil)))))))))))) (by /- 13 -/ first | exact True.intro | omega | rfl | exact hp.1 | exact ⟨by omega, hp.1.sn⟩ | (rw [em, ep]; exact ⟨hp.1, hp.2.1⟩) | exact yo | exact ⟨rfl, yo⟩ | exact ⟨rfl, by omega, hp.1.sn⟩ | exact sh1 _ | (rw [ef]; show (cameL v_cards v_sends v_name).1.length ≤ 1000000; omega) | decide | (rw [ef]; show (cameL v_cards v_sends v_name).1.length + 1 ≤ 1000000; omega) | skip)))))) (by /- 11 -/ first | exact True.intro | omega | rfl | exact hp.1 | exact ⟨by omega, hp.1.sn⟩ | (rw [em, ep]; exact ⟨hp.1, hp.2.1⟩) | exact yo | exact ⟨rfl, yo⟩ | exact ⟨rfl, by omega, hp.1.sn⟩ | exact sh1 _ | (rw [ef]; show (cameL v_cards v_sends v_name).1.length ≤ 1000000; omega) | decide | (rw [ef]; show (cameL v_cards v_sends v_name).1.length + 1 ≤ 1000000; omega) | skip)))))))))))
  (fun s1 hs1 =>
  (sd_retC hD de_bl (by /- ret 1 -/ rfl)))))))))
abbrev s__law_long_right : Stmt := top 30
theorem sc_s__law_long_right : FnScope ["_law_far", "_law_names", "_law_sends", "_law_ring", "_law_found", "_law_k", "_law_one", "_law_other", "_law_pair"] ["_law_far"] (defScope s__law_long_right) := ⟨rfl, rfl, rfl, by decide +kernel, rfl, by decide +kernel, by decide +kernel⟩
abbrev P__law_long_right (P : Program) (w : World) (K : PySem.W.Frag) (mg : Str → Option Value) (base : Heap) (C0 C1 C2 CAn : Addr) : Prop := FN P w K mg base CX0 5 "_law_long_right" ["_law_far"] (SpF1 rInt (fun _ => True) rBool (fun _ => true))
set_option maxHeartbeats 4000000 in
theorem ok__law_long_right {C0 C1 C2 CAn : Addr} (h_led : P_led P w K mg base C0 C1 C2) (h_lost : P_lost P w K mg base) (b_isinstance : mg "isinstance" = none) (b_range : mg "range" = none) (TD : TLd K C0 C1 C2 CAn) (m_Lacks : mg "Lacks" = some (.ref C1)) (m_Round : mg "Round" = some (.ref C2)) (T : FT K mg "_law_long_right" "_law_long_right" s__law_long_right ["_law_far"]) : P__law_long_right P w K mg base C0 C1 C2 CAn :=
  fnF1 T sc_s__law_long_right (vs := [0, 1, 2, 3, 4]) (by decide +kernel) [.un, .un, .un, .un, .un, .un, .un, .un] (body := fun X B D v_far c hp hD hn =>
  (c_asgLc c 1 (c_lc c [("_law_k", 5)] [5] [5] _ (c_range1 c de_int b_range (by /- 0 -/ first | exact True.intro | omega | (rw [rng_len]; decide) | (rw [rng_len]; omega) | (rw [en]; exact ⟨o0, n0⟩) | (rw [en]; exact o0) | exact oz | (rw [en]; exact ⟨oz, n9⟩) | (rw [en]; exact ⟨orr, n3⟩) | (simp only [List.length_cons, List.length_nil]; omega) | (have := cut_lenle v_sends (some (v_far % 40)) none; have := cut_lenle v_sends none (some (v_far % 40)); omega) | (have := cut_lenle v_names (some 3) (some 40); simp only [List.length_cons, List.length_nil]; omega) | skip)) (fun _ _ c1 => (c_tname c1 5)) (fun _ => .s (.s (.s (.s (.s (.z)))))) (fun _ _ x1 c1 hx1 => (have hr_x1 := mem_rng hx1; (de_repS (de_ixS (de_str (l := [97, 98, 99, 100, 101, 102, 103, 104]) (by decide +kernel) (by decide)) (de_mod (c_var c1 5 (.s (.s (.s (.s (.s (.z))))))) de_int (by /- 1 -/ first | exact True.intro | omega | (rw [rng_len]; decide) | (rw [rng_len]; omega) | (rw [en]; exact ⟨o0, n0⟩) | (rw [en]; exact o0) | exact oz | (rw [en]; exact ⟨oz, n9⟩) | (rw [en]; exact ⟨orr, n3⟩) | (simp only [List.length_cons, List.length_nil]; omega) | (have := cut_lenle v_sends (some (v_far % 40)) none; have := cut_lenle v_sends none (some (v_far % 40)); omega) | (have := cut_lenle v_names (some 3) (some 40); simp only [List.length_cons, List.length_nil]; omega) | skip)) (by /- 2 -/ first | exact True.intro | omega | (rw [rng_len]; decide) | (rw [rng_len]; omega) | (rw [en]; exact ⟨o0, n0⟩) | (rw [en]; exact o0) | exact oz | (rw [en]; exact ⟨oz, n9⟩) | (rw [en]; exact ⟨orr, n3⟩) | (simp only [List.length_cons, List.length_nil]; omega) | (have := cut_lenle v_sends (some (v_far % 40)) none; have := cut_lenle v_sends none (some (v_far % 40)); omega) | (have := cut_lenle v_names (some 3) (some 40); simp only [List.length_cons, List.length_nil]; omega) | skip) (by /- 3 -/ first | exact True.intro | omega | (rw [rng_len]; decide) | (rw [rng_len]; omega) | (rw [en]; exact ⟨o0, n0⟩) | (rw [en]; exact o0) | exact oz | (rw [en]; exact ⟨oz, n9⟩) | (rw [en]; exact ⟨orr, n3⟩) | (simp only [List.length_cons, List.length_nil]; omega) | (have := cut_lenle v_sends (some (v_far % 40)) none; have := cut_lenle v_sends none (some (v_far % 40)); omega) | (have := cut_lenle v_names (some 3) (some 40); simp only [List.length_cons, List.length_nil]; omega) | skip)) (de_add de_int (de_fdiv (c_var c1 5 (.s (.s (.s (.s (.s (.z))))))) de_int (by /- 4 -/ first | exact True.intro | omega | (rw [rng_len]; decide) | (rw [rng_len]; omega) | (rw [en]; exact ⟨o0, n0⟩) | (rw [en]; exact o0) | exact oz | (rw [en]; exact ⟨oz, n9⟩) | (rw [en]; exact ⟨orr, n3⟩) | (simp only [List.length_cons, List.length_nil]; omega) | (have := cut_lenle v_sends (some (v_far % 40)) none; have := cut_lenle v_sends none (some (v_far % 40)); omega) | (have := cut_lenle v_names (some 3) (some 40); simp only [List.length_cons, List.length_nil]; omega) | skip))) (by /- 5 -/ first | exact True.intro | omega | (rw [rng_len]; decide) | (rw [rng_len]; omega) | (rw [en]; exact ⟨o0, n0⟩) | (rw [en]; exact o0) | exact oz | (rw [en]; exact ⟨oz, n9⟩) | (rw [en]; exact ⟨orr, n3⟩) | (simp only [List.length_cons, List.length_nil]; omega) | (have := cut_lenle v_sends (some (v_far % 40)) none; have := cut_lenle v_sends none (some (v_far % 40)); omega) | (have := cut_lenle v_names (some 3) (some 40); simp only [List.length_cons, List.length_nil]; omega) | skip)))) (by /- 6 -/ first | exact True.intro | omega | (rw [rng_len]; decide) | (rw [rng_len]; omega) | (rw [en]; exact ⟨o0, n0⟩) | (rw [en]; exact o0) | exact oz | (rw [en]; exact ⟨oz, n9⟩) | (rw [en]; exact ⟨orr, n3⟩) | (simp only [List.length_cons, List.length_nil]; omega) | (have := cut_lenle v_sends (some (v_far % 40)) none; have := cut_lenle v_sends none (some (v_far % 40)); omega) | (have := cut_lenle v_names (some 3) (some 40); simp only [List.length_cons, List.length_nil]; omega) | skip) (Uns.all (.cons (.s (.s (.s (.s (.s (.z)))))) .nil))) (fun _ => .s (.z)) (fun v_names e_v_names =>
  (have en : v_names = namesN := by rw [e_v_names]; decide +kernel
  have nl : v_names.length = 41 := by rw [en]; decide +kernel
  (c_asgLc c 2 (c_lc c [("_law_k", 5)] [1, 5] [5] _ (c_range1 c de_int b_range (by /- 7 -/ first | exact True.intro | omega | (rw [rng_len]; decide) | (rw [rng_len]; omega) | (rw [en]; exact ⟨o0, n0⟩) | (rw [en]; exact o0) | exact oz | (rw [en]; exact ⟨oz, n9⟩) | (rw [en]; exact ⟨orr, n3⟩) | (simp only [List.length_cons, List.length_nil]; omega) | (have := cut_lenle v_sends (some (v_far % 40)) none; have := cut_lenle v_sends none (some (v_far % 40)); omega) | (have := cut_lenle v_names (some 3) (some 40); simp only [List.length_cons, List.length_nil]; omega) | skip)) (fun _ _ c2 => (c_tname c2 5)) (fun _ => .s (.s (.s (.s (.s (.z)))))) (fun _ _ x2 c2 hx2 => (have hr_x2 := mem_rng hx2; (de_pair (da_cons (de_ixL (c_var c2 1 (.s (.z))) (c_var c2 5 (.s (.s (.s (.s (.s (.z))))))) (by /- 8 -/ first | exact True.intro | omega | (rw [rng_len]; decide) | (rw [rng_len]; omega) | (rw [en]; exact ⟨o0, n0⟩) | (rw [en]; exact o0) | exact oz | (rw [en]; exact ⟨oz, n9⟩) | (rw [en]; exact ⟨orr, n3⟩) | (simp only [List.length_cons, List.length_nil]; omega) | (have := cut_lenle v_sends (some (v_far % 40)) none; have := cut_lenle v_sends none (some (v_far % 40)); omega) | (have := cut_lenle v_names (some 3) (some 40); simp only [List.length_cons, List.length_nil]; omega) | skip)) (da_cons (de_ixL (c_var c2 1 (.s (.z))) (de_add (c_var c2 5 (.s (.s (.s (.s (.s (.z))))))) de_int) (by /- 9 -/ first | exact True.intro | omega | (rw [rng_len]; decide) | (rw [rng_len]; omega) | (rw [en]; exact ⟨o0, n0⟩) | (rw [en]; exact o0) | exact oz | (rw [en]; exact ⟨oz, n9⟩) | (rw [en]; exact ⟨orr, n3⟩) | (simp only [List.length_cons, List.length_nil]; omega) | (have := cut_lenle v_sends (some (v_far % 40)) none; have := cut_lenle v_sends none (some (v_far % 40)); omega) | (have := cut_lenle v_names (some 3) (some 40); simp only [List.length_cons, List.length_nil]; omega) | skip)) da_nil))))) (by /- 10 -/ first | exact True.intro | omega | (rw [rng_len]; decide) | (rw [rng_len]; omega) | (rw [en]; exact ⟨o0, n0⟩) | (rw [en]; exact o0) | exact oz | (rw [en]; exact ⟨oz, n9⟩) | (rw [en]; exact ⟨orr, n3⟩) | (simp only [List.length_cons, List.length_nil]; omega) | (have := cut_lenle v_sends (some (v_far % 40)) none; have := cut_lenle v_sends none (some (v_far % 40)); omega) | (have := cut_lenle v_names (some 3) (some 40); simp only [List.length_cons, List.length_nil]; omega) | skip) (Uns.all (.cons (.s (.s (.s (.s (.s (.z)))))) .nil))) (fun _ => .s (.s (.z))) (fun v_sends e_v_sends =>
  (have es : v_sends = sends0 := by rw [e_v_sends, en]; rfl
  have s0l : v_sends.length = 40 := by rw [es]; decide +kernel
  (c_asg c 2 (de_of_dm (dm_cat (de_of_dm (dm_sl (c_var c 2 (.s (.s (.z)))) (do_some (de_mod (c_var c 0 (.z)) de_int (by /- 11 -/ first | exact True.intro | omega | (rw [rng_len]; decide) | (rw [rng_len]; omega) | (rw [en]; exact ⟨o0, n0⟩) | (rw [en]; exact o0) | exact oz | (rw [en]; exact ⟨oz, n9⟩) | (rw [en]; exact ⟨orr, n3⟩) | (simp only [List.length_cons, List.length_nil]; omega) | (have := cut_lenle v_sends (some (v_far % 40)) none; have := cut_lenle v_sends none (some (v_far % 40)); omega) | (have := cut_lenle v_names (some 3) (some 40); simp only [List.length_cons, List.length_nil]; omega) | skip))) do_none)) (de_of_dm (dm_sl (c_var c 2 (.s (.s (.z)))) do_none (do_some (de_mod (c_var c 0 (.z)) de_int (by /- 12 -/ first | exact True.intro | omega | (rw [rng_len]; decide) | (rw [rng_len]; omega) | (rw [en]; exact ⟨o0, n0⟩) | (rw [en]; exact o0) | exact oz | (rw [en]; exact ⟨oz, n9⟩) | (rw [en]; exact ⟨orr, n3⟩) | (simp only [List.length_cons, List.length_nil]; omega) | (have := cut_lenle v_sends (some (v_far % 40)) none; have := cut_lenle v_sends none (some (v_far % 40)); omega) | (have := cut_lenle v_names (some 3) (some 40); simp only [List.length_cons, List.length_nil]; omega) | skip))))) (by /- 13 -/ first | exact True.intro | omega | (rw [rng_len]; decide) | (rw [rng_len]; omega) | (rw [en]; exact ⟨o0, n0⟩) | (rw [en]; exact o0) | exact oz | (rw [en]; exact ⟨oz, n9⟩) | (rw [en]; exact ⟨orr, n3⟩) | (simp only [List.length_cons, List.length_nil]; omega) | (have := cut_lenle v_sends (some (v_far % 40)) none; have := cut_lenle v_sends none (some (v_far % 40)); omega) | (have := cut_lenle v_names (some 3) (some 40); simp only [List.length_cons, List.length_nil]; omega) | skip))) (fun _ => .s (.s (.z))) (fun v_sends_1 e_v_sends_1 =>
  (have m40 : 0 ≤ v_far % 40 := Int.emod_nonneg _ (by decide)
  have pr : sends0.Perm v_sends_1 := by rw [e_v_sends_1, es]; exact (rot_perm sends0 m40).symm
  have sn0 := okH_0.sn
  have o0 : OkH (cutL namesN (some 40) none) v_sends_1 := okH_perm pr okH_0
  have oz : OkH [[122]] v_sends_1 := okH_perm pr okH_z
  have n0 : isNameL (gI namesN 0) allS = true := by decide +kernel
  have n9 : isNameL (gI namesN 9) allS = true := by decide +kernel
  have n3 : isNameL (gI namesN 3) allS = true := by decide +kernel
  have sl := o0.sl
  (sd_ifF (dw_pt (dw_or ((c_neD c (eqList eqTxt) (c_fld c 0 (de_of_dq (frz_of frzN_ld) (c_callQ3 c h_led (de_of_dm (dm_sl (c_var c 1 (.s (.z))) (do_some de_int) do_none)) (c_var c 2 (.s (.s (.z)))) (de_ixL (c_var c 1 (.s (.z))) de_int (by /- 14 -/ first | exact True.intro | omega | (rw [rng_len]; decide) | (rw [rng_len]; omega) | (rw [en]; exact ⟨o0, n0⟩) | (rw [en]; exact o0) | exact oz | (rw [en]; exact ⟨oz, n9⟩) | (rw [en]; exact ⟨orr, n3⟩) | (simp only [List.length_cons, List.length_nil]; omega) | (have := cut_lenle v_sends (some (v_far % 40)) none; have := cut_lenle v_sends none (some (v_far % 40)); omega) | (have := cut_lenle v_names (some 3) (some 40); simp only [List.length_cons, List.length_nil]; omega) | skip)) (by /- 15 -/ first | exact True.intro | omega | (rw [rng_len]; decide) | (rw [rng_len]; omega) | (rw [en]; exact ⟨o0, n0⟩) | (rw [en]; exact o0) | exact oz | (rw [en]; exact ⟨oz, n9⟩) | (rw [en]; exact ⟨orr, n3⟩) | (simp only [List.length_cons, List.length_nil]; omega) | (have := cut_lenle v_sends (some (v_far % 40)) none; have := cut_lenle v_sends none (some (v_far % 40)); omega) | (have := cut_lenle v_names (some 3) (some 40); simp only [List.length_cons, List.length_nil]; omega) | skip))) (.z) (TD.cl _) (TD.na _)) (c_var c 1 (.s (.z))))).t (fun h1 => (dw_or1 ((c_neD c (eqList eqTxt) (de_of_dm (c_callM2 c h_lost (de_of_dm (dm_sl (c_var c 1 (.s (.z))) (do_some de_int) do_none)) (c_var c 2 (.s (.s (.z)))) (by /- 16 -/ first | exact True.intro | omega | (rw [rng_len]; decide) | (rw [rng_len]; omega) | (rw [en]; exact ⟨o0, n0⟩) | (rw [en]; exact o0) | exact oz | (rw [en]; exact ⟨oz, n9⟩) | (rw [en]; exact ⟨orr, n3⟩) | (simp only [List.length_cons, List.length_nil]; omega) | (have := cut_lenle v_sends (some (v_far % 40)) none; have := cut_lenle v_sends none (some (v_far % 40)); omega) | (have := cut_lenle v_names (some 3) (some 40); simp only [List.length_cons, List.length_nil]; omega) | skip))) (de_of_dm (dm_list (dl_nil (r := rTxt)))))).t)))) (by /- if 1 -/ (rw [en]; unfold ledL; rw [← came_perm pr sn0, long_1, lost_none pr sn0 long_2]; simp))
  (sd_ifF (dw_pt (dw_or ((c_neD c (eqList eqTxt) (de_of_dm (c_callM2 c h_lost (de_of_dm (dm_list (dl_cons (de_str (l := [122]) (by decide +kernel) (by decide)) dl_nil))) (c_var c 2 (.s (.s (.z)))) (by /- 17 -/ first | exact True.intro | omega | (rw [rng_len]; decide) | (rw [rng_len]; omega) | (rw [en]; exact ⟨o0, n0⟩) | (rw [en]; exact o0) | exact oz | (rw [en]; exact ⟨oz, n9⟩) | (rw [en]; exact ⟨orr, n3⟩) | (simp only [List.length_cons, List.length_nil]; omega) | (have := cut_lenle v_sends (some (v_far % 40)) none; have := cut_lenle v_sends none (some (v_far % 40)); omega) | (have := cut_lenle v_names (some 3) (some 40); simp only [List.length_cons, List.length_nil]; omega) | skip))) (de_of_dm (dm_lc c (c_lc c [("_law_pair", 8)] [8] [8] _ (di_list (c_var c 2 (.s (.s (.z))))) (fun _ _ c3 => (c_tname c3 8)) (fun _ => .s (.s (.s (.s (.s (.s (.s (.s (.z))))))))) (fun _ _ x3 c3 hx3 => (de_ixP0 (c_var c3 8 (.s (.s (.s (.s (.s (.s (.s (.s (.z)))))))))))) (by /- 18 -/ first | exact True.intro | omega | (rw [rng_len]; decide) | (rw [rng_len]; omega) | (rw [en]; exact ⟨o0, n0⟩) | (rw [en]; exact o0) | exact oz | (rw [en]; exact ⟨oz, n9⟩) | (rw [en]; exact ⟨orr, n3⟩) | (simp only [List.length_cons, List.length_nil]; omega) | (have := cut_lenle v_sends (some (v_far % 40)) none; have := cut_lenle v_sends none (some (v_far % 40)); omega) | (have := cut_lenle v_names (some 3) (some 40); simp only [List.length_cons, List.length_nil]; omega) | skip) (Uns.all (.cons (.s (.s (.s (.s (.s (.s (.s (.s (.z))))))))) .nil))))))).t (fun h2 => (dw_or1 (dt_not (dt_val (c_isiC c (de_of_dq (frz_of frzN_ld) (c_callQ3 c h_led (de_of_dm (dm_list (dl_cons (de_str (l := [122]) (by decide +kernel) (by decide)) dl_nil))) (c_var c 2 (.s (.s (.z)))) (de_ixL (c_var c 1 (.s (.z))) de_int (by /- 19 -/ first | exact True.intro | omega | (rw [rng_len]; decide) | (rw [rng_len]; omega) | (rw [en]; exact ⟨o0, n0⟩) | (rw [en]; exact o0) | exact oz | (rw [en]; exact ⟨oz, n9⟩) | (rw [en]; exact ⟨orr, n3⟩) | (simp only [List.length_cons, List.length_nil]; omega) | (have := cut_lenle v_sends (some (v_far % 40)) none; have := cut_lenle v_sends none (some (v_far % 40)); omega) | (have := cut_lenle v_names (some 3) (some 40); simp only [List.length_cons, List.length_nil]; omega) | skip)) (by /- 20 -/ first | exact True.intro | omega | (rw [rng_len]; decide) | (rw [rng_len]; omega) | (rw [en]; exact ⟨o0, n0⟩) | (rw [en]; exact o0) | exact oz | (rw [en]; exact ⟨oz, n9⟩) | (rw [en]; exact ⟨orr, n3⟩) | (simp only [List.length_cons, List.length_nil]; omega) | (have := cut_lenle v_sends (some (v_far % 40)) none; have := cut_lenle v_sends none (some (v_far % 40)); omega) | (have := cut_lenle v_names (some 3) (some 40); simp only [List.length_cons, List.length_nil]; omega) | skip))) (ty_obj (TD.ci _)) (TD.k1 _) b_isinstance m_Lacks))))))) (by /- if 2 -/ (rw [lost_all pr sn0 long_3, en]; unfold ledL; rw [← came_perm pr sn0, long_4]; simp; rfl))
  (c_asgLc c 3 (c_lc c [("_law_one", 6), ("_law_other", 7)] [1, 6, 7] [6, 7] _ (di_list (c_var c 2 (.s (.s (.z))))) (fun _ _ c4 => (c_tpair c4 6 7)) (fun _ => ⟨_, .s (.s (.s (.s (.s (.s (.z)))))), .s (.s (.s (.s (.s (.s (.s (.z)))))))⟩) (fun _ _ x4 c4 hx4 => (de_pair (da_cons (c_var c4 6 (.s (.s (.s (.s (.s (.s (.z)))))))) (da_cons (de_ifExp ((dc_eqS (c_var c4 7 (.s (.s (.s (.s (.s (.s (.s (.z))))))))) (de_ixL (c_var c4 1 (.s (.z))) de_int (by /- 21 -/ first | exact True.intro | omega | (rw [rng_len]; decide) | (rw [rng_len]; omega) | (rw [en]; exact ⟨o0, n0⟩) | (rw [en]; exact o0) | exact oz | (rw [en]; exact ⟨oz, n9⟩) | (rw [en]; exact ⟨orr, n3⟩) | (simp only [List.length_cons, List.length_nil]; omega) | (have := cut_lenle v_sends (some (v_far % 40)) none; have := cut_lenle v_sends none (some (v_far % 40)); omega) | (have := cut_lenle v_names (some 3) (some 40); simp only [List.length_cons, List.length_nil]; omega) | skip)))).t (fun h3 => (de_ixL (c_var c4 1 (.s (.z))) de_int (by /- 22 -/ first | exact True.intro | omega | (rw [rng_len]; decide) | (rw [rng_len]; omega) | (rw [en]; exact ⟨o0, n0⟩) | (rw [en]; exact o0) | exact oz | (rw [en]; exact ⟨oz, n9⟩) | (rw [en]; exact ⟨orr, n3⟩) | (simp only [List.length_cons, List.length_nil]; omega) | (have := cut_lenle v_sends (some (v_far % 40)) none; have := cut_lenle v_sends none (some (v_far % 40)); omega) | (have := cut_lenle v_names (some 3) (some 40); simp only [List.length_cons, List.length_nil]; omega) | skip))) (fun h4 => (c_var c4 7 (.s (.s (.s (.s (.s (.s (.s (.z))))))))))) da_nil)))) (by /- 23 -/ first | exact True.intro | omega | (rw [rng_len]; decide) | (rw [rng_len]; omega) | (rw [en]; exact ⟨o0, n0⟩) | (rw [en]; exact o0) | exact oz | (rw [en]; exact ⟨oz, n9⟩) | (rw [en]; exact ⟨orr, n3⟩) | (simp only [List.length_cons, List.length_nil]; omega) | (have := cut_lenle v_sends (some (v_far % 40)) none; have := cut_lenle v_sends none (some (v_far % 40)); omega) | (have := cut_lenle v_names (some 3) (some 40); simp only [List.length_cons, List.length_nil]; omega) | skip) (Uns.all (.cons (.s (.s (.s (.s (.s (.s (.z))))))) (.cons (.s (.s (.s (.s (.s (.s (.s (.z)))))))) .nil)))) (fun _ => .s (.s (.s (.z)))) (fun v_ring e_v_ring =>
  (have er : v_ring = v_sends_1.map ringG := by rw [e_v_ring, en]; apply List.map_congr_left; intro p _; unfold ringG; simp
  have prr : (sends0.map ringG).Perm v_ring := by rw [er]; exact pr.map _
  have orr : OkH [] v_ring := okH_perm prr okH_r
  (c_asg c 4 (de_of_dq (frz_of frzN_ld) (c_callQ3 c h_led (de_of_dm (dm_list (dl_nil (r := rTxt)))) (c_var c 3 (.s (.s (.s (.z))))) (de_ixL (c_var c 1 (.s (.z))) de_int (by /- 24 -/ first | exact True.intro | omega | (rw [rng_len]; decide) | (rw [rng_len]; omega) | (rw [en]; exact ⟨o0, n0⟩) | (rw [en]; exact o0) | exact oz | (rw [en]; exact ⟨oz, n9⟩) | (rw [en]; exact ⟨orr, n3⟩) | (simp only [List.length_cons, List.length_nil]; omega) | (have := cut_lenle v_sends (some (v_far % 40)) none; have := cut_lenle v_sends none (some (v_far % 40)); omega) | (have := cut_lenle v_names (some 3) (some 40); simp only [List.length_cons, List.length_nil]; omega) | skip)) (by /- 25 -/ first | exact True.intro | omega | (rw [rng_len]; decide) | (rw [rng_len]; omega) | (rw [en]; exact ⟨o0, n0⟩) | (rw [en]; exact o0) | exact oz | (rw [en]; exact ⟨oz, n9⟩) | (rw [en]; exact ⟨orr, n3⟩) | (simp only [List.length_cons, List.length_nil]; omega) | (have := cut_lenle v_sends (some (v_far % 40)) none; have := cut_lenle v_sends none (some (v_far % 40)); omega) | (have := cut_lenle v_names (some 3) (some 40); simp only [List.length_cons, List.length_nil]; omega) | skip))) (fun _ => .s (.s (.s (.s (.z))))) (fun v_found e_v_found =>
  (have ef : v_found = ledL [] (sends0.map ringG) (gI namesN 3) := by rw [e_v_found, en]; unfold ledL; rw [came_perm prr okH_r.sn]
  (sd_retC hD (de_and (c_isiC c (c_var c 4 (.s (.s (.s (.s (.z)))))) (ty_obj (TD.ci _)) (TD.k2 _) b_isinstance m_Round) (fun h5 => (de_one ((c_eqD c (eqList eqTxt) (c_fld c 0 (c_var c 4 (.s (.s (.s (.s (.z)))))) (.z) (TD.cl _) (TD.na _)) (de_of_dm (dm_cat (de_of_dm (dm_sl (c_var c 1 (.s (.z))) (do_some de_int) (do_some de_int))) (de_of_dm (dm_list (dl_cons (de_ixL (c_var c 1 (.s (.z))) de_int (by /- 26 -/ first | exact True.intro | omega | (rw [rng_len]; decide) | (rw [rng_len]; omega) | (rw [en]; exact ⟨o0, n0⟩) | (rw [en]; exact o0) | exact oz | (rw [en]; exact ⟨oz, n9⟩) | (rw [en]; exact ⟨orr, n3⟩) | (simp only [List.length_cons, List.length_nil]; omega) | (have := cut_lenle v_sends (some (v_far % 40)) none; have := cut_lenle v_sends none (some (v_far % 40)); omega) | (have := cut_lenle v_names (some 3) (some 40); simp only [List.length_cons, List.length_nil]; omega) | skip)) dl_nil))) (by /- 27 -/ first | exact True.intro | omega | (rw [rng_len]; decide) | (rw [rng_len]; omega) | (rw [en]; exact ⟨o0, n0⟩) | (rw [en]; exact o0) | exact oz | (rw [en]; exact ⟨oz, n9⟩) | (rw [en]; exact ⟨orr, n3⟩) | (simp only [List.length_cons, List.length_nil]; omega) | (have := cut_lenle v_sends (some (v_far % 40)) none; have := cut_lenle v_sends none (some (v_far % 40)); omega) | (have := cut_lenle v_names (some 3) (some 40); simp only [List.length_cons, List.length_nil]; omega) | skip))))).v))) (by /- ret 1 -/ (rw [ef, en]; unfold ledL; rw [long_5]; simp; decide)))))))))))))))))))))
abbrev s_law : Stmt := top 31
theorem sc_s_law : FnScope ["_law_script", "_law_by", "_law_cards", "_law_sends", "_law_other", "_law_names", "_law_name", "_law_due", "_law_again", "_law_found", "_law_one", "_law_there", "_law_pair"] ["_law_script"] (defScope s_law) := ⟨rfl, rfl, rfl, by decide +kernel, rfl, by decide +kernel, by decide +kernel⟩
abbrev P_law (P : Program) (w : World) (K : PySem.W.Frag) (mg : Str → Option Value) (base : Heap) (C0 C1 C2 CAn : Addr) : Prop := FN P w K mg base CX0 6 "law" ["_law_script"] (SpF1 (rScr K) (fun ns => ns.length ≤ 63) rBool (fun _ => true))
set_option maxHeartbeats 4000000 in
theorem ok_law {C0 C1 C2 CAn : Addr} (h__law_cell_at : P__law_cell_at P w K mg base) (h__law_house : P__law_house P w K mg base) (h__law_long_right : P__law_long_right P w K mg base C0 C1 C2 CAn) (h__law_right : P__law_right P w K mg base C0 C1 C2 CAn) (h__law_walk : P__law_walk P w K mg base) (h_lost : P_lost P w K mg base) (b_abs : mg "abs" = none) (b_isinstance : mg "isinstance" = none) (b_list : mg "list" = none) (b_range : mg "range" = none) (TD : TLd K C0 C1 C2 CAn) (T : FT K mg "law" "law" s_law ["_law_script"]) : P_law P w K mg base C0 C1 C2 CAn :=
  fnF1 T sc_s_law (vs := [0, 1, 2, 3, 4, 5, 6, 7, 8, 9]) (by decide +kernel) [.un, .un, .un, .un, .un, .un, .un, .un, .un, .un, .un, .un] (body := fun X B D v_script c hp hD hn =>
  (sd_forR c.po c.calm (S := Unit) (fun s1 => [.val (rScr K) v_script, .un, .un, .un, .un, .un, .un, .un, .un, .un, .un, .un, .un]) (fun _ _ => true) true () (c_range1 c de_int b_range (by /- 0 -/ first | exact True.intro | omega | rfl | exact hp | exact oh | exact ⟨by omega, oh.sn⟩ | (rw [List.length_map]; omega) | (simp only [List.length_append, List.length_map, List.length_cons, List.length_nil]; omega) | (refine ⟨oh, ny, fun o ho => ?_, (show 2 ≤ 1000 by decide)⟩; simp only [List.mem_cons, List.not_mem_nil, or_false] at ho; rcases ho with rfl | rfl; (· exact ⟨by show v_other.2.length ≤ 1000; omega, oo.sn⟩); (· exact ⟨by show v_cards_sends.2.length ≤ 1000; omega, oh.sn⟩)) | skip)) (fun _ => (c_tname c 1)) (.k (.k (.k (.k (.k (.k (.k (.k (.k (.k (.k (.k (.k .nil))))))))))))) (by /- 20 -/ first | exact True.intro | omega | rfl | exact hp | exact oh | exact ⟨by omega, oh.sn⟩ | (rw [List.length_map]; omega) | (simp only [List.length_append, List.length_map, List.length_cons, List.length_nil]; omega) | (refine ⟨oh, ny, fun o ho => ?_, (show 2 ≤ 1000 by decide)⟩; simp only [List.mem_cons, List.not_mem_nil, or_false] at ho; rcases ho with rfl | rfl; (· exact ⟨by show v_other.2.length ≤ 1000; omega, oo.sn⟩); (· exact ⟨by show v_cards_sends.2.length ≤ 1000; omega, oh.sn⟩)) | skip) (fun _ => fun _ => .s (.z)) (fun _ y1 post1 s1 hm1 hq1 hs1 =>
    (have hr_y1 := mem_rng hm1; (c_asgP c 2 3 (c_callF2 c h__law_house (c_var c 0 (.z)) (c_var c 1 (.s (.z))) (by /- 1 -/ first | exact True.intro | omega | rfl | exact hp | exact oh | exact ⟨by omega, oh.sn⟩ | (rw [List.length_map]; omega) | (simp only [List.length_append, List.length_map, List.length_cons, List.length_nil]; omega) | (refine ⟨oh, ny, fun o ho => ?_, (show 2 ≤ 1000 by decide)⟩; simp only [List.mem_cons, List.not_mem_nil, or_false] at ho; rcases ho with rfl | rfl; (· exact ⟨by show v_other.2.length ≤ 1000; omega, oo.sn⟩); (· exact ⟨by show v_cards_sends.2.length ≤ 1000; omega, oh.sn⟩)) | skip)) (fun _ => .s (.s (.z))) (fun _ => .s (.s (.s (.z)))) (fun v_cards_sends e_v_cards_sends =>
    (have ho := house_ok v_script y1
    have oh : OkH v_cards_sends.1 v_cards_sends.2 := by rw [e_v_cards_sends]; exact ho.1
    have sl : v_cards_sends.2.length ≤ 12 := by rw [e_v_cards_sends]; exact ho.2
    have cl := oh.cl
    have c2 := cut_lenle v_cards_sends.1 none (some 2)
    have c3 := cut_lenle v_cards_sends.2 none (some 3)
    (c_asg c 4 (c_callF2 c h__law_house (c_var c 0 (.z)) (de_add (c_var c 1 (.s (.z))) de_int) (by /- 2 -/ first | exact True.intro | omega | rfl | exact hp | exact oh | exact ⟨by omega, oh.sn⟩ | (rw [List.length_map]; omega) | (simp only [List.length_append, List.length_map, List.length_cons, List.length_nil]; omega) | (refine ⟨oh, ny, fun o ho => ?_, (show 2 ≤ 1000 by decide)⟩; simp only [List.mem_cons, List.not_mem_nil, or_false] at ho; rcases ho with rfl | rfl; (· exact ⟨by show v_other.2.length ≤ 1000; omega, oo.sn⟩); (· exact ⟨by show v_cards_sends.2.length ≤ 1000; omega, oh.sn⟩)) | skip)) (fun _ => .s (.s (.s (.s (.z))))) (fun v_other e_v_other =>
    (have oo : OkH v_other.1 v_other.2 := by rw [e_v_other]; exact (house_ok v_script (y1 + 1)).1
    have ol := oo.sl
    (c_asg c 5 (de_of_dm (dm_cat (de_of_dm (dm_cat (de_of_dm (dm_cat (de_of_dm (dm_sl (c_var c 2 (.s (.s (.z)))) do_none (do_some de_int))) (de_of_dm (dm_lc c (c_lc c [("_law_pair", 12)] [12] [12] _ (di_list (c_var c 3 (.s (.s (.s (.z)))))) (fun _ _ c1 => (c_tname c1 12)) (fun _ => .s (.s (.s (.s (.s (.s (.s (.s (.s (.s (.s (.s (.z))))))))))))) (fun _ _ x1 c1 hx1 => (de_ixP0 (c_var c1 12 (.s (.s (.s (.s (.s (.s (.s (.s (.s (.s (.s (.s (.z)))))))))))))))) (by /- 3 -/ first | exact True.intro | omega | rfl | exact hp | exact oh | exact ⟨by omega, oh.sn⟩ | (rw [List.length_map]; omega) | (simp only [List.length_append, List.length_map, List.length_cons, List.length_nil]; omega) | (refine ⟨oh, ny, fun o ho => ?_, (show 2 ≤ 1000 by decide)⟩; simp only [List.mem_cons, List.not_mem_nil, or_false] at ho; rcases ho with rfl | rfl; (· exact ⟨by show v_other.2.length ≤ 1000; omega, oo.sn⟩); (· exact ⟨by show v_cards_sends.2.length ≤ 1000; omega, oh.sn⟩)) | skip) (Uns.all (.cons (.s (.s (.s (.s (.s (.s (.s (.s (.s (.s (.s (.s (.z))))))))))))) .nil))))) (by /- 4 -/ first | exact True.intro | omega | rfl | exact hp | exact oh | exact ⟨by omega, oh.sn⟩ | (rw [List.length_map]; omega) | (simp only [List.length_append, List.length_map, List.length_cons, List.length_nil]; omega) | (refine ⟨oh, ny, fun o ho => ?_, (show 2 ≤ 1000 by decide)⟩; simp only [List.mem_cons, List.not_mem_nil, or_false] at ho; rcases ho with rfl | rfl; (· exact ⟨by show v_other.2.length ≤ 1000; omega, oo.sn⟩); (· exact ⟨by show v_cards_sends.2.length ≤ 1000; omega, oh.sn⟩)) | skip))) (de_of_dm (dm_lc c (c_lc c [("_law_pair", 12)] [12] [12] _ (di_list (de_of_dm (dm_sl (c_var c 3 (.s (.s (.s (.z))))) do_none (do_some de_int)))) (fun _ _ c2 => (c_tname c2 12)) (fun _ => .s (.s (.s (.s (.s (.s (.s (.s (.s (.s (.s (.s (.z))))))))))))) (fun _ _ x2 c2 hx2 => (de_ixP1 (c_var c2 12 (.s (.s (.s (.s (.s (.s (.s (.s (.s (.s (.s (.s (.z)))))))))))))))) (by /- 5 -/ first | exact True.intro | omega | rfl | exact hp | exact oh | exact ⟨by omega, oh.sn⟩ | (rw [List.length_map]; omega) | (simp only [List.length_append, List.length_map, List.length_cons, List.length_nil]; omega) | (refine ⟨oh, ny, fun o ho => ?_, (show 2 ≤ 1000 by decide)⟩; simp only [List.mem_cons, List.not_mem_nil, or_false] at ho; rcases ho with rfl | rfl; (· exact ⟨by show v_other.2.length ≤ 1000; omega, oo.sn⟩); (· exact ⟨by show v_cards_sends.2.length ≤ 1000; omega, oh.sn⟩)) | skip) (Uns.all (.cons (.s (.s (.s (.s (.s (.s (.s (.s (.s (.s (.s (.s (.z))))))))))))) .nil))))) (by /- 6 -/ first | exact True.intro | omega | rfl | exact hp | exact oh | exact ⟨by omega, oh.sn⟩ | (rw [List.length_map]; omega) | (simp only [List.length_append, List.length_map, List.length_cons, List.length_nil]; omega) | (refine ⟨oh, ny, fun o ho => ?_, (show 2 ≤ 1000 by decide)⟩; simp only [List.mem_cons, List.not_mem_nil, or_false] at ho; rcases ho with rfl | rfl; (· exact ⟨by show v_other.2.length ≤ 1000; omega, oo.sn⟩); (· exact ⟨by show v_cards_sends.2.length ≤ 1000; omega, oh.sn⟩)) | skip))) (de_of_dm (dm_list (dl_cons (de_str (l := [110, 111, 116, 116, 104, 101, 114, 101]) (by decide +kernel) (by decide)) dl_nil))) (by /- 7 -/ first | exact True.intro | omega | rfl | exact hp | exact oh | exact ⟨by omega, oh.sn⟩ | (rw [List.length_map]; omega) | (simp only [List.length_append, List.length_map, List.length_cons, List.length_nil]; omega) | (refine ⟨oh, ny, fun o ho => ?_, (show 2 ≤ 1000 by decide)⟩; simp only [List.mem_cons, List.not_mem_nil, or_false] at ho; rcases ho with rfl | rfl; (· exact ⟨by show v_other.2.length ≤ 1000; omega, oo.sn⟩); (· exact ⟨by show v_cards_sends.2.length ≤ 1000; omega, oh.sn⟩)) | skip))) (fun _ => .s (.s (.s (.s (.s (.z)))))) (fun v_names e_v_names =>
    (have nk : ∀ n ∈ v_names, isNameL n allS = true := by rw [e_v_names]; intro n hn; simp only [List.mem_append, List.mem_map, List.mem_singleton] at hn; rcases hn with ((q | ⟨p, q, rfl⟩) | ⟨p, q, rfl⟩) | rfl; (· exact oh.c _ (mem_cut q)); (· exact (oh.s _ q).1); (· exact (oh.s _ (mem_cut q)).2); (· decide +kernel)
    have n1 : 0 < v_names.length := by rw [e_v_names]; simp only [List.length_append, List.length_cons, List.length_nil]; omega
    (sd_forR c.po c.calm (S := Unit) (fun s2 => [.val (rScr K) v_script, .val rInt y1, .val (rList rTxt) v_cards_sends.1, .val (rList (rPair rTxt rTxt)) v_cards_sends.2, .val (rPair (rList rTxt) (rList (rPair rTxt rTxt))) v_other, .val (rList rTxt) v_names, .un, .un, .un, .un, .un, .un, .un]) (fun _ _ => true) true () (di_list (c_var c 5 (.s (.s (.s (.s (.s (.z)))))))) (fun _ => (c_tname c 6)) (.k (.k (.k (.k (.k (.k (.k (.k (.k (.k (.k (.k (.k .nil))))))))))))) (by /- 11 -/ first | exact True.intro | omega | rfl | exact hp | exact oh | exact ⟨by omega, oh.sn⟩ | (rw [List.length_map]; omega) | (simp only [List.length_append, List.length_map, List.length_cons, List.length_nil]; omega) | (refine ⟨oh, ny, fun o ho => ?_, (show 2 ≤ 1000 by decide)⟩; simp only [List.mem_cons, List.not_mem_nil, or_false] at ho; rcases ho with rfl | rfl; (· exact ⟨by show v_other.2.length ≤ 1000; omega, oo.sn⟩); (· exact ⟨by show v_cards_sends.2.length ≤ 1000; omega, oh.sn⟩)) | skip) (fun _ => fun _ => .s (.s (.s (.s (.s (.s (.z))))))) (fun _ y2 post2 s2 hm2 hq2 hs2 =>
      (have ny := nk y2 hm2
      (sd_ifF (dt_not (dt_val (c_callF4 c h__law_right (c_var c 2 (.s (.s (.z)))) (c_var c 3 (.s (.s (.s (.z))))) (c_var c 6 (.s (.s (.s (.s (.s (.s (.z)))))))) (de_of_dm (dm_list (dl_cons (de_pair (da_cons (c_var c 4 (.s (.s (.s (.s (.z)))))) (da_cons (c_var c 6 (.s (.s (.s (.s (.s (.s (.z)))))))) da_nil))) (dl_cons (de_pair (da_cons (de_pair (da_cons (c_var c 2 (.s (.s (.z)))) (da_cons (c_var c 3 (.s (.s (.s (.z))))) da_nil))) (da_cons (de_ixL (c_var c 5 (.s (.s (.s (.s (.s (.z))))))) de_int (by /- 8 -/ first | exact True.intro | omega | rfl | exact hp | exact oh | exact ⟨by omega, oh.sn⟩ | (rw [List.length_map]; omega) | (simp only [List.length_append, List.length_map, List.length_cons, List.length_nil]; omega) | (refine ⟨oh, ny, fun o ho => ?_, (show 2 ≤ 1000 by decide)⟩; simp only [List.mem_cons, List.not_mem_nil, or_false] at ho; rcases ho with rfl | rfl; (· exact ⟨by show v_other.2.length ≤ 1000; omega, oo.sn⟩); (· exact ⟨by show v_cards_sends.2.length ≤ 1000; omega, oh.sn⟩)) | skip)) da_nil))) dl_nil)))) (by /- 9 -/ first | exact True.intro | omega | rfl | exact hp | exact oh | exact ⟨by omega, oh.sn⟩ | (rw [List.length_map]; omega) | (simp only [List.length_append, List.length_map, List.length_cons, List.length_nil]; omega) | (refine ⟨oh, ny, fun o ho => ?_, (show 2 ≤ 1000 by decide)⟩; simp only [List.mem_cons, List.not_mem_nil, or_false] at ho; rcases ho with rfl | rfl; (· exact ⟨by show v_other.2.length ≤ 1000; omega, oo.sn⟩); (· exact ⟨by show v_cards_sends.2.length ≤ 1000; omega, oh.sn⟩)) | skip)))) (by /- if 1 -/ rfl)
      (sd_turn (Γs := fun s2 => [.val (rScr K) v_script, .val rInt y1, .val (rList rTxt) v_cards_sends.1, .val (rList (rPair rTxt rTxt)) v_cards_sends.2, .val (rPair (rList rTxt) (rList (rPair rTxt rTxt))) v_other, .val (rList rTxt) v_names, .un, .un, .un, .un, .un, .un, .un]) (Φ := fun s2 => (fun _ _ => true) post2 s2 = true) () (.k (.k (.k (.k (.k (.k (.u (.k (.k (.k (.k (.k (.k .nil))))))))))))) (by /- 10 -/ first | exact True.intro | omega | rfl | exact hp | exact oh | exact ⟨by omega, oh.sn⟩ | (rw [List.length_map]; omega) | (simp only [List.length_append, List.length_map, List.length_cons, List.length_nil]; omega) | (refine ⟨oh, ny, fun o ho => ?_, (show 2 ≤ 1000 by decide)⟩; simp only [List.mem_cons, List.not_mem_nil, or_false] at ho; rcases ho with rfl | rfl; (· exact ⟨by show v_other.2.length ≤ 1000; omega, oo.sn⟩); (· exact ⟨by show v_cards_sends.2.length ≤ 1000; omega, oh.sn⟩)) | skip)))))
    (fun s2 hs2 =>
    (c_asgLc c 7 (c_lcF c [("_law_one", 10), ("_law_there", 11)] [2, 3, 10, 11] [10, 11] _ _ (di_list (c_var c 3 (.s (.s (.s (.z)))))) (fun _ _ c3 => (c_tpair c3 10 11)) (fun _ => ⟨_, .s (.s (.s (.s (.s (.s (.s (.s (.s (.s (.z)))))))))), .s (.s (.s (.s (.s (.s (.s (.s (.s (.s (.s (.z)))))))))))⟩) (fun _ _ x3 c3 hx3 => (dts_one ((dc_neS (de_ixP1 (c_callF3 c3 h__law_walk (c_var c3 2 (.s (.s (.z)))) (c_var c3 3 (.s (.s (.s (.z))))) (c_var c3 10 (.s (.s (.s (.s (.s (.s (.s (.s (.s (.s (.z)))))))))))) (by /- 12 -/ first | exact True.intro | omega | rfl | exact hp | exact oh | exact ⟨by omega, oh.sn⟩ | (rw [List.length_map]; omega) | (simp only [List.length_append, List.length_map, List.length_cons, List.length_nil]; omega) | (refine ⟨oh, ny, fun o ho => ?_, (show 2 ≤ 1000 by decide)⟩; simp only [List.mem_cons, List.not_mem_nil, or_false] at ho; rcases ho with rfl | rfl; (· exact ⟨by show v_other.2.length ≤ 1000; omega, oo.sn⟩); (· exact ⟨by show v_cards_sends.2.length ≤ 1000; omega, oh.sn⟩)) | skip))) (de_str (l := [108, 101, 97, 100, 115]) (by decide +kernel) (by decide)))).t)) (fun _ _ x3 c3 hx3 h1 => (c_var c3 10 (.s (.s (.s (.s (.s (.s (.s (.s (.s (.s (.z))))))))))))) (by /- 13 -/ first | exact True.intro | omega | rfl | exact hp | exact oh | exact ⟨by omega, oh.sn⟩ | (rw [List.length_map]; omega) | (simp only [List.length_append, List.length_map, List.length_cons, List.length_nil]; omega) | (refine ⟨oh, ny, fun o ho => ?_, (show 2 ≤ 1000 by decide)⟩; simp only [List.mem_cons, List.not_mem_nil, or_false] at ho; rcases ho with rfl | rfl; (· exact ⟨by show v_other.2.length ≤ 1000; omega, oo.sn⟩); (· exact ⟨by show v_cards_sends.2.length ≤ 1000; omega, oh.sn⟩)) | skip) (Uns.all (.cons (.s (.s (.s (.s (.s (.s (.s (.s (.s (.s (.z))))))))))) (.cons (.s (.s (.s (.s (.s (.s (.s (.s (.s (.s (.s (.z)))))))))))) .nil)))) (fun _ => .s (.s (.s (.s (.s (.s (.s (.z)))))))) (fun v_due e_v_due =>
    (have ed : v_due = lostL v_cards_sends.1 v_cards_sends.2 := by rw [e_v_due]; rfl
    (sd_forR c.po c.calm (S := Unit) (fun s3 => [.val (rScr K) v_script, .val rInt y1, .val (rList rTxt) v_cards_sends.1, .val (rList (rPair rTxt rTxt)) v_cards_sends.2, .val (rPair (rList rTxt) (rList (rPair rTxt rTxt))) v_other, .val (rList rTxt) v_names, .un, .val (rList rTxt) v_due, .un, .un, .un, .un, .un]) (fun _ _ => true) true () (c_range1 c de_int b_range (by /- 14 -/ first | exact True.intro | omega | rfl | exact hp | exact oh | exact ⟨by omega, oh.sn⟩ | (rw [List.length_map]; omega) | (simp only [List.length_append, List.length_map, List.length_cons, List.length_nil]; omega) | (refine ⟨oh, ny, fun o ho => ?_, (show 2 ≤ 1000 by decide)⟩; simp only [List.mem_cons, List.not_mem_nil, or_false] at ho; rcases ho with rfl | rfl; (· exact ⟨by show v_other.2.length ≤ 1000; omega, oo.sn⟩); (· exact ⟨by show v_cards_sends.2.length ≤ 1000; omega, oh.sn⟩)) | skip)) (fun _ => (c_tname c 8)) (.k (.k (.k (.k (.k (.k (.k (.k (.k (.k (.k (.k (.k .nil))))))))))))) (by /- 18 -/ first | exact True.intro | omega | rfl | exact hp | exact oh | exact ⟨by omega, oh.sn⟩ | (rw [List.length_map]; omega) | (simp only [List.length_append, List.length_map, List.length_cons, List.length_nil]; omega) | (refine ⟨oh, ny, fun o ho => ?_, (show 2 ≤ 1000 by decide)⟩; simp only [List.mem_cons, List.not_mem_nil, or_false] at ho; rcases ho with rfl | rfl; (· exact ⟨by show v_other.2.length ≤ 1000; omega, oo.sn⟩); (· exact ⟨by show v_cards_sends.2.length ≤ 1000; omega, oh.sn⟩)) | skip) (fun _ => fun _ => .s (.s (.s (.s (.s (.s (.s (.s (.z))))))))) (fun _ y3 post3 s3 hm3 hq3 hs3 =>
      (have hr_y3 := mem_rng hm3; (c_asgM c 9 (c_callM2 c h_lost (c_var c 2 (.s (.s (.z)))) (c_var c 3 (.s (.s (.s (.z))))) (by /- 15 -/ first | exact True.intro | omega | rfl | exact hp | exact oh | exact ⟨by omega, oh.sn⟩ | (rw [List.length_map]; omega) | (simp only [List.length_append, List.length_map, List.length_cons, List.length_nil]; omega) | (refine ⟨oh, ny, fun o ho => ?_, (show 2 ≤ 1000 by decide)⟩; simp only [List.mem_cons, List.not_mem_nil, or_false] at ho; rcases ho with rfl | rfl; (· exact ⟨by show v_other.2.length ≤ 1000; omega, oo.sn⟩); (· exact ⟨by show v_cards_sends.2.length ≤ 1000; omega, oh.sn⟩)) | skip)) (fun _ => .s (.s (.s (.s (.s (.s (.s (.s (.s (.z)))))))))) (fun v_found e_v_found =>
      (have fl : v_found.length ≤ 12 := by rw [e_v_found]; unfold lostL; rw [List.length_map]; exact Nat.le_trans (List.length_filter_le _ _) sl
      (sd_ifF (dt_thaw (frz_list _) (.s (.s (.s (.s (.s (.s (.s (.s (.s (.z)))))))))) (.s (.s (.s (.s (.s (.s (.s (.s (.s (.z)))))))))) (dw_pt (dw_or (dt_not (dt_val (c_isi (T' := "list") (b := true) c (c_var c 9 (.s (.s (.s (.s (.s (.s (.s (.s (.s (.z))))))))))) ty_list (kit_ty (by decide +kernel)) b_isinstance b_list))) (fun h2 => (dw_or1 ((c_neD c (eqList eqTxt) (c_var c 9 (.s (.s (.s (.s (.s (.s (.s (.s (.s (.z))))))))))) (c_var c 7 (.s (.s (.s (.s (.s (.s (.s (.z))))))))))).t))))) (by /- if 2 -/ (rw [e_v_found, ed]; simp))
      (c_append c 9 (.s (.s (.s (.s (.s (.s (.s (.s (.s (.z)))))))))) (de_str (l := [97]) (by decide +kernel) (by decide)) (.s (.s (.s (.s (.s (.s (.s (.s (.s (.z)))))))))) (sd_gen (Γf := fun v_found_1 => [.val (rScr K) v_script, .val rInt y1, .val (rList rTxt) v_cards_sends.1, .val (rList (rPair rTxt rTxt)) v_cards_sends.2, .val (rPair (rList rTxt) (rList (rPair rTxt rTxt))) v_other, .val (rList rTxt) v_names, .un, .val (rList rTxt) v_due, .val rInt y3, .own (oList rTxt) v_found_1, .un, .un, .un]) _ (fun v_found_1 e_v_found_1 =>
      (sd_turn (Γs := fun s3 => [.val (rScr K) v_script, .val rInt y1, .val (rList rTxt) v_cards_sends.1, .val (rList (rPair rTxt rTxt)) v_cards_sends.2, .val (rPair (rList rTxt) (rList (rPair rTxt rTxt))) v_other, .val (rList rTxt) v_names, .un, .val (rList rTxt) v_due, .un, .un, .un, .un, .un]) (Φ := fun s3 => (fun _ _ => true) post3 s3 = true) () (.k (.k (.k (.k (.k (.k (.k (.k (.u (.u (.k (.k (.k .nil))))))))))))) (by /- 16 -/ first | exact True.intro | omega | rfl | exact hp | exact oh | exact ⟨by omega, oh.sn⟩ | (rw [List.length_map]; omega) | (simp only [List.length_append, List.length_map, List.length_cons, List.length_nil]; omega) | (refine ⟨oh, ny, fun o ho => ?_, (show 2 ≤ 1000 by decide)⟩; simp only [List.mem_cons, List.not_mem_nil, or_false] at ho; rcases ho with rfl | rfl; (· exact ⟨by show v_other.2.length ≤ 1000; omega, oo.sn⟩); (· exact ⟨by show v_cards_sends.2.length ≤ 1000; omega, oh.sn⟩)) | skip)))) (by /- 17 -/ first | exact True.intro | omega | rfl | exact hp | exact oh | exact ⟨by omega, oh.sn⟩ | (rw [List.length_map]; omega) | (simp only [List.length_append, List.length_map, List.length_cons, List.length_nil]; omega) | (refine ⟨oh, ny, fun o ho => ?_, (show 2 ≤ 1000 by decide)⟩; simp only [List.mem_cons, List.not_mem_nil, or_false] at ho; rcases ho with rfl | rfl; (· exact ⟨by show v_other.2.length ≤ 1000; omega, oo.sn⟩); (· exact ⟨by show v_cards_sends.2.length ≤ 1000; omega, oh.sn⟩)) | skip))))))))
    (fun s3 hs3 =>
    (sd_turn (Γs := fun s1 => [.val (rScr K) v_script, .un, .un, .un, .un, .un, .un, .un, .un, .un, .un, .un, .un]) (Φ := fun s1 => (fun _ _ => true) post1 s1 = true) () (.k (.u (.u (.u (.u (.u (.k (.u (.k (.k (.k (.k (.k .nil))))))))))))) (by /- 19 -/ first | exact True.intro | omega | rfl | exact hp | exact oh | exact ⟨by omega, oh.sn⟩ | (rw [List.length_map]; omega) | (simp only [List.length_append, List.length_map, List.length_cons, List.length_nil]; omega) | (refine ⟨oh, ny, fun o ho => ?_, (show 2 ≤ 1000 by decide)⟩; simp only [List.mem_cons, List.not_mem_nil, or_false] at ho; rcases ho with rfl | rfl; (· exact ⟨by show v_other.2.length ≤ 1000; omega, oo.sn⟩); (· exact ⟨by show v_cards_sends.2.length ≤ 1000; omega, oh.sn⟩)) | skip))))))))))))))))))))
  (fun s1 hs1 =>
  (sd_retC hD (c_callF1 c h__law_long_right (c_abs c (c_callF2 c h__law_cell_at (c_var c 0 (.z)) de_int (by /- 21 -/ first | exact True.intro | omega | rfl | exact hp | exact oh | exact ⟨by omega, oh.sn⟩ | (rw [List.length_map]; omega) | (simp only [List.length_append, List.length_map, List.length_cons, List.length_nil]; omega) | (refine ⟨oh, ny, fun o ho => ?_, (show 2 ≤ 1000 by decide)⟩; simp only [List.mem_cons, List.not_mem_nil, or_false] at ho; rcases ho with rfl | rfl; (· exact ⟨by show v_other.2.length ≤ 1000; omega, oo.sn⟩); (· exact ⟨by show v_cards_sends.2.length ≤ 1000; omega, oh.sn⟩)) | skip)) b_abs) (by /- 22 -/ first | exact True.intro | omega | rfl | exact hp | exact oh | exact ⟨by omega, oh.sn⟩ | (rw [List.length_map]; omega) | (simp only [List.length_append, List.length_map, List.length_cons, List.length_nil]; omega) | (refine ⟨oh, ny, fun o ho => ?_, (show 2 ≤ 1000 by decide)⟩; simp only [List.mem_cons, List.not_mem_nil, or_false] at ho; rcases ho with rfl | rfl; (· exact ⟨by show v_other.2.length ≤ 1000; omega, oo.sn⟩); (· exact ⟨by show v_cards_sends.2.length ≤ 1000; omega, oh.sn⟩)) | skip)) (by /- ret 1 -/ rfl)))))
end
end Law
namespace Law
open PySem L2 DL PySem.Spec PyProof.Rows
section
variable {P : Program} {w : World} {K : PySem.W.Frag} {mg : Str → Option Value} {base : Heap}
end
theorem all_mk {l : PySem.W.OpenLaw} {w : World} {K : PySem.W.Frag} {h : Heap} {mg : Str → Option Value} {fa C0 C1 C2 CAn : Addr} (X : K.In h) (G : h.Ns mainGlobals mg) (hfa : mg "law" = some (.ref fa))
    {f1 : Addr} {od1 an1 : Option Addr} {sl1 : Array (Option Value)} {oc1 kV1 dc1 pm1 cd1 ct1 : Value}
    {f2 : Addr} {od2 an2 : Option Addr} {sl2 : Array (Option Value)} {oc2 kV2 dc2 pm2 cd2 ct2 : Value}
    {f3 : Addr} {od3 an3 : Option Addr} {sl3 : Array (Option Value)} {oc3 kV3 dc3 pm3 cd3 ct3 : Value}
    {f4 : Addr} {od4 an4 : Option Addr} {sl4 : Array (Option Value)} {oc4 kV4 dc4 pm4 cd4 ct4 : Value}
    {f5 : Addr} {od5 an5 : Option Addr} {sl5 : Array (Option Value)} {oc5 kV5 dc5 pm5 cd5 ct5 : Value}
    {f6 : Addr} {od6 an6 : Option Addr} {sl6 : Array (Option Value)} {oc6 kV6 dc6 pm6 cd6 ct6 : Value}
    {f7 : Addr} {od7 an7 : Option Addr} {sl7 : Array (Option Value)} {oc7 kV7 dc7 pm7 cd7 ct7 : Value}
    {f8 : Addr} {od8 an8 : Option Addr} {sl8 : Array (Option Value)} {oc8 kV8 dc8 pm8 cd8 ct8 : Value}
    {f9 : Addr} {od9 an9 : Option Addr} {sl9 : Array (Option Value)} {oc9 kV9 dc9 pm9 cd9 ct9 : Value}
    {f10 : Addr} {od10 an10 : Option Addr} {sl10 : Array (Option Value)} {oc10 kV10 dc10 pm10 cd10 ct10 : Value}
    {f11 : Addr} {od11 an11 : Option Addr} {sl11 : Array (Option Value)} {oc11 kV11 dc11 pm11 cd11 ct11 : Value}
    {f12 : Addr} {od12 an12 : Option Addr} {sl12 : Array (Option Value)} {oc12 kV12 dc12 pm12 cd12 ct12 : Value}
    {f13 : Addr} {od13 an13 : Option Addr} {sl13 : Array (Option Value)} {oc13 kV13 dc13 pm13 cd13 ct13 : Value}
    {f14 : Addr} {od14 an14 : Option Addr} {sl14 : Array (Option Value)} {oc14 kV14 dc14 pm14 cd14 ct14 : Value}
    {f15 : Addr} {od15 an15 : Option Addr} {sl15 : Array (Option Value)} {oc15 kV15 dc15 pm15 cd15 ct15 : Value}
    {f16 : Addr} {od16 an16 : Option Addr} {sl16 : Array (Option Value)} {oc16 kV16 dc16 pm16 cd16 ct16 : Value}
    {f17 : Addr} {od17 an17 : Option Addr} {sl17 : Array (Option Value)} {oc17 kV17 dc17 pm17 cd17 ct17 : Value}
    {f18 : Addr} {od18 an18 : Option Addr} {sl18 : Array (Option Value)} {oc18 kV18 dc18 pm18 cd18 ct18 : Value}
    {f19 : Addr} {od19 an19 : Option Addr} {sl19 : Array (Option Value)} {oc19 kV19 dc19 pm19 cd19 ct19 : Value}
    {f20 : Addr} {od20 an20 : Option Addr} {sl20 : Array (Option Value)} {oc20 kV20 dc20 pm20 cd20 ct20 : Value}
    {f21 : Addr} {od21 an21 : Option Addr} {sl21 : Array (Option Value)} {oc21 kV21 dc21 pm21 cd21 ct21 : Value}
    {f22 : Addr} {od22 an22 : Option Addr} {sl22 : Array (Option Value)} {oc22 kV22 dc22 pm22 cd22 ct22 : Value}
    {tk_LONGEST : Tok}
    {tk_MOST_NAMES : Tok}
    {tk_ALL_SIGNS : Tok}
    (aC0 : PySem.W.nsIn K mainGlobals "Leads" = some (some (.ref C0)))
    (pgC0 : PySem.W.plainGet K C0 Str.empty = true)
    (hdC0 : PySem.W.hasDictIn K C0 = true)
    (poC0 : PySem.W.plainOver K C0 = true)
    (saC0 : PySem.W.findIn K (.ref C0) "__setattr__" = some (some (.builtin "object.__setattr__")))
    (haC0 : PySem.W.findIn K (.ref C0) "__class__" = some (some (.builtin "object.__class__")))
    (hmC0 : PySem.W.mroIn K C0 (.type "object") = some true)
    (naC0_names : PySem.W.findIn K (.ref C0) "names" = some none)
    (aC1 : PySem.W.nsIn K mainGlobals "Lacks" = some (some (.ref C1)))
    (pgC1 : PySem.W.plainGet K C1 Str.empty = true)
    (hdC1 : PySem.W.hasDictIn K C1 = true)
    (poC1 : PySem.W.plainOver K C1 = true)
    (saC1 : PySem.W.findIn K (.ref C1) "__setattr__" = some (some (.builtin "object.__setattr__")))
    (haC1 : PySem.W.findIn K (.ref C1) "__class__" = some (some (.builtin "object.__class__")))
    (hmC1 : PySem.W.mroIn K C1 (.type "object") = some true)
    (naC1_names : PySem.W.findIn K (.ref C1) "names" = some none)
    (aC2 : PySem.W.nsIn K mainGlobals "Round" = some (some (.ref C2)))
    (pgC2 : PySem.W.plainGet K C2 Str.empty = true)
    (hdC2 : PySem.W.hasDictIn K C2 = true)
    (poC2 : PySem.W.plainOver K C2 = true)
    (saC2 : PySem.W.findIn K (.ref C2) "__setattr__" = some (some (.builtin "object.__setattr__")))
    (haC2 : PySem.W.findIn K (.ref C2) "__class__" = some (some (.builtin "object.__class__")))
    (hmC2 : PySem.W.mroIn K C2 (.type "object") = some true)
    (naC2_names : PySem.W.findIn K (.ref C2) "names" = some none)
    (aCAn : PySem.W.nsIn K mainGlobals "Answer" = some (some (.ref CAn)))
    (pgCAn : PySem.W.plainGet K CAn Str.empty = true)
    (hdCAn : PySem.W.hasDictIn K CAn = true)
    (poCAn : PySem.W.plainOver K CAn = true)
    (saCAn : PySem.W.findIn K (.ref CAn) "__setattr__" = some (some (.builtin "object.__setattr__")))
    (haCAn : PySem.W.findIn K (.ref CAn) "__class__" = some (some (.builtin "object.__class__")))
    (hmCAn : PySem.W.mroIn K CAn (.type "object") = some true)
    (hnO : PySem.W.specialIn K (.builtin "object.__class__") "__get__" = some (some (.builtin "getset_descriptor.__get__")))
    (htO : PySem.W.takesIn K (.builtin "object.__class__") = some true)
    (isC0 : PySem.W.isClsIn K C0 = true)
    (tyC0 : PySem.W.typeIn K (.ref C0) = some (.type "type"))
    (isC1 : PySem.W.isClsIn K C1 = true)
    (tyC1 : PySem.W.typeIn K (.ref C1) = some (.type "type"))
    (isC2 : PySem.W.isClsIn K C2 = true)
    (tyC2 : PySem.W.typeIn K (.ref C2) = some (.type "type"))
    (isCAn : PySem.W.isClsIn K CAn = true)
    (tyCAn : PySem.W.typeIn K (.ref CAn) = some (.type "type"))
    (subC0_C0 : PySem.W.subIn K (.ref C0) (.ref C0) = some true)
    (subC0_C1 : PySem.W.subIn K (.ref C0) (.ref C1) = some false)
    (subC0_C2 : PySem.W.subIn K (.ref C0) (.ref C2) = some false)
    (subC1_C0 : PySem.W.subIn K (.ref C1) (.ref C0) = some false)
    (subC1_C1 : PySem.W.subIn K (.ref C1) (.ref C1) = some true)
    (subC1_C2 : PySem.W.subIn K (.ref C1) (.ref C2) = some false)
    (subC2_C0 : PySem.W.subIn K (.ref C2) (.ref C0) = some false)
    (subC2_C1 : PySem.W.subIn K (.ref C2) (.ref C1) = some false)
    (subC2_C2 : PySem.W.subIn K (.ref C2) (.ref C2) = some true)
    (subC0_CAn : PySem.W.subIn K (.ref C0) (.ref CAn) = some true)
    (subC1_CAn : PySem.W.subIn K (.ref C1) (.ref CAn) = some true)
    (subC2_CAn : PySem.W.subIn K (.ref C2) (.ref CAn) = some true)
    (a1 : PySem.W.nsIn K mainGlobals "is_name" = some (some (.ref f1)))
    (l1 : K.lookup f1 = some ⟨oc1, od1, .func (PySem.W.fnOf "is_name" "is_name" (defArgs s_is_name) (defBody s_is_name) (defScope s_is_name) .none kV1 dc1 pm1 an1 cd1 ct1), sl1⟩)
    (c1 : PySem.W.codeIn K cd1 "is_name" = true)
    (k1 : PySem.W.keepIn K (.ref f1) = true)
    (a2 : PySem.W.nsIn K mainGlobals "_law_cell_at" = some (some (.ref f2)))
    (l2 : K.lookup f2 = some ⟨oc2, od2, .func (PySem.W.fnOf "_law_cell_at" "_law_cell_at" (defArgs s__law_cell_at) (defBody s__law_cell_at) (defScope s__law_cell_at) .none kV2 dc2 pm2 an2 cd2 ct2), sl2⟩)
    (c2 : PySem.W.codeIn K cd2 "_law_cell_at" = true)
    (k2 : PySem.W.keepIn K (.ref f2) = true)
    (a3 : PySem.W.nsIn K mainGlobals "_law_draw" = some (some (.ref f3)))
    (l3 : K.lookup f3 = some ⟨oc3, od3, .func (PySem.W.fnOf "_law_draw" "_law_draw" (defArgs s__law_draw) (defBody s__law_draw) (defScope s__law_draw) .none kV3 dc3 pm3 an3 cd3 ct3), sl3⟩)
    (c3 : PySem.W.codeIn K cd3 "_law_draw" = true)
    (k3 : PySem.W.keepIn K (.ref f3) = true)
    (a4 : PySem.W.nsIn K mainGlobals "_law_number" = some (some (.ref f4)))
    (l4 : K.lookup f4 = some ⟨oc4, od4, .func (PySem.W.fnOf "_law_number" "_law_number" (defArgs s__law_number) (defBody s__law_number) (defScope s__law_number) .none kV4 dc4 pm4 an4 cd4 ct4), sl4⟩)
    (c4 : PySem.W.codeIn K cd4 "_law_number" = true)
    (k4 : PySem.W.keepIn K (.ref f4) = true)
    (a5 : PySem.W.nsIn K mainGlobals "is_send" = some (some (.ref f5)))
    (l5 : K.lookup f5 = some ⟨oc5, od5, .func (PySem.W.fnOf "is_send" "is_send" (defArgs s_is_send) (defBody s_is_send) (defScope s_is_send) .none kV5 dc5 pm5 an5 cd5 ct5), sl5⟩)
    (c5 : PySem.W.codeIn K cd5 "is_send" = true)
    (k5 : PySem.W.keepIn K (.ref f5) = true)
    (a6 : PySem.W.nsIn K mainGlobals "check_sends" = some (some (.ref f6)))
    (l6 : K.lookup f6 = some ⟨oc6, od6, .func (PySem.W.fnOf "check_sends" "check_sends" (defArgs s_check_sends) (defBody s_check_sends) (defScope s_check_sends) .none kV6 dc6 pm6 an6 cd6 ct6), sl6⟩)
    (c6 : PySem.W.codeIn K cd6 "check_sends" = true)
    (k6 : PySem.W.keepIn K (.ref f6) = true)
    (a7 : PySem.W.nsIn K mainGlobals "came_to" = some (some (.ref f7)))
    (l7 : K.lookup f7 = some ⟨oc7, od7, .func (PySem.W.fnOf "came_to" "came_to" (defArgs s_came_to) (defBody s_came_to) (defScope s_came_to) .none kV7 dc7 pm7 an7 cd7 ct7), sl7⟩)
    (c7 : PySem.W.codeIn K cd7 "came_to" = true)
    (k7 : PySem.W.keepIn K (.ref f7) = true)
    (a8 : PySem.W.nsIn K mainGlobals "led" = some (some (.ref f8)))
    (l8 : K.lookup f8 = some ⟨oc8, od8, .func (PySem.W.fnOf "led" "led" (defArgs s_led) (defBody s_led) (defScope s_led) .none kV8 dc8 pm8 an8 cd8 ct8), sl8⟩)
    (c8 : PySem.W.codeIn K cd8 "led" = true)
    (k8 : PySem.W.keepIn K (.ref f8) = true)
    (a9 : PySem.W.nsIn K mainGlobals "lost" = some (some (.ref f9)))
    (l9 : K.lookup f9 = some ⟨oc9, od9, .func (PySem.W.fnOf "lost" "lost" (defArgs s_lost) (defBody s_lost) (defScope s_lost) .none kV9 dc9 pm9 an9 cd9 ct9), sl9⟩)
    (c9 : PySem.W.codeIn K cd9 "lost" = true)
    (k9 : PySem.W.keepIn K (.ref f9) = true)
    (a10 : PySem.W.nsIn K mainGlobals "_law_drawn_name" = some (some (.ref f10)))
    (l10 : K.lookup f10 = some ⟨oc10, od10, .func (PySem.W.fnOf "_law_drawn_name" "_law_drawn_name" (defArgs s__law_drawn_name) (defBody s__law_drawn_name) (defScope s__law_drawn_name) .none kV10 dc10 pm10 an10 cd10 ct10), sl10⟩)
    (c10 : PySem.W.codeIn K cd10 "_law_drawn_name" = true)
    (k10 : PySem.W.keepIn K (.ref f10) = true)
    (a11 : PySem.W.nsIn K mainGlobals "_law_house" = some (some (.ref f11)))
    (l11 : K.lookup f11 = some ⟨oc11, od11, .func (PySem.W.fnOf "_law_house" "_law_house" (defArgs s__law_house) (defBody s__law_house) (defScope s__law_house) .none kV11 dc11 pm11 an11 cd11 ct11), sl11⟩)
    (c11 : PySem.W.codeIn K cd11 "_law_house" = true)
    (k11 : PySem.W.keepIn K (.ref f11) = true)
    (a12 : PySem.W.nsIn K mainGlobals "_law_walk" = some (some (.ref f12)))
    (l12 : K.lookup f12 = some ⟨oc12, od12, .func (PySem.W.fnOf "_law_walk" "_law_walk" (defArgs s__law_walk) (defBody s__law_walk) (defScope s__law_walk) .none kV12 dc12 pm12 an12 cd12 ct12), sl12⟩)
    (c12 : PySem.W.codeIn K cd12 "_law_walk" = true)
    (k12 : PySem.W.keepIn K (.ref f12) = true)
    (a13 : PySem.W.nsIn K mainGlobals "_law_word" = some (some (.ref f13)))
    (l13 : K.lookup f13 = some ⟨oc13, od13, .func (PySem.W.fnOf "_law_word" "_law_word" (defArgs s__law_word) (defBody s__law_word) (defScope s__law_word) .none kV13 dc13 pm13 an13 cd13 ct13), sl13⟩)
    (c13 : PySem.W.codeIn K cd13 "_law_word" = true)
    (k13 : PySem.W.keepIn K (.ref f13) = true)
    (a14 : PySem.W.nsIn K mainGlobals "_law_right" = some (some (.ref f14)))
    (l14 : K.lookup f14 = some ⟨oc14, od14, .func (PySem.W.fnOf "_law_right" "_law_right" (defArgs s__law_right) (defBody s__law_right) (defScope s__law_right) .none kV14 dc14 pm14 an14 cd14 ct14), sl14⟩)
    (c14 : PySem.W.codeIn K cd14 "_law_right" = true)
    (k14 : PySem.W.keepIn K (.ref f14) = true)
    (a15 : PySem.W.nsIn K mainGlobals "_law_long_right" = some (some (.ref f15)))
    (l15 : K.lookup f15 = some ⟨oc15, od15, .func (PySem.W.fnOf "_law_long_right" "_law_long_right" (defArgs s__law_long_right) (defBody s__law_long_right) (defScope s__law_long_right) .none kV15 dc15 pm15 an15 cd15 ct15), sl15⟩)
    (c15 : PySem.W.codeIn K cd15 "_law_long_right" = true)
    (k15 : PySem.W.keepIn K (.ref f15) = true)
    (a16 : PySem.W.nsIn K mainGlobals "law" = some (some (.ref f16)))
    (l16 : K.lookup f16 = some ⟨oc16, od16, .func (PySem.W.fnOf "law" "law" (defArgs s_law) (defBody s_law) (defScope s_law) .none kV16 dc16 pm16 an16 cd16 ct16), sl16⟩)
    (c16 : PySem.W.codeIn K cd16 "law" = true)
    (k16 : PySem.W.keepIn K (.ref f16) = true)
    (i17_C0 : PySem.W.findIn K (.ref C0) "shows" = some (some (.ref f17)))
    (g17 : PySem.W.isFn K (.ref f17) = true)
    (l17 : K.lookup f17 = some ⟨oc17, od17, .func (PySem.W.fnOf "shows" "Leads.shows" (defArgs s_Leads_shows) (defBody s_Leads_shows) (defScope s_Leads_shows) .none kV17 dc17 pm17 an17 cd17 ct17), sl17⟩)
    (c17 : PySem.W.codeIn K cd17 "Leads.shows" = true)
    (k17 : PySem.W.keepIn K (.ref f17) = true)
    (i18_C1 : PySem.W.findIn K (.ref C1) "shows" = some (some (.ref f18)))
    (g18 : PySem.W.isFn K (.ref f18) = true)
    (l18 : K.lookup f18 = some ⟨oc18, od18, .func (PySem.W.fnOf "shows" "Lacks.shows" (defArgs s_Lacks_shows) (defBody s_Lacks_shows) (defScope s_Lacks_shows) .none kV18 dc18 pm18 an18 cd18 ct18), sl18⟩)
    (c18 : PySem.W.codeIn K cd18 "Lacks.shows" = true)
    (k18 : PySem.W.keepIn K (.ref f18) = true)
    (i19_C2 : PySem.W.findIn K (.ref C2) "shows" = some (some (.ref f19)))
    (g19 : PySem.W.isFn K (.ref f19) = true)
    (l19 : K.lookup f19 = some ⟨oc19, od19, .func (PySem.W.fnOf "shows" "Round.shows" (defArgs s_Round_shows) (defBody s_Round_shows) (defScope s_Round_shows) .none kV19 dc19 pm19 an19 cd19 ct19), sl19⟩)
    (c19 : PySem.W.codeIn K cd19 "Round.shows" = true)
    (k19 : PySem.W.keepIn K (.ref f19) = true)
    (i20_C0 : PySem.W.findIn K (.ref C0) "__init__" = some (some (.ref f20)))
    (g20 : PySem.W.isFn K (.ref f20) = true)
    (l20 : K.lookup f20 = some ⟨oc20, od20, .func (PySem.W.fnOf "__init__" "Leads.__init__" (defArgs s_Leads___init__) (defBody s_Leads___init__) (defScope s_Leads___init__) .none kV20 dc20 pm20 an20 cd20 ct20), sl20⟩)
    (c20 : PySem.W.codeIn K cd20 "Leads.__init__" = true)
    (k20 : PySem.W.keepIn K (.ref f20) = true)
    (mkC0 : PySem.W.makesIn K C0 = true)
    (kcC0 : PySem.W.keepIn K (.ref C0) = true)
    (i21_C1 : PySem.W.findIn K (.ref C1) "__init__" = some (some (.ref f21)))
    (g21 : PySem.W.isFn K (.ref f21) = true)
    (l21 : K.lookup f21 = some ⟨oc21, od21, .func (PySem.W.fnOf "__init__" "Lacks.__init__" (defArgs s_Lacks___init__) (defBody s_Lacks___init__) (defScope s_Lacks___init__) .none kV21 dc21 pm21 an21 cd21 ct21), sl21⟩)
    (c21 : PySem.W.codeIn K cd21 "Lacks.__init__" = true)
    (k21 : PySem.W.keepIn K (.ref f21) = true)
    (mkC1 : PySem.W.makesIn K C1 = true)
    (kcC1 : PySem.W.keepIn K (.ref C1) = true)
    (i22_C2 : PySem.W.findIn K (.ref C2) "__init__" = some (some (.ref f22)))
    (g22 : PySem.W.isFn K (.ref f22) = true)
    (l22 : K.lookup f22 = some ⟨oc22, od22, .func (PySem.W.fnOf "__init__" "Round.__init__" (defArgs s_Round___init__) (defBody s_Round___init__) (defScope s_Round___init__) .none kV22 dc22 pm22 an22 cd22 ct22), sl22⟩)
    (c22 : PySem.W.codeIn K cd22 "Round.__init__" = true)
    (k22 : PySem.W.keepIn K (.ref f22) = true)
    (mkC2 : PySem.W.makesIn K C2 = true)
    (kcC2 : PySem.W.keepIn K (.ref C2) = true)
    (z_abs : PySem.W.nsIn K mainGlobals "abs" = some none)
    (z_all : PySem.W.nsIn K mainGlobals "all" = some none)
    (z_any : PySem.W.nsIn K mainGlobals "any" = some none)
    (z_dict : PySem.W.nsIn K mainGlobals "dict" = some none)
    (z_isinstance : PySem.W.nsIn K mainGlobals "isinstance" = some none)
    (z_len : PySem.W.nsIn K mainGlobals "len" = some none)
    (z_list : PySem.W.nsIn K mainGlobals "list" = some none)
    (z_range : PySem.W.nsIn K mainGlobals "range" = some none)
    (z_set : PySem.W.nsIn K mainGlobals "set" = some none)
    (z_str : PySem.W.nsIn K mainGlobals "str" = some none)
    (z_tuple : PySem.W.nsIn K mainGlobals "tuple" = some none)
    (v_LONGEST : PySem.W.nsIn K mainGlobals "LONGEST" = some (some (.int 20 tk_LONGEST)))
    (v_MOST_NAMES : PySem.W.nsIn K mainGlobals "MOST_NAMES" = some (some (.int 40 tk_MOST_NAMES)))
    (v_ALL_SIGNS : PySem.W.nsIn K mainGlobals "ALL_SIGNS" = some (some (.str (tx allS) tk_ALL_SIGNS))) :
    ∃ fd : FuncData, (∀ (s : Shared) (v : Value), BindsTo s fd ⟨[v], []⟩ [("_law_script", v)]) ∧ ∀ base : Heap, K.In base → base.Ns mainGlobals mg → DL.FnOk l.prog w K mg base CX0 6 fa fd ["_law_script"] (spLaw K) := by
  have e := hfa.symm.trans (PySem.W.mg_of X G a16)
  cases e
  have m_Leads : mg "Leads" = some (.ref C0) := PySem.W.mg_of X G aC0
  have cl_C0 : Cls K C0 := ⟨pgC0, hdC0, poC0, saC0⟩
  have ci_C0 : ClsI K C0 := ⟨cl_C0, haC0, hnO, htO, hmC0⟩
  have m_Lacks : mg "Lacks" = some (.ref C1) := PySem.W.mg_of X G aC1
  have cl_C1 : Cls K C1 := ⟨pgC1, hdC1, poC1, saC1⟩
  have ci_C1 : ClsI K C1 := ⟨cl_C1, haC1, hnO, htO, hmC1⟩
  have m_Round : mg "Round" = some (.ref C2) := PySem.W.mg_of X G aC2
  have cl_C2 : Cls K C2 := ⟨pgC2, hdC2, poC2, saC2⟩
  have ci_C2 : ClsI K C2 := ⟨cl_C2, haC2, hnO, htO, hmC2⟩
  have m_Answer : mg "Answer" = some (.ref CAn) := PySem.W.mg_of X G aCAn
  have cl_CAn : Cls K CAn := ⟨pgCAn, hdCAn, poCAn, saCAn⟩
  have ci_CAn : ClsI K CAn := ⟨cl_CAn, haCAn, hnO, htO, hmCAn⟩
  have kitC0_C0 : PySem.W.kitOne K (.ref C0) (.ref C0) = some true := kit_sub isC0 tyC0 subC0_C0 subC0_C0
  have kitC0_C1 : PySem.W.kitOne K (.ref C0) (.ref C1) = some false := kit_sub isC1 tyC1 subC0_C1 subC0_C0
  have kitC0_C2 : PySem.W.kitOne K (.ref C0) (.ref C2) = some false := kit_sub isC2 tyC2 subC0_C2 subC0_C0
  have kitC1_C0 : PySem.W.kitOne K (.ref C1) (.ref C0) = some false := kit_sub isC0 tyC0 subC1_C0 subC1_C1
  have kitC1_C1 : PySem.W.kitOne K (.ref C1) (.ref C1) = some true := kit_sub isC1 tyC1 subC1_C1 subC1_C1
  have kitC1_C2 : PySem.W.kitOne K (.ref C1) (.ref C2) = some false := kit_sub isC2 tyC2 subC1_C2 subC1_C1
  have kitC2_C0 : PySem.W.kitOne K (.ref C2) (.ref C0) = some false := kit_sub isC0 tyC0 subC2_C0 subC2_C2
  have kitC2_C1 : PySem.W.kitOne K (.ref C2) (.ref C1) = some false := kit_sub isC1 tyC1 subC2_C1 subC2_C2
  have kitC2_C2 : PySem.W.kitOne K (.ref C2) (.ref C2) = some true := kit_sub isC2 tyC2 subC2_C2 subC2_C2
  have kitC0_CAn : PySem.W.kitOne K (.ref C0) (.ref CAn) = some true := kit_sub isCAn tyCAn subC0_CAn subC0_C0
  have kitC1_CAn : PySem.W.kitOne K (.ref C1) (.ref CAn) = some true := kit_sub isCAn tyCAn subC1_CAn subC1_C1
  have kitC2_CAn : PySem.W.kitOne K (.ref C2) (.ref CAn) = some true := kit_sub isCAn tyCAn subC2_CAn subC2_C2
  have F1 := DL.fun_mk (st := s_is_name) l1 c1 k1
  have B1 : L2.Binds K (PySem.W.fnOf "is_name" "is_name" (defArgs s_is_name) (defBody s_is_name) (defScope s_is_name) .none kV1 dc1 pm1 an1 cd1 ct1) ["thing", "signs"] [] := L2.Binds.all fun us hl => match us, hl with | [_, _], _ => rfl
  have T_is_name : FT K mg "is_name" "is_name" s_is_name ["thing", "signs"] := ⟨_, _, F1, PySem.W.mg_of X G a1, B1⟩
  have F2 := DL.fun_mk (st := s__law_cell_at) l2 c2 k2
  have B2 : L2.Binds K (PySem.W.fnOf "_law_cell_at" "_law_cell_at" (defArgs s__law_cell_at) (defBody s__law_cell_at) (defScope s__law_cell_at) .none kV2 dc2 pm2 an2 cd2 ct2) ["_law_script", "_law_k"] [] := L2.Binds.all fun us hl => match us, hl with | [_, _], _ => rfl
  have T__law_cell_at : FT K mg "_law_cell_at" "_law_cell_at" s__law_cell_at ["_law_script", "_law_k"] := ⟨_, _, F2, PySem.W.mg_of X G a2, B2⟩
  have F3 := DL.fun_mk (st := s__law_draw) l3 c3 k3
  have B3 : L2.Binds K (PySem.W.fnOf "_law_draw" "_law_draw" (defArgs s__law_draw) (defBody s__law_draw) (defScope s__law_draw) .none kV3 dc3 pm3 an3 cd3 ct3) ["_law_cell", "_law_k", "_law_most"] [] := L2.Binds.all fun us hl => match us, hl with | [_, _, _], _ => rfl
  have T__law_draw : FT K mg "_law_draw" "_law_draw" s__law_draw ["_law_cell", "_law_k", "_law_most"] := ⟨_, _, F3, PySem.W.mg_of X G a3, B3⟩
  have F4 := DL.fun_mk (st := s__law_number) l4 c4 k4
  have B4 : L2.Binds K (PySem.W.fnOf "_law_number" "_law_number" (defArgs s__law_number) (defBody s__law_number) (defScope s__law_number) .none kV4 dc4 pm4 an4 cd4 ct4) ["_law_cell", "_law_k", "_law_limit"] [] := L2.Binds.all fun us hl => match us, hl with | [_, _, _], _ => rfl
  have T__law_number : FT K mg "_law_number" "_law_number" s__law_number ["_law_cell", "_law_k", "_law_limit"] := ⟨_, _, F4, PySem.W.mg_of X G a4, B4⟩
  have F5 := DL.fun_mk (st := s_is_send) l5 c5 k5
  have B5 : L2.Binds K (PySem.W.fnOf "is_send" "is_send" (defArgs s_is_send) (defBody s_is_send) (defScope s_is_send) .none kV5 dc5 pm5 an5 cd5 ct5) ["thing"] [] := L2.Binds.all fun us hl => match us, hl with | [_], _ => rfl
  have T_is_send : FT K mg "is_send" "is_send" s_is_send ["thing"] := ⟨_, _, F5, PySem.W.mg_of X G a5, B5⟩
  have F6 := DL.fun_mk (st := s_check_sends) l6 c6 k6
  have B6 : L2.Binds K (PySem.W.fnOf "check_sends" "check_sends" (defArgs s_check_sends) (defBody s_check_sends) (defScope s_check_sends) .none kV6 dc6 pm6 an6 cd6 ct6) ["cards", "sends"] [] := L2.Binds.all fun us hl => match us, hl with | [_, _], _ => rfl
  have T_check_sends : FT K mg "check_sends" "check_sends" s_check_sends ["cards", "sends"] := ⟨_, _, F6, PySem.W.mg_of X G a6, B6⟩
  have F7 := DL.fun_mk (st := s_came_to) l7 c7 k7
  have B7 : L2.Binds K (PySem.W.fnOf "came_to" "came_to" (defArgs s_came_to) (defBody s_came_to) (defScope s_came_to) .none kV7 dc7 pm7 an7 cd7 ct7) ["cards", "sends", "name"] [] := L2.Binds.all fun us hl => match us, hl with | [_, _, _], _ => rfl
  have T_came_to : FT K mg "came_to" "came_to" s_came_to ["cards", "sends", "name"] := ⟨_, _, F7, PySem.W.mg_of X G a7, B7⟩
  have F8 := DL.fun_mk (st := s_led) l8 c8 k8
  have B8 : L2.Binds K (PySem.W.fnOf "led" "led" (defArgs s_led) (defBody s_led) (defScope s_led) .none kV8 dc8 pm8 an8 cd8 ct8) ["cards", "sends", "name"] [] := L2.Binds.all fun us hl => match us, hl with | [_, _, _], _ => rfl
  have T_led : FT K mg "led" "led" s_led ["cards", "sends", "name"] := ⟨_, _, F8, PySem.W.mg_of X G a8, B8⟩
  have F9 := DL.fun_mk (st := s_lost) l9 c9 k9
  have B9 : L2.Binds K (PySem.W.fnOf "lost" "lost" (defArgs s_lost) (defBody s_lost) (defScope s_lost) .none kV9 dc9 pm9 an9 cd9 ct9) ["cards", "sends"] [] := L2.Binds.all fun us hl => match us, hl with | [_, _], _ => rfl
  have T_lost : FT K mg "lost" "lost" s_lost ["cards", "sends"] := ⟨_, _, F9, PySem.W.mg_of X G a9, B9⟩
  have F10 := DL.fun_mk (st := s__law_drawn_name) l10 c10 k10
  have B10 : L2.Binds K (PySem.W.fnOf "_law_drawn_name" "_law_drawn_name" (defArgs s__law_drawn_name) (defBody s__law_drawn_name) (defScope s__law_drawn_name) .none kV10 dc10 pm10 an10 cd10 ct10) ["_law_cell", "_law_k"] [] := L2.Binds.all fun us hl => match us, hl with | [_, _], _ => rfl
  have T__law_drawn_name : FT K mg "_law_drawn_name" "_law_drawn_name" s__law_drawn_name ["_law_cell", "_law_k"] := ⟨_, _, F10, PySem.W.mg_of X G a10, B10⟩
  have F11 := DL.fun_mk (st := s__law_house) l11 c11 k11
  have B11 : L2.Binds K (PySem.W.fnOf "_law_house" "_law_house" (defArgs s__law_house) (defBody s__law_house) (defScope s__law_house) .none kV11 dc11 pm11 an11 cd11 ct11) ["_law_script", "_law_by"] [] := L2.Binds.all fun us hl => match us, hl with | [_, _], _ => rfl
  have T__law_house : FT K mg "_law_house" "_law_house" s__law_house ["_law_script", "_law_by"] := ⟨_, _, F11, PySem.W.mg_of X G a11, B11⟩
  have F12 := DL.fun_mk (st := s__law_walk) l12 c12 k12
  have B12 : L2.Binds K (PySem.W.fnOf "_law_walk" "_law_walk" (defArgs s__law_walk) (defBody s__law_walk) (defScope s__law_walk) .none kV12 dc12 pm12 an12 cd12 ct12) ["_law_cards", "_law_sends", "_law_name"] [] := L2.Binds.all fun us hl => match us, hl with | [_, _, _], _ => rfl
  have T__law_walk : FT K mg "_law_walk" "_law_walk" s__law_walk ["_law_cards", "_law_sends", "_law_name"] := ⟨_, _, F12, PySem.W.mg_of X G a12, B12⟩
  have F13 := DL.fun_mk (st := s__law_word) l13 c13 k13
  have B13 : L2.Binds K (PySem.W.fnOf "_law_word" "_law_word" (defArgs s__law_word) (defBody s__law_word) (defScope s__law_word) .none kV13 dc13 pm13 an13 cd13 ct13) ["_law_found"] [] := L2.Binds.all fun us hl => match us, hl with | [_], _ => rfl
  have T__law_word : FT K mg "_law_word" "_law_word" s__law_word ["_law_found"] := ⟨_, _, F13, PySem.W.mg_of X G a13, B13⟩
  have F14 := DL.fun_mk (st := s__law_right) l14 c14 k14
  have B14 : L2.Binds K (PySem.W.fnOf "_law_right" "_law_right" (defArgs s__law_right) (defBody s__law_right) (defScope s__law_right) .none kV14 dc14 pm14 an14 cd14 ct14) ["_law_cards", "_law_sends", "_law_name", "_law_others"] [] := L2.Binds.all fun us hl => match us, hl with | [_, _, _, _], _ => rfl
  have T__law_right : FT K mg "_law_right" "_law_right" s__law_right ["_law_cards", "_law_sends", "_law_name", "_law_others"] := ⟨_, _, F14, PySem.W.mg_of X G a14, B14⟩
  have F15 := DL.fun_mk (st := s__law_long_right) l15 c15 k15
  have B15 : L2.Binds K (PySem.W.fnOf "_law_long_right" "_law_long_right" (defArgs s__law_long_right) (defBody s__law_long_right) (defScope s__law_long_right) .none kV15 dc15 pm15 an15 cd15 ct15) ["_law_far"] [] := L2.Binds.all fun us hl => match us, hl with | [_], _ => rfl
  have T__law_long_right : FT K mg "_law_long_right" "_law_long_right" s__law_long_right ["_law_far"] := ⟨_, _, F15, PySem.W.mg_of X G a15, B15⟩
  have F16 := DL.fun_mk (st := s_law) l16 c16 k16
  have B16 : L2.Binds K (PySem.W.fnOf "law" "law" (defArgs s_law) (defBody s_law) (defScope s_law) .none kV16 dc16 pm16 an16 cd16 ct16) ["_law_script"] [] := L2.Binds.all fun us hl => match us, hl with | [_], _ => rfl
  have T_law : FT K mg "law" "law" s_law ["_law_script"] := ⟨_, _, F16, PySem.W.mg_of X G a16, B16⟩
  have F17 := DL.fun_mk (st := s_Leads_shows) l17 c17 k17
  have B17 : L2.Binds K (PySem.W.fnOf "shows" "Leads.shows" (defArgs s_Leads_shows) (defBody s_Leads_shows) (defScope s_Leads_shows) .none kV17 dc17 pm17 an17 cd17 ct17) ["self", "cards", "sends", "name"] [] := L2.Binds.all fun us hl => match us, hl with | [_, _, _, _], _ => rfl
  have T_C0_shows : FTm K "shows" "Leads.shows" C0 s_Leads_shows ["self", "cards", "sends", "name"] := ⟨_, _, F17, ⟨i17_C0, g17, k17⟩, B17, cl_C0⟩
  have F18 := DL.fun_mk (st := s_Lacks_shows) l18 c18 k18
  have B18 : L2.Binds K (PySem.W.fnOf "shows" "Lacks.shows" (defArgs s_Lacks_shows) (defBody s_Lacks_shows) (defScope s_Lacks_shows) .none kV18 dc18 pm18 an18 cd18 ct18) ["self", "cards", "sends", "name"] [] := L2.Binds.all fun us hl => match us, hl with | [_, _, _, _], _ => rfl
  have T_C1_shows : FTm K "shows" "Lacks.shows" C1 s_Lacks_shows ["self", "cards", "sends", "name"] := ⟨_, _, F18, ⟨i18_C1, g18, k18⟩, B18, cl_C1⟩
  have F19 := DL.fun_mk (st := s_Round_shows) l19 c19 k19
  have B19 : L2.Binds K (PySem.W.fnOf "shows" "Round.shows" (defArgs s_Round_shows) (defBody s_Round_shows) (defScope s_Round_shows) .none kV19 dc19 pm19 an19 cd19 ct19) ["self", "cards", "sends", "name"] [] := L2.Binds.all fun us hl => match us, hl with | [_, _, _, _], _ => rfl
  have T_C2_shows : FTm K "shows" "Round.shows" C2 s_Round_shows ["self", "cards", "sends", "name"] := ⟨_, _, F19, ⟨i19_C2, g19, k19⟩, B19, cl_C2⟩
  have F20 := DL.fun_mk (st := s_Leads___init__) l20 c20 k20
  have B20 : L2.Binds K (PySem.W.fnOf "__init__" "Leads.__init__" (defArgs s_Leads___init__) (defBody s_Leads___init__) (defScope s_Leads___init__) .none kV20 dc20 pm20 an20 cd20 ct20) ["self", "names"] [] := L2.Binds.all fun us hl => match us, hl with | [_, _], _ => rfl
  have T_Leads_init : FTk K mg "Leads" "Leads.__init__" C0 s_Leads___init__ ["self", "names"] := ⟨_, _, F20, m_Leads, ⟨mkC0, i20_C0, g20, kcC0⟩, B20⟩
  have F21 := DL.fun_mk (st := s_Lacks___init__) l21 c21 k21
  have B21 : L2.Binds K (PySem.W.fnOf "__init__" "Lacks.__init__" (defArgs s_Lacks___init__) (defBody s_Lacks___init__) (defScope s_Lacks___init__) .none kV21 dc21 pm21 an21 cd21 ct21) ["self", "names"] [] := L2.Binds.all fun us hl => match us, hl with | [_, _], _ => rfl
  have T_Lacks_init : FTk K mg "Lacks" "Lacks.__init__" C1 s_Lacks___init__ ["self", "names"] := ⟨_, _, F21, m_Lacks, ⟨mkC1, i21_C1, g21, kcC1⟩, B21⟩
  have F22 := DL.fun_mk (st := s_Round___init__) l22 c22 k22
  have B22 : L2.Binds K (PySem.W.fnOf "__init__" "Round.__init__" (defArgs s_Round___init__) (defBody s_Round___init__) (defScope s_Round___init__) .none kV22 dc22 pm22 an22 cd22 ct22) ["self", "names"] [] := L2.Binds.all fun us hl => match us, hl with | [_, _], _ => rfl
  have T_Round_init : FTk K mg "Round" "Round.__init__" C2 s_Round___init__ ["self", "names"] := ⟨_, _, F22, m_Round, ⟨mkC2, i22_C2, g22, kcC2⟩, B22⟩
  have b_abs : mg "abs" = none := PySem.W.mg_none_of X G z_abs
  have b_all : mg "all" = none := PySem.W.mg_none_of X G z_all
  have b_any : mg "any" = none := PySem.W.mg_none_of X G z_any
  have b_dict : mg "dict" = none := PySem.W.mg_none_of X G z_dict
  have b_isinstance : mg "isinstance" = none := PySem.W.mg_none_of X G z_isinstance
  have b_len : mg "len" = none := PySem.W.mg_none_of X G z_len
  have b_list : mg "list" = none := PySem.W.mg_none_of X G z_list
  have b_range : mg "range" = none := PySem.W.mg_none_of X G z_range
  have b_set : mg "set" = none := PySem.W.mg_none_of X G z_set
  have b_str : mg "str" = none := PySem.W.mg_none_of X G z_str
  have b_tuple : mg "tuple" = none := PySem.W.mg_none_of X G z_tuple
  have m_LONGEST : ∃ t, mg "LONGEST" = some (.int 20 t) := ⟨_, PySem.W.mg_of X G v_LONGEST⟩
  have m_MOST_NAMES : ∃ t, mg "MOST_NAMES" = some (.int 40 t) := ⟨_, PySem.W.mg_of X G v_MOST_NAMES⟩
  have m_ALL_SIGNS : ∃ t, mg "ALL_SIGNS" = some (.str (tx allS) t) := ⟨_, PySem.W.mg_of X G v_ALL_SIGNS⟩
  refine ⟨PySem.W.fnOf "law" "law" (defArgs s_law) (defBody s_law) (defScope s_law) .none kV16 dc16 pm16 an16 cd16 ct16, fun s v => .of_eq rfl, fun base _ _ => ?_⟩
  have TD : TLd K C0 C1 C2 CAn := ⟨ld_all (φ := fun o C => ClsI K C) (fun o e => ci_C0) (fun o e => ci_C1) (fun o e e1 => ci_C2), ld_all (φ := fun o C => Cls K C) (fun o e => cl_C0) (fun o e => cl_C1) (fun o e e1 => cl_C2), ld_all (φ := fun o C => NoAttr K C "names") (fun o e => naC0_names) (fun o e => naC1_names) (fun o e e1 => naC2_names), ld_all (φ := fun o C => PySem.W.kitOne K (.ref C) (.ref C0) = some (decide (o.1 = 0))) (fun o e => (by rw [e]; exact kitC0_C0)) (fun o e => (by rw [e]; exact kitC1_C0)) (fun o e e1 => (by rw [decide_eq_false e]; exact kitC2_C0)), ld_all (φ := fun o C => PySem.W.kitOne K (.ref C) (.ref C1) = some (decide (o.1 = 1))) (fun o e => (by rw [e]; exact kitC0_C1)) (fun o e => (by rw [e]; exact kitC1_C1)) (fun o e e1 => (by rw [decide_eq_false e1]; exact kitC2_C1)), ld_all (φ := fun o C => PySem.W.kitOne K (.ref C) (.ref C2) = some (!decide (o.1 = 0) && !decide (o.1 = 1))) (fun o e => (by rw [e]; exact kitC0_C2)) (fun o e => (by rw [e]; exact kitC1_C2)) (fun o e e1 => (by rw [decide_eq_false e, decide_eq_false e1]; exact kitC2_C2)), ld_all (φ := fun o C => PySem.W.kitOne K (.ref C) (.ref CAn) = some true) (fun o e => kitC0_CAn) (fun o e => kitC1_CAn) (fun o e e1 => kitC2_CAn)⟩
  have h_is_name : P_is_name l.prog w K mg base := ok_is_name b_all b_isinstance b_len b_str m_LONGEST T_is_name
  have h__law_cell_at : P__law_cell_at l.prog w K mg base := ok__law_cell_at b_len T__law_cell_at
  have h__law_draw : P__law_draw l.prog w K mg base := ok__law_draw  T__law_draw
  have h__law_number : P__law_number l.prog w K mg base := ok__law_number h__law_draw b_range T__law_number
  have h_is_send : P_is_send l.prog w K mg base := ok_is_send h_is_name b_all b_isinstance b_len b_tuple m_ALL_SIGNS T_is_send
  have h_check_sends : P_check_sends l.prog w K mg base := ok_check_sends h_is_name h_is_send b_all b_any b_isinstance b_len b_list b_set m_MOST_NAMES m_ALL_SIGNS T_check_sends
  have h_came_to : P_came_to l.prog w K mg base := ok_came_to b_dict T_came_to
  have h_Leads : I_Leads l.prog w K mg base C0 C1 C2 := ok_Leads_init b_list cl_C0 naC0_names T_Leads_init
  have h_Lacks : I_Lacks l.prog w K mg base C0 C1 C2 := ok_Lacks_init b_list cl_C1 naC1_names T_Lacks_init
  have h_Round : I_Round l.prog w K mg base C0 C1 C2 := ok_Round_init b_list cl_C2 naC2_names T_Round_init
  have h_Led_shows : M_Led_shows l.prog w K mg base C0 C1 C2 := all_shows (fun o e => ok_Leads_shows o e h_came_to TD T_C0_shows) (fun o e => ok_Lacks_shows o e h_came_to TD T_C1_shows) (fun o e e1 => ok_Round_shows o e e1 h_came_to TD T_C2_shows)
  have h_led : P_led l.prog w K mg base C0 C1 C2 := ok_led h_Lacks h_Leads h_Round h_came_to h_check_sends h_is_name m_ALL_SIGNS T_led
  have h_lost : P_lost l.prog w K mg base := ok_lost h_came_to h_check_sends T_lost
  have h__law_drawn_name : P__law_drawn_name l.prog w K mg base := ok__law_drawn_name h__law_number T__law_drawn_name
  have h__law_house : P__law_house l.prog w K mg base := ok__law_house h__law_cell_at h__law_drawn_name h__law_number b_range T__law_house
  have h__law_walk : P__law_walk l.prog w K mg base := ok__law_walk  T__law_walk
  have h__law_word : P__law_word l.prog w K mg base C0 C1 C2 CAn := ok__law_word b_isinstance b_len TD m_Leads m_Lacks m_Round m_Answer T__law_word
  have h__law_right : P__law_right l.prog w K mg base C0 C1 C2 CAn := ok__law_right h_Led_shows h__law_walk h__law_word h_led b_list b_range b_str TD T__law_right
  have h__law_long_right : P__law_long_right l.prog w K mg base C0 C1 C2 CAn := ok__law_long_right h_led h_lost b_isinstance b_range TD m_Lacks m_Round T__law_long_right
  have h_law : P_law l.prog w K mg base C0 C1 C2 CAn := ok_law h__law_cell_at h__law_house h__law_long_right h__law_right h__law_walk h_lost b_abs b_isinstance b_list b_range TD T_law
  exact law_is hfa l16 h_law
theorem walk {l : PySem.W.OpenLaw} {q : Program} {loose : List Str} {XP : (Str → Option Value) → Heap → Prop} {YP : World → Heap → Prop} {d : DefRec} {K : Params → PySem.W.Frag} (hn : l.most = some 63) (hdf : d.params.defaults = [])
    (hY : ∀ (w : World) (h : Heap), YP w h → (K w.params).In h)
    (F : ∀ (w : World) (mg : Str → Option Value) (fa : Addr) (h : Heap), (K w.params).In h → h.Ns mainGlobals mg → mg d.name = some (.ref fa) →
      ∃ fd : FuncData, (∀ (s : Shared) (u : Value), BindsTo s fd ⟨[u], []⟩ [("_law_script", u)]) ∧ ∀ base : Heap, (K w.params).In base → base.Ns mainGlobals mg → DL.FnOk l.prog w (K w.params) mg base CX0 6 fa fd ["_law_script"] (spLaw (K w.params))) :
    PySem.W.WalkO q loose XP YP l.row.toRowW d [] (fun f vs => PySem.call f vs) :=
  DL.walk_ofG (n := 63) (k := 6) (x := "_law_script") (CX := fun _ => CX0) (sp := fun w => spLaw (K w.params)) hn (by decide) hdf ⟨⟨rfl, by decide, by decide⟩, rfl⟩ hY F (fun _ _ a ns hl _ hS => ⟨a, ns, rfl, hS, hl, fun _ => rfl⟩) fun _ _ _ _ _ z => z
end Law
open PySem PySem.W PyProof.Rows
set_option maxRecDepth 100000 in
set_option maxHeartbeats 0 in
theorem PySem.Challenge.cw_filedcards_k08_whole_sent_on_holds : PySem.Challenge.rw_filedcards_k08_whole_sent_on.Holds := by
  w_on; o_law; k_head; (case hw => w_witness2)
  k_fill
  refine Law.walk (l := PySem.Challenge.rw_filedcards_k08_whole_sent_on) rfl rfl (fun w h Y => PySem.W.kIn_of Y) ?F
  case F =>
    intro w mg fa h KX G hmg
    refine' Law.all_mk KX G hmg ?aC0 ?pgC0 ?hdC0 ?poC0 ?saC0 ?haC0 ?hmC0 ?naC0_names ?aC1 ?pgC1 ?hdC1 ?poC1 ?saC1 ?haC1 ?hmC1 ?naC1_names ?aC2 ?pgC2 ?hdC2 ?poC2 ?saC2 ?haC2 ?hmC2 ?naC2_names ?aCAn ?pgCAn ?hdCAn ?poCAn ?saCAn ?haCAn ?hmCAn ?hnO ?htO ?isC0 ?tyC0 ?isC1 ?tyC1 ?isC2 ?tyC2 ?isCAn ?tyCAn ?subC0_C0 ?subC0_C1 ?subC0_C2 ?subC1_C0 ?subC1_C1 ?subC1_C2 ?subC2_C0 ?subC2_C1 ?subC2_C2 ?subC0_CAn ?subC1_CAn ?subC2_CAn ?a1 ?l1 ?c1 ?k1 ?a2 ?l2 ?c2 ?k2 ?a3 ?l3 ?c3 ?k3 ?a4 ?l4 ?c4 ?k4 ?a5 ?l5 ?c5 ?k5 ?a6 ?l6 ?c6 ?k6 ?a7 ?l7 ?c7 ?k7 ?a8 ?l8 ?c8 ?k8 ?a9 ?l9 ?c9 ?k9 ?a10 ?l10 ?c10 ?k10 ?a11 ?l11 ?c11 ?k11 ?a12 ?l12 ?c12 ?k12 ?a13 ?l13 ?c13 ?k13 ?a14 ?l14 ?c14 ?k14 ?a15 ?l15 ?c15 ?k15 ?a16 ?l16 ?c16 ?k16 ?i17_C0 ?g17 ?l17 ?c17 ?k17 ?i18_C1 ?g18 ?l18 ?c18 ?k18 ?i19_C2 ?g19 ?l19 ?c19 ?k19 ?i20_C0 ?g20 ?l20 ?c20 ?k20 ?mkC0 ?kcC0 ?i21_C1 ?g21 ?l21 ?c21 ?k21 ?mkC1 ?kcC1 ?i22_C2 ?g22 ?l22 ?c22 ?k22 ?mkC2 ?kcC2 ?z_abs ?z_all ?z_any ?z_dict ?z_isinstance ?z_len ?z_list ?z_range ?z_set ?z_str ?z_tuple ?v_LONGEST ?v_MOST_NAMES ?v_ALL_SIGNS
    (case aC0 => k_is)
    (case pgC0 => k_is)
    (case hdC0 => k_is)
    (case poC0 => k_is)
    (case saC0 => k_is)
    (case haC0 => k_is)
    (case hmC0 => k_is)
    (case naC0_names => k_is)
    (case aC1 => k_is)
    (case pgC1 => k_is)
    (case hdC1 => k_is)
    (case poC1 => k_is)
    (case saC1 => k_is)
    (case haC1 => k_is)
    (case hmC1 => k_is)
    (case naC1_names => k_is)
    (case aC2 => k_is)
    (case pgC2 => k_is)
    (case hdC2 => k_is)
    (case poC2 => k_is)
    (case saC2 => k_is)
    (case haC2 => k_is)
    (case hmC2 => k_is)
    (case naC2_names => k_is)
    (case aCAn => k_is)
    (case pgCAn => k_is)
    (case hdCAn => k_is)
    (case poCAn => k_is)
    (case saCAn => k_is)
    (case haCAn => k_is)
    (case hmCAn => k_is)
    (case hnO => k_is)
    (case htO => k_is)
    (case isC0 => k_is)
    (case tyC0 => k_is)
    (case isC1 => k_is)
    (case tyC1 => k_is)
    (case isC2 => k_is)
    (case tyC2 => k_is)
    (case isCAn => k_is)
    (case tyCAn => k_is)
    (case subC0_C0 => k_is)
    (case subC0_C1 => k_is)
    (case subC0_C2 => k_is)
    (case subC1_C0 => k_is)
    (case subC1_C1 => k_is)
    (case subC1_C2 => k_is)
    (case subC2_C0 => k_is)
    (case subC2_C1 => k_is)
    (case subC2_C2 => k_is)
    (case subC0_CAn => k_is)
    (case subC1_CAn => k_is)
    (case subC2_CAn => k_is)
    (case a1 => k_is)
    (case l1 => k_is)
    (case c1 => k_is)
    (case k1 => k_is)
    (case a2 => k_is)
    (case l2 => k_is)
    (case c2 => k_is)
    (case k2 => k_is)
    (case a3 => k_is)
    (case l3 => k_is)
    (case c3 => k_is)
    (case k3 => k_is)
    (case a4 => k_is)
    (case l4 => k_is)
    (case c4 => k_is)
    (case k4 => k_is)
    (case a5 => k_is)
    (case l5 => k_is)
    (case c5 => k_is)
    (case k5 => k_is)
    (case a6 => k_is)
    (case l6 => k_is)
    (case c6 => k_is)
    (case k6 => k_is)
    (case a7 => k_is)
    (case l7 => k_is)
    (case c7 => k_is)
    (case k7 => k_is)
    (case a8 => k_is)
    (case l8 => k_is)
    (case c8 => k_is)
    (case k8 => k_is)
    (case a9 => k_is)
    (case l9 => k_is)
    (case c9 => k_is)
    (case k9 => k_is)
    (case a10 => k_is)
    (case l10 => k_is)
    (case c10 => k_is)
    (case k10 => k_is)
    (case a11 => k_is)
    (case l11 => k_is)
    (case c11 => k_is)
    (case k11 => k_is)
    (case a12 => k_is)
    (case l12 => k_is)
    (case c12 => k_is)
    (case k12 => k_is)
    (case a13 => k_is)
    (case l13 => k_is)
    (case c13 => k_is)
    (case k13 => k_is)
    (case a14 => k_is)
    (case l14 => k_is)
    (case c14 => k_is)
    (case k14 => k_is)
    (case a15 => k_is)
    (case l15 => k_is)
    (case c15 => k_is)
    (case k15 => k_is)
    (case a16 => k_is)
    (case l16 => k_is)
    (case c16 => k_is)
    (case k16 => k_is)
    (case i17_C0 => k_is)
    (case g17 => k_is)
    (case l17 => k_is)
    (case c17 => k_is)
    (case k17 => k_is)
    (case i18_C1 => k_is)
    (case g18 => k_is)
    (case l18 => k_is)
    (case c18 => k_is)
    (case k18 => k_is)
    (case i19_C2 => k_is)
    (case g19 => k_is)
    (case l19 => k_is)
    (case c19 => k_is)
    (case k19 => k_is)
    (case i20_C0 => k_is)
    (case g20 => k_is)
    (case l20 => k_is)
    (case c20 => k_is)
    (case k20 => k_is)
    (case mkC0 => k_is)
    (case kcC0 => k_is)
    (case i21_C1 => k_is)
    (case g21 => k_is)
    (case l21 => k_is)
    (case c21 => k_is)
    (case k21 => k_is)
    (case mkC1 => k_is)
    (case kcC1 => k_is)
    (case i22_C2 => k_is)
    (case g22 => k_is)
    (case l22 => k_is)
    (case c22 => k_is)
    (case k22 => k_is)
    (case mkC2 => k_is)
    (case kcC2 => k_is)
    (case z_abs => k_is)
    (case z_all => k_is)
    (case z_any => k_is)
    (case z_dict => k_is)
    (case z_isinstance => k_is)
    (case z_len => k_is)
    (case z_list => k_is)
    (case z_range => k_is)
    (case z_set => k_is)
    (case z_str => k_is)
    (case z_tuple => k_is)
    (case v_LONGEST => k_is)
    (case v_MOST_NAMES => k_is)
    (case v_ALL_SIGNS => k_is)

