import PyProof.Rows.All
import Wide.All
import OpenK.AllK
import Wide.FinOn
import HandS.ForMost
import HandS.ForExc
import HandS.TupSets
import HandS.Star
import HandS.RaiseMore
import HandS.Flow
import HandS.Defaults
import PySem.Challenge.RW_splitplans_k43_choosers
set_option Elab.async false
set_option linter.all false
set_option maxRecDepth 100000
set_option maxHeartbeats 4000000
namespace G0
open PySem PySem.Spec PyProof.Rows L2

/-- room for k calls, and no repr is under way around -/
structure RoomG (k : Nat) (A : Around) : Prop where
  rm : Room k A
  gd : A.guards = some []
theorem RoomG.mono {j k : Nat} {A : Around} (r : RoomG k A) (h : j ≤ k) : RoomG j A := ⟨r.rm.mono h, r.gd⟩
theorem RoomG.deeper {k : Nat} {A : Around} (r : RoomG (k + 1) A) (env : Env) : RoomG k (A.deeper env) := ⟨r.rm.deeper env, r.gd⟩
theorem RoomG.units {k : Nat} {A : Around} (r : RoomG k A) : A.units + 64 < cLine := r.rm.units
theorem RoomG.units0 {k : Nat} {A : Around} (r : RoomG k A) : A.units < cLine := r.rm.units0
theorem RoomG.u1 {k : Nat} {A : Around} (r : RoomG k A) : A.units + 1 < cLine := hu_of r.rm
theorem RoomG.make {k : Nat} {A : Around} (r : RoomG (k + 1) A) (C : Addr) (us : List Value) (kw : List (Str × Value)) : RoomG k (A.under (.builtin "type.__call__" ⟨.ref C :: us, kw⟩)) := by
  refine ⟨r.rm.make C us kw, ?_⟩
  have h : (Code.builtin "type.__call__" ⟨.ref C :: us, kw⟩).isGuard = false := by
    show guardIds.contains "type.__call__" = false
    decide +kernel
  have g := r.gd
  simp [Around.under, Code.guards, h, pushGuards, g]

section
variable (P : Program) (w : World) (K : PySem.W.Frag) (mg : Str → Option Value) (base : Heap) (CX : CXT)
/-- the def at f keeps sp wherever no repr is under way -/
structure FnG (k : Nat) (f : Addr) (fd : FuncData) (ps : List Str) (sp : Sp) : Prop where
  len : ∀ vs H Q E, sp vs H Q E → vs.length = ps.length
  run : ∀ (A : Around) (outer : List Env) (s : Shared) (H : Hp) (args : Args) (us : List Value) (vs : List V) (Q : VK) (E : XK),
    RoomG k A → Env0 P w K mg base A outer s H → BindsTo s fd args (ps.zip us) → Vals vs us → sp vs H Q E →
    codeAny (model P w) A (.call (.ref f) args) (CR CX outer P w H s Q E) s
end
section
variable {P : Program} {w : World} {K : PySem.W.Frag} {mg : Str → Option Value} {base : Heap} {CX : CXT} {k j : Nat} {f : Addr} {fd : FuncData} {ps : List Str} {sp : Sp}
theorem FnG.mono (F : FnG P w K mg base CX j f fd ps sp) (h : j ≤ k) : FnG P w K mg base CX k f fd ps sp :=
  ⟨F.len, fun A outer s H args us vs Q E hr => F.run A outer s H args us vs Q E (hr.mono h)⟩
theorem FnG.imp {sp' : Sp} (F : FnG P w K mg base CX k f fd ps sp) (h : ∀ vs H Q E, sp' vs H Q E → sp vs H Q E) : FnG P w K mg base CX k f fd ps sp' :=
  ⟨fun vs H Q E q => F.len vs H Q E (h _ _ _ _ q), fun A outer s H args us vs Q E hr e0 b r q => F.run A outer s H args us vs Q E hr e0 b r (h _ _ _ _ q)⟩
theorem ofOk (F : FnOk P w K mg base CX k f fd ps sp) : FnG P w K mg base CX k f fd ps sp :=
  ⟨F.len, fun A outer s H args us vs Q E hr => F.run A outer s H args us vs Q E hr.rm⟩

/-- a def by its body -/
theorem fng {x qual : Str} {st : Stmt} {N : List Str} (F : Fun K x qual st f fd) (S : FnScope N ps (defScope st)) (len : ∀ vs H Q E, sp vs H Q E → vs.length = ps.length)
    (body : ∀ (cdv : Value) (A : Around) (outer : List Env) (s : Shared) (H : Hp) (vs : List V) (Q : VK) (E : XK),
      RoomG k (A.deeper (envOfC qual (defScope st) s.heap.objs.size f cdv)) → sp vs H Q E →
      ∃ t, PSs (cxOf CX P w K mg base N qual (defScope st) f cdv A outer s H E) (defBody st) t ∧ t { nx := fun _ H' => Q .non H', rt := Q } (start N vs) H) :
    FnG P w K mg base CX (k + 1) f fd ps sp := by
  obtain ⟨oc, od, kV, doc, pm, an, cdv, ct, osl, hfd, lk, hcd⟩ := F.ex
  subst hfd
  refine ⟨len, fun A outer s H args us vs Q E room e0 hbind rv want => ?_⟩
  have n := len _ _ _ _ want
  have keepB : ∀ b o, base.get? b = some o → s.heap.get? b = some o := fun b o e => (e0.bs b o e).1
  have inK := e0.mod.kin.keeps keepB
  have noLim := e0.mod.nolimit.keeps keepB
  have kinds : ∀ y ∈ ps.zip us, (defScope st).names.lookup y.1 = some .local ∨ ((defScope st).names.lookup y.1 = some .cell ∧ ((cellsFrom (s.heap.objs.size + 1) (defScope st).names []).lookup y.1).isSome = true) := by
    rintro ⟨nm, v⟩ hy
    exact (S.par nm (List.of_mem_zip hy).1).elim .inl fun q => .inr ⟨q, PySem.W.cellsFrom_some _ _ _ (.inl q)⟩
  refine codeAny_call_function room.rm.depth (inK _ _ lk) rfl S.co S.gen rfl (PySem.W.codeRec_of inK hcd) (hbind _ _ _ _ (wpAny_newFunctionEnv_cells S.kind kinds ?_))
  rintro env rfl s1 x
  refine ⟨noLim.keeps x.toInCall.keep, codeAny_func ?_⟩
  obtain ⟨t, ht, hq⟩ := body cdv A outer s H vs Q E (room.deeper _) want
  refine wpAny_mono (ht.run [] s1 (start N vs) H _ (inv_start S room.rm.hd e0 n rv x) hq) (fun fl s' hs => ?_) fun _ _ hs => hs
  cases fl with
  | ret u => obtain ⟨v, σ', H', J, r, q⟩ := hs; exact ⟨v, H', J.os, J.bare, J.base, J.hok, r, q⟩
  | next => obtain ⟨σ', H', J, q⟩ := hs; exact ⟨V.non, H', J.os, J.bare, J.base, J.hok, rfl, q⟩
  | brk => obtain ⟨_, _, _, q⟩ := hs; exact q.elim
  | cont => obtain ⟨_, _, _, q⟩ := hs; exact q.elim
/-- .. nothing leaves it -/
theorem fng0 {x qual : Str} {st : Stmt} {N : List Str} (F : Fun K x qual st f fd) (S : FnScope N ps (defScope st)) (len : ∀ vs H Q E, sp vs H Q E → vs.length = ps.length)
    (body : ∀ (cdv : Value) (A : Around) (outer : List Env) (s : Shared) (H : Hp) (vs : List V) (Q : VK) (E : XK),
      RoomG k (A.deeper (envOfC qual (defScope st) s.heap.objs.size f cdv)) → sp vs H Q E →
      ∃ t, PSs (cxOf CX0 P w K mg base N qual (defScope st) f cdv A outer s H E).nox (defBody st) t ∧ t { nx := fun _ H' => Q .non H', rt := Q } (start N vs) H) :
    FnG P w K mg base CX0 (k + 1) f fd ps sp :=
  fng F S len fun cdv A outer s H vs Q E hr h => let ⟨t, a, b⟩ := body cdv A outer s H vs Q E hr h; ⟨t, a.nox, b⟩
end

section
variable {X : Cx} {CX : CXT} {k j : Nat} {f : Addr} {fd : FuncData} {ps : List Str} {sp : Sp} {ds : List Value} {dvs : List V} {E : XK}
theorem run_g {pins : List (Addr × Obj)} {σ : L2.St} {H : Hp} {s : Shared} {Q : VK} {us : List Value} {vs : List V} (F : FnG X.prog X.w X.K X.mg X.base CX k f fd ps sp) (hr : RoomG k X.A) (hb : Binds X.K fd ps ds) (hd : Vals dvs ds) (hx : Passes CX X E)
    (I : Inv X pins σ H s) (r : Vals vs us) (h : sp (vs ++ dvs) H Q E) : wpAny (model X.prog X.w) X.A (call (.ref f) us) (EP X pins σ Q) X.xe s := by
  have both := r.append hd
  have n : (us ++ ds).length = ps.length := both.length.symm.trans (F.len _ _ _ _ h)
  refine wpAny_call (codeAny_mono (F.run X.A X.stack s H ⟨us, []⟩ _ _ Q E hr I.env0 (hb s us I.kIn n) both h) fun res s' hq => ?_)
  match res, hq with
  | .error e, hq => exact hx pins σ H s e s' I hq
  | .ok (.ret u), hq => exact I.after hq
  | .ok .next, hq => exact False.elim hq
  | .ok .brk, hq => exact False.elim hq
  | .ok .cont, hq => exact False.elim hq
end

/-- a def of the text by its name -/
structure Cal (P : Program) (w : World) (K : PySem.W.Frag) (mg : Str → Option Value) (base : Heap) (k : Nat) (x : Str) (sp : Sp) : Prop where
  ex : ∃ (f : Addr) (fd : FuncData) (ps : List Str), FnG P w K mg base CX0 k f fd ps sp ∧ mg x = some (.ref f) ∧ PySem.W.keepIn K (.ref f) = true ∧ Binds K fd ps []
/-- a def of the text as it stands -/
structure Dfn (K : PySem.W.Frag) (mg : Str → Option Value) (x : Str) (st : Stmt) : Prop where
  ex : ∃ (f : Addr) (fd : FuncData), Fun K x x st f fd ∧ mg x = some (.ref f)
theorem dfn_mk {K : PySem.W.Frag} {mg : Str → Option Value} {h : Heap} {x : Str} {st : Stmt} {f : Addr} {oc : Value} {od an : Option Addr} {osl : Array (Option Value)} {kV doc pm cdv ct : Value} (X : K.In h) (G : h.Ns mainGlobals mg)
    (a : PySem.W.nsIn K mainGlobals x = some (some (.ref f))) (l : K.lookup f = some ⟨oc, od, .func (PySem.W.fnOf x x (defArgs st) (defBody st) (defScope st) .none kV doc pm an cdv ct), osl⟩)
    (c : PySem.W.codeIn K cdv x = true) (k : PySem.W.keepIn K (.ref f) = true) : Dfn K mg x st := ⟨f, _, fun_mk l c k, PySem.W.mg_of X G a⟩
section
variable {P : Program} {w : World} {K : PySem.W.Frag} {mg : Str → Option Value} {base : Heap}
theorem cal {k : Nat} {x : Str} {st : Stmt} {N ps : List Str} {sp : Sp} (D : Dfn K mg x st) (S : FnScope N ps (defScope st))
    (hb : ∀ (kV doc pm : Value) (an : Option Addr) (cdv ct : Value) (us : List Value), us.length = ps.length → bindArgs (PySem.W.fnOf x x (defArgs st) (defBody st) (defScope st) .none kV doc pm an cdv ct) ⟨us, []⟩ = pure (ps.zip us))
    (len : ∀ vs H Q E, sp vs H Q E → vs.length = ps.length)
    (body : ∀ (f : Addr) (cdv : Value) (A : Around) (outer : List Env) (s : Shared) (H : Hp) (vs : List V) (Q : VK) (E : XK),
      RoomG k (A.deeper (envOfC x (defScope st) s.heap.objs.size f cdv)) → sp vs H Q E →
      ∃ t, PSs (cxOf CX0 P w K mg base N x (defScope st) f cdv A outer s H E).nox (defBody st) t ∧ t { nx := fun _ H' => Q .non H', rt := Q } (start N vs) H) :
    Cal P w K mg base (k + 1) x sp := by
  obtain ⟨f, fd, F, m⟩ := D.ex
  exact ⟨f, fd, ps, fng0 F S len (body f), m, F.kp, F.binds hb⟩
end
section
variable {X : Cx} {k j : Nat} {C : Addr} {x m : Str} {sp : Sp} {p pos apos : Pos} {e o : Expr} {es : List Expr} {ta : TE} {t : TA}
theorem pe_c (c : Cal X.prog X.w X.K X.mg X.base k x sp) (hr : RoomG j X.A) (hk : k ≤ j) (hg : Gl X x) (ha : PA X (e :: es) t)
    (hdb : (x == ("__debug__" : Str)) = false := by decide) (he : starEach (e :: es) X.env = (false, eval e X.env) :: starEach es X.env := by rfl) (hpl : (backTo pos (starEach es X.env)).any (·.1) = false := by rfl) :
    PE X (.Call (.Name x p) (e :: es) [] pos) (tCall sp [] E0 t) := by
  obtain ⟨f, fd, ps, F, hm, kp, b⟩ := c.ex
  refine ⟨fun pins s σ H Q I h => wpAny_Call_Name_kw (ld_glob I hg hm ?_ hdb)⟩
  refine PySem.W.callWith_K (h₀ := X.base) I.ok.mod.kin kp (thn (ha.run pos pins s σ H _ I h) fun us s1 ⟨vs, H1, I1, r, q⟩ => ⟨I1.kIn, ?_⟩) he hpl
  exact run_g F (hr.mono hk) b .nil pass0 I1 r q
end

/-! ### classes -/
/-- a class of the text: its address by its name, what its instances' attributes are like -/
structure Kls (K : PySem.W.Frag) (mg : Str → Option Value) (x : Str) (C : Addr) : Prop where
  cls : Cls K C
  makes : PySem.W.makesIn K C = true
  kp : PySem.W.keepIn K (.ref C) = true
  at_ : mg x = some (.ref C)
/-- a method of it -/
structure Mth (K : PySem.W.Frag) (C : Addr) (m qual : Str) (st : Stmt) : Prop where
  ex : ∃ (f : Addr) (fd : FuncData), Fun K m qual st f fd ∧ PySem.W.findIn K (.ref C) m = some (some (.ref f)) ∧ PySem.W.isFn K (.ref f) = true
theorem mth_mk {K : PySem.W.Frag} {m qual : Str} {C : Addr} {st : Stmt} {f : Addr} {oc : Value} {od an : Option Addr} {osl : Array (Option Value)} {kV doc pm cdv ct : Value}
    (a : PySem.W.findIn K (.ref C) m = some (some (.ref f))) (i : PySem.W.isFn K (.ref f) = true) (l : K.lookup f = some ⟨oc, od, .func (PySem.W.fnOf m qual (defArgs st) (defBody st) (defScope st) .none kV doc pm an cdv ct), osl⟩)
    (c : PySem.W.codeIn K cdv qual = true) (k : PySem.W.keepIn K (.ref f) = true) : Mth K C m qual st := ⟨f, _, fun_mk l c k, a, i⟩
/-- a method's promise -/
structure Met (P : Program) (w : World) (K : PySem.W.Frag) (mg : Str → Option Value) (base : Heap) (k : Nat) (C : Addr) (m : Str) (sp : Sp) : Prop where
  ex : ∃ (f : Addr) (fd : FuncData) (ps : List Str), FnG P w K mg base CX0 k f fd ps sp ∧ PySem.W.findIn K (.ref C) m = some (some (.ref f)) ∧ PySem.W.isFn K (.ref f) = true ∧ PySem.W.keepIn K (.ref f) = true ∧ Binds K fd ps []
section
variable {P : Program} {w : World} {K : PySem.W.Frag} {mg : Str → Option Value} {base : Heap}
theorem met {k : Nat} {C : Addr} {m qual : Str} {st : Stmt} {N ps : List Str} {sp : Sp} (D : Mth K C m qual st) (S : FnScope N ps (defScope st))
    (hb : ∀ (kV doc pm : Value) (an : Option Addr) (cdv ct : Value) (us : List Value), us.length = ps.length → bindArgs (PySem.W.fnOf m qual (defArgs st) (defBody st) (defScope st) .none kV doc pm an cdv ct) ⟨us, []⟩ = pure (ps.zip us))
    (len : ∀ vs H Q E, sp vs H Q E → vs.length = ps.length)
    (body : ∀ (f : Addr) (cdv : Value) (A : Around) (outer : List Env) (s : Shared) (H : Hp) (vs : List V) (Q : VK) (E : XK),
      RoomG k (A.deeper (envOfC qual (defScope st) s.heap.objs.size f cdv)) → sp vs H Q E →
      ∃ t, PSs (cxOf CX0 P w K mg base N qual (defScope st) f cdv A outer s H E).nox (defBody st) t ∧ t { nx := fun _ H' => Q .non H', rt := Q } (start N vs) H) :
    Met P w K mg base (k + 1) C m sp := by
  obtain ⟨f, fd, F, a, i⟩ := D.ex
  exact ⟨f, fd, ps, fng0 F S len (body f), a, i, F.kp, F.binds hb⟩
end
section
variable {X : Cx} {k j : Nat} {C : Addr} {x m : Str} {sp : Sp} {p pos apos : Pos} {e o : Expr} {es : List Expr} {ta : TE} {t : TA}
/-- an instance made, its __init__ run -/
theorem run_mkg {pins : List (Addr × Obj)} {σ : L2.St} {H : Hp} {s : Shared} {Q : VK} {us : List Value} {vs : List V} (Kc : Kls X.K X.mg x C) (c : Met X.prog X.w X.K X.mg X.base k C "__init__" sp) (hr : RoomG (k + 1) X.A)
    (I : Inv X pins σ H s) (r : Vals vs us)
    (h : ∀ a dx, H a = none → H dx = none → dx ≠ a → sp (.ref a :: vs) (upd (upd H dx (.own a)) a (.ins C dx [])) (fun v H2 => v = .non ∧ Q (.ref a) H2) E0) :
    wpAny (model X.prog X.w) X.A (call (.ref C) us) (EP X pins σ Q) X.xe s := by
  obtain ⟨f, fd, ps, F, fi, isf, kf, hb⟩ := c.ex
  have q0 := h (s.heap.objs.size + 1) s.heap.objs.size (I.hok.fresh (Nat.le_succ _)) (I.hok.fresh (Nat.le_refl _)) (Nat.ne_of_lt (Nat.lt_succ_self _))
  have I2 := Inv.made (C := C) I
  have r2 : Vals (V.ref (s.heap.objs.size + 1) :: vs) (Value.ref (s.heap.objs.size + 1) :: us) := .cons rfl r
  have n : (Value.ref (s.heap.objs.size + 1) :: us).length = ps.length := r2.length.symm.trans (F.len _ _ _ _ q0)
  have hbd := hb { s with heap := (s.heap.push PySem.W.emptyDict).push (PySem.W.instObj C s.heap.objs.size) } (Value.ref (s.heap.objs.size + 1) :: us) I2.kIn (by rw [List.append_nil]; exact n)
  rw [List.append_nil] at hbd
  refine wpAny_call (make_map (f := f) I.kIn Kc.makes fi (beq_iff_eq.mp isf) (codeAny_mono (F.run _ X.stack _ _ ⟨Value.ref (s.heap.objs.size + 1) :: us, []⟩ (Value.ref (s.heap.objs.size + 1) :: us) _ _ E0 (hr.make C us [])
    (I2.env0.make C us []) hbd r2 q0) fun res s' hq => ?_))
  match res, hq with
  | .error e, hq => exact False.elim hq
  | .ok .next, hq => exact False.elim hq
  | .ok .brk, hq => exact False.elim hq
  | .ok .cont, hq => exact False.elim hq
  | .ok (.ret u), hq =>
    obtain ⟨v, H', I3, rv, ev, q3⟩ := I2.after hq
    subst ev
    exact ⟨rv, ⟨V.ref (s.heap.objs.size + 1), H', I3, rfl, q3⟩⟩
theorem pe_mk (Kc : Kls X.K X.mg x C) (c : Met X.prog X.w X.K X.mg X.base k C "__init__" sp) (hr : RoomG j X.A) (hk : k + 1 ≤ j) (hg : Gl X x) (ha : PA X (e :: es) t)
    (hdb : (x == ("__debug__" : Str)) = false := by decide) (he : starEach (e :: es) X.env = (false, eval e X.env) :: starEach es X.env := by rfl) (hpl : (backTo pos (starEach es X.env)).any (·.1) = false := by rfl) :
    PE X (.Call (.Name x p) (e :: es) [] pos) (tMake C sp [] E0 t) := by
  refine ⟨fun pins s σ H Q I h => wpAny_Call_Name_kw (ld_glob I hg Kc.at_ ?_ hdb)⟩
  refine PySem.W.callWith_K (h₀ := X.base) I.ok.mod.kin Kc.kp (thn (ha.run pos pins s σ H _ I h) fun us s1 ⟨vs, H1, I1, r, q⟩ => ⟨I1.kIn, ?_⟩) he hpl
  refine run_mkg Kc c (hr.mono hk) I1 r fun a dx n1 n2 n3 => ?_
  have z := q a dx n1 n2 n3
  rwa [List.append_nil] at z
/-- C() of a class that has no __init__ of its own -/
theorem run_mkn {pins : List (Addr × Obj)} {σ : L2.St} {H : Hp} {s : Shared} {Q : VK} (Kc : Kls X.K X.mg x C) (hi : PySem.W.findIn X.K (.ref C) "__init__" = some (some (.builtin "object.__init__")))
    (I : Inv X pins σ H s) (h : ∀ a dx, H a = none → H dx = none → dx ≠ a → Q (.ref a) (upd (upd H dx (.own a)) a (.ins C dx []))) :
    wpAny (model X.prog X.w) X.A (call (.ref C) []) (EP X pins σ Q) X.xe s := by
  have q0 := h (s.heap.objs.size + 1) s.heap.objs.size (I.hok.fresh (Nat.le_succ _)) (I.hok.fresh (Nat.le_refl _)) (Nat.ne_of_lt (Nat.lt_succ_self _))
  have I2 := Inv.made (C := C) I
  obtain ⟨hh, g, d, tk, os⟩ := s
  have Y := PySem.W.makes_of (M := model X.prog X.w) I.kIn Kc.makes
  have e2 : ((hh.push PySem.W.emptyDict).push (PySem.W.instObj C hh.objs.size)).get? (hh.objs.size + 1) = some (PySem.W.instObj C hh.objs.size) := by
    have z := Heap.get?_push_size (hh.push PySem.W.emptyDict) (o := PySem.W.instObj C hh.objs.size) rfl
    rwa [Heap.size_push] at z
  refine wpAny_call (make_map0 I.kIn Kc.makes hi (fun self => PySem.W.Looks.of_pure (PySem.W.oi_bind self)) ?_)
  have t1 : PySem.W.Looks (model X.prog X.w) ((hh.push PySem.W.emptyDict).push (PySem.W.instObj C hh.objs.size)) (typeOf (.ref (hh.objs.size + 1))) (.ref C) := (PySem.W.Looks.ld e2).andThen .now
  have t2 : PySem.W.Looks (model X.prog X.w) ((hh.push PySem.W.emptyDict).push (PySem.W.instObj C hh.objs.size)) (isInstance (.ref (hh.objs.size + 1)) (.type "object")) true :=
    t1.andThen (Y.top.keeps fun b o e => Heap.get?_push_of_some _ (Heap.get?_push_of_some _ e))
  refine codeAny_call_builtin PySem.W.oi_plain PySem.W.entry_oi (@PySem.W.check_slot (model X.prog X.w) _ _ _ "object.__init__" "object" "__init__" _ [] [] _ PySem.W.oi_kind PySem.W.oi_split t2 (PySem.W.oi_args _) ?_)
  rw [PySem.W.oi_run]
  exact wpAny_pure (And.intro rfl ⟨V.ref (hh.objs.size + 1), _, I2, rfl, q0⟩)
def tMakeN (C : Addr) : TE := fun _ H Q => ∀ a dx, H a = none → H dx = none → dx ≠ a → Q (.ref a) (upd (upd H dx (.own a)) a (.ins C dx []))
theorem pe_mkn (Kc : Kls X.K X.mg x C) (hi : PySem.W.findIn X.K (.ref C) "__init__" = some (some (.builtin "object.__init__"))) (hg : Gl X x)
    (hdb : (x == ("__debug__" : Str)) = false := by decide) : PE X (.Call (.Name x p) [] [] pos) (tMakeN C) := by
  refine ⟨fun pins s σ H Q I h => wpAny_Call_Name_kw (ld_glob I hg Kc.at_ ?_ hdb)⟩
  exact PySem.W.callWith_K0 I.kIn Kc.kp (run_mkn Kc hi I h)
end
end G0

namespace G0
open PySem PySem.Spec PyProof.Rows L2
section
variable {X : Cx} {k j : Nat} {C : Addr} {x m : Str} {sp : Sp} {p pos apos : Pos} {e o fe : Expr} {es : List Expr} {ta tf : TE} {t : TA}
/-- o.m(e, ..) -/
theorem pe_mt {pl : Sem Bool} (cl : Cls X.K C) (c : Met X.prog X.w X.K X.mg X.base k C m sp) (hr : RoomG j X.A) (hk : k ≤ j) (ho : PE X o ta) (ha : PA X (e :: es) t)
    (hst : starEach (e :: es) X.env = (false, eval e X.env) :: starEach es X.env := by rfl) (hpl : (backTo pos (starEach es X.env)).any (·.1) = false := by rfl)
    (ht : eval (.Call (.Attribute o m apos) (e :: es) [] pos) X.env = (do
      let recv ← eval o X.env
      standAt apos.atName
      let (fn, one) ← holding [recv] (getMethod recv m pl)
      callWith pos fn one (backTo pos (starEach (e :: es) X.env)) (backToKw pos (keywordEach [] X.env))) := by rfl) :
    PE X (.Call (.Attribute o m apos) (e :: es) [] pos) (tMeth C m sp [] E0 ta t) := by
  obtain ⟨f, fd, ps, F, fi, isf, kf, b⟩ := c.ex
  refine ⟨fun pins s σ H Q I h => PySem.W.methodCall_KW (pl := pl) (thn (ho.run pins s σ H _ I h) ?_) ht⟩
  rintro u s1 ⟨y, H1, I1, ry, a, dx, fs, rfl, ea, l, q⟩
  obtain rfl : u = Value.ref a := ry
  refine getmeth_ok I1 ea cl ⟨fi, isf, kf⟩ l ?_
  refine PySem.W.callWith_K (first := [.ref a]) (h₀ := X.base) I.ok.mod.kin kf (thn (ha.run pos pins s1 σ H1 _ I1 q) ?_) hst hpl
  rintro us s2 ⟨vs, H2, I2, r, q2⟩
  exact ⟨I2.kIn, run_g (us := .ref a :: us) (vs := .ref a :: vs) F (hr.mono hk) b .nil pass0 I2 (.cons rfl r) q2⟩
theorem pe_mt0 {pl : Sem Bool} (cl : Cls X.K C) (c : Met X.prog X.w X.K X.mg X.base k C m sp) (hr : RoomG j X.A) (hk : k ≤ j) (ho : PE X o ta)
    (ht : eval (.Call (.Attribute o m apos) [] [] pos) X.env = (do
      let recv ← eval o X.env
      standAt apos.atName
      let (fn, one) ← holding [recv] (getMethod recv m pl)
      callWith pos fn one (backTo pos (starEach [] X.env)) (backToKw pos (keywordEach [] X.env))) := by rfl) :
    PE X (.Call (.Attribute o m apos) [] [] pos) (tMeth C m sp [] E0 ta tNil) := by
  obtain ⟨f, fd, ps, F, fi, isf, kf, b⟩ := c.ex
  refine ⟨fun pins s σ H Q I h => PySem.W.methodCall_KW (pl := pl) (thn (ho.run pins s σ H _ I h) ?_) ht⟩
  rintro u s1 ⟨y, H1, I1, ry, a, dx, fs, rfl, ea, l, q⟩
  obtain rfl : u = Value.ref a := ry
  refine getmeth_ok I1 ea cl ⟨fi, isf, kf⟩ l ?_
  exact PySem.W.callWith_K0 (first := [.ref a]) I1.kIn kf (run_g (us := [.ref a]) (vs := [.ref a]) F (hr.mono hk) b .nil pass0 I1 (.cons rfl .nil) q)
/-- f(e, ..) where f gives an instance whose class has a __call__ -/
def tCallI (C : Addr) (sp : Sp) (tf : TE) (t : TA) : TE := fun σ H Q => tf σ H fun y H1 => ∃ a, y = V.ref a ∧ t σ H1 fun vs H2 => (∃ dx fs, H2 a = some (.ins C dx fs)) ∧ sp (V.ref a :: vs) H2 Q E0
theorem pe_co (c : Met X.prog X.w X.K X.mg X.base k C "__call__" sp) (fn : ∀ f, PySem.W.findIn X.K (.ref C) "__call__" = some (some (.ref f)) → PySem.W.fnIn X.K f = true) (hr : RoomG j X.A) (hk : k ≤ j) (hf : PE X fe tf) (ha : PA X (e :: es) t)
    (ht : eval (.Call fe (e :: es) [] pos) X.env = (do callWith pos (← eval fe X.env) [] (backTo pos (starEach (e :: es) X.env)) (backToKw pos (keywordEach [] X.env))) := by rfl)
    (he : starEach (e :: es) X.env = (false, eval e X.env) :: starEach es X.env := by rfl) (hpl : (backTo pos (starEach es X.env)).any (·.1) = false := by rfl) : PE X (.Call fe (e :: es) [] pos) (tCallI C sp tf t) := by
  obtain ⟨f, fd, ps, F, fi, isf, kf, b⟩ := c.ex
  refine ⟨fun pins s σ H Q I h => Call_ (thn (hf.run pins s σ H _ I h) ?_) ht⟩
  rintro u s1 ⟨y, H1, I1, ry, a, rfl, q⟩
  obtain rfl : u = Value.ref a := ry
  refine StX.callO_with (thn (ha.run pos pins s1 σ H1 _ I1 q) ?_) he hpl
  rintro us s2 ⟨vs, H2, I2, r, ⟨dx, fs, hi⟩, q2⟩
  obtain ⟨mA, O, _⟩ := ins_get I2.hok hi
  obtain ⟨od, J, _⟩ := O.look
  refine ⟨⟨C, _, _, J, rfl⟩, ?_⟩
  have both : Vals (V.ref a :: vs) (Value.ref a :: us) := .cons rfl r
  have n : (Value.ref a :: us).length = ps.length := both.length.symm.trans (F.len _ _ _ _ q2)
  have hbd := b s2 (Value.ref a :: us) I2.kIn (by rw [List.append_nil]; exact n)
  rw [List.append_nil] at hbd
  refine wpAny_call (PySem.W.kco_code I2.kIn J rfl fi isf (fn f fi) (codeAny_mono (F.run X.A X.stack s2 H2 ⟨Value.ref a :: us, []⟩ _ _ Q E0 (hr.mono hk) I2.env0 hbd both q2) ?_))
  intro res s' hq
  match res, hq with
  | .error e, hq => exact False.elim hq
  | .ok (.ret u), hq => exact I2.after hq
  | .ok .next, hq => exact False.elim hq
  | .ok .brk, hq => exact False.elim hq
  | .ok .cont, hq => exact False.elim hq
/-- repr of data -/
def rRepr (K : PySem.W.Frag) : List V → Hp → VK → Prop := fun xs H Q => ∃ (a : Addr) (d : PyData), xs = [.ref a] ∧ Dp K H (.ref a) d ∧ d.showable = true ∧ d.depth ≤ 20 ∧ d.shown.length ≤ sizeLine ∧ Q (.str d.shown) H
theorem dp_noDict {K : PySem.W.Frag} {H : Hp} : ∀ {v : V} {d : PyData}, Dp K H v d → d.hasDict = false := by
  intro v d h
  exact Dp.rec (motive_1 := fun _ d _ => d.hasDict = false) (motive_2 := fun _ ds _ => PyData.hasDictAll ds = false)
    (by rfl) (fun _ => by rfl) (fun _ => by rfl) (fun _ => by rfl) (fun _ _ ih => by simpa [PyData.hasDict] using ih) (fun _ _ ih => by simpa [PyData.hasDict] using ih)
    (by rfl) (fun _ _ i1 i2 => by simp [PyData.hasDictAll, i1, i2]) h
theorem call_reprD (hr : RoomG j X.A) : CallR X (.builtin "repr") (rRepr X.K) := by
  intro pins s σ H xs us Q I r h
  obtain ⟨a, d, rfl, hd, sh, dep, sz, q⟩ := h
  obtain ⟨u, rfl, rx⟩ := vals1 r
  obtain ⟨as, rd⟩ := Dp.reads I d _ _ hd rx
  obtain rfl : u = Value.ref a := rx
  have nd := dp_noDict hd
  refine repr_of_reads' rd sh (fun z => by rw [nd] at z; cases z) hr.gd (by have := hr.units; omega) (fun _ _ e => e) (fun h' u tk hk => ?_) sz
  exact ⟨.str d.shown, H, I.kept (t' := tk) hk, ⟨_, rfl⟩, q⟩
end

/-! ### the law's own call -/
theorem lawG {P : Program} {w : World} {K : PySem.W.Frag} {mg mb : Str → Option Value} {k : Nat} {fa a : Addr} {x : Str} {sp : Sp} {s1 : Shared} {us : List Value} {ns : List Int}
    (inK : K.In s1.heap) (gl : s1.heap.Ns mainGlobals mg) (bl : s1.heap.Ns builtinsNs mb) (blE : ∀ x : Str, x ≠ "__name__" → mb x = bootBuiltins x) (lim : s1.heap.NoLimit) (gens : s1.gens = #[])
    (obj : s1.heap.get? a = some { cls := .type "list", data := .seq us.toArray }) (intsH : IntsAre us ns) (short : ns.length ≤ sizeLine) (room : RoomG k callerA)
    (F : ∀ base : Heap, K.In base → base.Ns mainGlobals mg → Cal P w K mg base k x sp) (hx : mg x = some (.ref fa))
    (want : ∀ H : Hp, Only H → SqL K H a (ns.map V.int) → sp [.ref a] H (fun v _ => v = .bl true) fun _ _ _ => False) :
    codeAny (model P w) callerA (.call (.ref fa) ⟨[.ref a], []⟩) (fun r s' => r = .ok (.ret (.bool true)) ∧ OldK s1.heap s'.heap ∧ s'.os = s1.os ∧ AllBare s'.gens) s1 := by
  -- the script's own place alone is tracked, or nothing is
  have go : ∀ T : Hp, (∀ b u, T b = some u → b = a ∧ ∃ o xs, u = .frz o (.lst xs)) → SqL K T a (ns.map V.int) → HOk P w T s1.heap → (T a ≠ none → K.lookup a = none) →
      codeAny (model P w) callerA (.call (.ref fa) ⟨[.ref a], []⟩) (fun r s' => r = .ok (.ret (.bool true)) ∧ OldK s1.heap s'.heap ∧ s'.os = s1.os ∧ AllBare s'.gens) s1 := by
    intro T only seq hok free
    have hid : ∀ {b : Addr} {m : Str → Option Value}, s1.heap.Ns b m → (hidT s1.heap T).Ns b m := by
      rintro b m ⟨o, es, ep, e, d, rest⟩
      refine ⟨o, es, ep, hidT_get e ?_, d, rest⟩
      cases q : T b with
      | none => rfl
      | some u =>
        obtain ⟨rfl, _⟩ := only b u q
        rw [obj] at e
        obtain rfl := Option.some.inj e
        exact nomatch d
    have inB : K.In (hidT s1.heap T) := by
      intro b o e
      refine hidT_get (inK b o e) ?_
      cases q : T b with
      | none => rfl
      | some u =>
        obtain ⟨rfl, _⟩ := only b u q
        rw [free (by rw [q]; exact fun z => nomatch z)] at e
        exact nomatch e
    have lim' : (hidT s1.heap T).NoLimit := by
      obtain ⟨mc, z1, z2⟩ := lim
      exact ⟨mc, hid z1, z2⟩
    have env0 : Env0 P w K mg (hidT s1.heap T) callerA [] s1 T :=
      { frames := rfl, mod := ⟨inB, hid gl, ⟨mb, hid bl, blE⟩, lim'⟩, bs := fun _ _ e => of_hidT e, bsz := Nat.le_of_eq (hidT_size _ _), funs := trivial, frf := (fun _ hb => nomatch hb), hok := hok, bare := .of_eq gens }
    have onlyT : Only T := fun b => by
      cases q : T b with
      | none => exact .inl rfl
      | some u => obtain ⟨_, o, xs, rfl⟩ := only b u q; exact .inr ⟨o, xs, rfl⟩
    obtain ⟨f, fd, ps, Fn, hm, _, hb⟩ := (F _ inB (hid gl)).ex
    obtain rfl : fa = f := by rw [hx] at hm; cases hm; rfl
    have one := Fn.len _ _ _ _ (want T onlyT seq)
    have bd := hb s1 [.ref a] inK one
    rw [List.append_nil] at bd
    refine codeAny_mono (Fn.run callerA [] s1 T ⟨[.ref a], []⟩ [.ref a] [.ref a] _ _ room env0 bd (.cons rfl .nil) (want T onlyT seq)) ?_
    intro r s' hq
    match r, hq with
    | .error _, hq => exact False.elim hq
    | .ok .next, hq => exact False.elim hq
    | .ok .brk, hq => exact False.elim hq
    | .ok .cont, hq => exact False.elim hq
    | .ok (.ret u), hq =>
      obtain ⟨v, T', os, bare, un, hok', rv, ev⟩ := hq
      subst ev
      obtain rfl : u = Value.bool true := rv
      refine ⟨rfl, OldK.of_keep fun b o e => ?_, os, bare⟩
      cases q : T b with
      | none => exact un.keep b o e q (fun z => nomatch z) (fun z => nomatch z)
      | some t =>
        obtain ⟨_, ob, xs, rfl⟩ := only b t q
        have same := (hok b _ q).1
        rw [e] at same
        obtain rfl := Option.some.inj same
        exact (hok' b _ (un.frzs b _ _ q)).1
  have rv := vals_ints intsH
  by_cases hk : ∃ o, K.lookup a = some o
  · obtain ⟨o, hk⟩ := hk
    have e := inK a o hk
    rw [obj] at e
    obtain rfl := Option.some.inj e
    refine go (fun _ => none) (fun _ _ z => nomatch z) (.inr ⟨_, us.toArray, _, hk, rfl, rfl, rfl, ?_, by simpa using rv⟩) (fun _ _ z => nomatch z) (fun z => absurd rfl z)
    rw [List.size_toArray, intsH.length]
    exact short
  · have hk' : K.lookup a = none := by
      cases q : K.lookup a with
      | none => rfl
      | some o => exact absurd ⟨o, q⟩ hk
    refine go (upd (fun _ => none) a (.frz { cls := .type "list", data := .seq us.toArray } (.lst (ns.map V.int)))) (fun b u z => ?_) (.inl (.inr ⟨_, upd_same⟩)) (fun b u z => ?_) (fun _ => hk')
    · by_cases hb : b = a
      · subst hb
        rw [upd_same] at z
        obtain rfl := Option.some.inj z
        exact ⟨rfl, _, _, rfl⟩
      · rw [upd_ne hb] at z
        exact nomatch z
    · by_cases hb : b = a
      · subst hb
        rw [upd_same] at z
        obtain rfl := Option.some.inj z
        exact ⟨obj, by rw [List.length_map]; exact short, us, _, rv, obj⟩
      · rw [upd_ne hb] at z
        exact nomatch z
theorem walkG {l : PySem.W.OpenLaw} {k : Nat} {q : Program} {loose : List Str} {XP : (Str → Option Value) → Heap → Prop} {YP : World → Heap → Prop} {d : DefRec} {K : Params → PySem.W.Frag} {sp : PySem.W.Frag → Sp}
    (most : l.most = some 63) (hdf : d.params.defaults = []) (room : RoomG k callerA) (hY : ∀ (w : World) (h : Heap), YP w h → (K w.params).In h)
    (want : ∀ (K : PySem.W.Frag) (H : Hp) (a : Addr) (ns : List Int), ns.length ≤ 63 → SqL K H a (ns.map V.int) → sp K [.ref a] H (fun v _ => v = .bl true) fun _ _ _ => False)
    (F : ∀ (w : World) (mg : Str → Option Value) (h : Heap), (K w.params).In h → h.Ns mainGlobals mg → ∀ base : Heap, Cal l.prog w (K w.params) mg base k d.name (sp (K w.params))) :
    PySem.W.WalkO q loose XP YP l.row.toRowW d [] (fun f vs => PySem.call f vs) := by
  refine Att.attach_call most hdf fun w s0 s1 mg mb fa o pm cd doc a us ns gr y ho hd hcd hmg obj intsH hlen gens => ?_
  have inK := hY w _ y
  exact lawG inK gr.T.g gr.T.b gr.T.builtins gr.T.nolimit gens obj intsH (Nat.le_trans hlen (by decide)) room (fun base _ _ => F w mg _ inK gr.T.g base) hmg fun H _ hS => want _ H a ns hlen hS
end G0

namespace G0
open PySem PySem.Spec PyProof.Rows L2
/-- all but what stands at S is kept, and every tuple -/
structure Kp (S : List Addr) (H H' : Hp) : Prop where
  keep : ∀ b o, b ∉ S → H b = some o → H' b = some o
  tup : ∀ b xs, H b = some (.tup xs) → H' b = some (.tup xs)
  dom : ∀ b, H' b = none → H b = none
theorem Kp.refl (S : List Addr) (H : Hp) : Kp S H H := ⟨fun _ _ _ e => e, fun _ _ e => e, fun _ e => e⟩
theorem Kp.trans {S : List Addr} {H H1 H2 : Hp} (a : Kp S H H1) (b : Kp S H1 H2) : Kp S H H2 := ⟨fun c o n e => b.keep c o n (a.keep c o n e), fun c o e => b.tup c o (a.tup c o e), fun c e => a.dom c (b.dom c e)⟩
theorem Kp.mono {S S' : List Addr} {H H1 : Hp} (a : Kp S H H1) (h : ∀ b ∈ S, b ∈ S') : Kp S' H H1 := ⟨fun c o n e => a.keep c o (fun z => n (h c z)) e, a.tup, a.dom⟩
theorem Kp.same {H H1 : Hp} (a : Kp [] H H1) : Same H H1 := fun b o e => a.keep b o (fun z => nomatch z) e
theorem Kp.new {S : List Addr} {H : Hp} {p : Addr} {o : HO} (h : H p = none) : Kp S H (upd H p o) := by
  have k : ∀ b u, H b = some u → upd H p o b = some u := fun b u e => by rw [upd_ne (ne_of_none e h)]; exact e
  refine ⟨fun b u _ e => k b u e, fun b xs e => k b _ e, fun b e => ?_⟩
  by_cases hb : b = p
  · subst hb; exact h
  · rwa [upd_ne hb] at e
theorem Kp.put {H : Hp} {p : Addr} {o u : HO} (h : H p = some u) (nt : ∀ xs, u ≠ .tup xs := by intro _ z; cases z) : Kp [p] H (upd H p o) := by
  refine ⟨fun b v n e => ?_, fun b xs e => ?_, fun b e => ?_⟩
  · rw [upd_ne (fun z => n (by simp [z]))]; exact e
  · rw [upd_ne (fun z => by subst z; rw [h] at e; exact nt xs (Option.some.inj e))]; exact e
  · by_cases hb : b = p
    · subst hb; rw [upd_same] at e; cases e
    · rwa [upd_ne hb] at e
/-- what is new ahead of H0 may change -/
theorem Kp.putNew {S : List Addr} {H0 H : Hp} {p : Addr} {o : HO} (a : Kp S H0 H) (h0 : H0 p = none) (nt : ∀ xs, H p ≠ some (.tup xs)) : Kp S H0 (upd H p o) := by
  refine ⟨fun b v n e => ?_, fun b xs e => ?_, fun b e => ?_⟩
  · rw [upd_ne (ne_of_none e h0)]; exact a.keep b v n e
  · rw [upd_ne (ne_of_none e h0)]; exact a.tup b xs e
  · by_cases hb : b = p
    · subst hb; exact h0
    · rw [upd_ne hb] at e; exact a.dom b e
theorem Kp.newOf {S : List Addr} {H0 H1 H : Hp} {p : Addr} (a : Kp (p :: S) H H1) (k : Kp S H0 H) (h0 : H0 p = none) : Kp S H0 H1 :=
  ⟨fun b v n e => a.keep b v (fun z => (List.mem_cons.mp z).elim (fun q => by subst q; rw [h0] at e; cases e) n) (k.keep b v n e), fun b xs e => a.tup b xs (k.tup b xs e), fun b e => k.dom b (a.dom b e)⟩
theorem Kp.made {S : List Addr} {H : Hp} {x dx C : Addr} (nx : H x = none) (nd : H dx = none) : Kp S H (upd (upd H dx (.own x)) x (.ins C dx [])) := by
  by_cases e : x = dx
  · subst e; rw [upd_upd]; exact Kp.new nx
  · exact (Kp.new nd).trans (Kp.new (by rw [upd_ne e]; exact nx))
theorem Kp.at {S : List Addr} {H H1 : Hp} {b : Addr} {o : HO} (a : Kp S H H1) (e : H b = some o) (n : b ∉ S := by simp_all) : H1 b = some o := a.keep b o n e
theorem Kp.fresh {S : List Addr} {H H1 : Hp} {b c : Addr} {o : HO} (a : Kp S H H1) (e : H b = some o) (n : H1 c = none) : b ≠ c := ne_of_none e (a.dom c n)
theorem not1 {a p : Addr} (h : a ≠ p) : a ∉ [p] := fun z => h (by simpa using z)
section
variable {X : Cx} {j : Nat}
theorem call_int_i : CallR X (.type "int") (fun xs H Q => ∃ i, xs = [.int i] ∧ Q (.int i) H) := fun pins s σ H xs us Q I r h => call_int1 pins s σ H xs us Q I r (.inl h)
theorem call_int_b : CallR X (.type "int") (fun xs H Q => ∃ k, xs = [.bl k] ∧ Q (.int (if k then 1 else 0)) H) := fun pins s σ H xs us Q I r h => call_int1 pins s σ H xs us Q I r (.inr h)
/-- xs != [], xs == [] -/
theorem op_neNil (hr : RoomG j X.A) : OpR X (compareOp .NotEq) (fun x y H Q => ∃ a b xs, x = .ref a ∧ y = .ref b ∧ SqL X.K H a xs ∧ SqL X.K H b [] ∧ Q (.bl (!xs.isEmpty)) H) := by
  intro pins s σ H x y v u Q I rx ry h
  obtain ⟨a, b, xs, rfl, rfl, ha, hb, q⟩ := h
  obtain rfl : v = Value.ref a := rx
  obtain rfl : u = Value.ref b := ry
  obtain ⟨its, r1, p1, _⟩ := I.list ha
  obtain ⟨js, r2, p2, _⟩ := I.list hb
  cases r2
  have fin : ∀ k, k = (!xs.isEmpty) → EP X pins σ Q (.bool k) s := fun k e => ⟨.bl _, H, I, e ▸ rfl, q⟩
  cases xs with
  | nil =>
    cases r1
    exact SeqAt.RcNeAt.lists (e := fun _ => true) p1.isList p2.isList rfl hr.units0 (fun j h1 => absurd h1 (by simp)) X.prog X.w X.xe _ (fin _ (by simp))
  | cons z zs =>
    cases r1
    exact SeqAt.RcNeAt.lists_lengths p1.isList p2.isList (by simp) hr.units0 X.prog X.w X.xe _ (fin _ (by simp))
theorem op_eqNil (hr : RoomG j X.A) : OpR X (compareOp .Eq) (fun x y H Q => ∃ a b xs, x = .ref a ∧ y = .ref b ∧ SqL X.K H a xs ∧ SqL X.K H b [] ∧ Q (.bl xs.isEmpty) H) := by
  intro pins s σ H x y v u Q I rx ry h
  obtain ⟨a, b, xs, rfl, rfl, ha, hb, q⟩ := h
  obtain rfl : v = Value.ref a := rx
  obtain rfl : u = Value.ref b := ry
  obtain ⟨its, r1, p1, _⟩ := I.list ha
  obtain ⟨js, r2, p2, _⟩ := I.list hb
  cases r2
  have fin : ∀ k, k = xs.isEmpty → EP X pins σ Q (.bool k) s := fun k e => ⟨.bl _, H, I, e ▸ rfl, q⟩
  cases xs with
  | nil =>
    cases r1
    exact SeqAt.RcAt.lists (e := fun _ => true) p1.isList p2.isList rfl hr.units0 (fun j h1 => absurd h1 (by simp)) X.prog X.w X.xe _ (fin _ (by simp))
  | cons z zs =>
    cases r1
    exact SeqAt.RcAt.lists_lengths p1.isList p2.isList (by simp) hr.units0 X.prog X.w X.xe _ (fin _ (by simp))
end
theorem atI_ints {cs : List Int} {z : Int} (h0 : 0 ≤ z) (h1 : z < (cs.length : Int)) : ∃ v, atI (cs.map V.int) z = some (.int v) := by
  obtain ⟨j, rfl⟩ := Int.eq_ofNat_of_zero_le h0
  have hj : j < cs.length := by omega
  exact ⟨cs[j], atI_nat (by rw [List.getElem?_map, List.getElem?_eq_getElem hj]; rfl)⟩
theorem mod_lt' {a b : Int} (h : 0 < b) : 0 ≤ a % b ∧ a % b < b := ⟨Int.emod_nonneg _ (by omega), Int.emod_lt_of_pos _ h⟩
/-! ### where two ways meet again -/
def tCut (t u : TS) : TS := fun D σ H => ∃ Mid : L2.St → Hp → Prop, t { D with nx := Mid } σ H ∧ ∀ σ' H', Mid σ' H' → u D σ' H'
theorem pss_cut {X : Cx} {st : Stmt} {rest : List Stmt} {t u : TS} (h1 : PS X st t) (h2 : PSs X rest u) : PSs X (st :: rest) (tCut t u) := by
  refine ⟨fun pins s σ H D I h => ?_⟩
  obtain ⟨Mid, a, b⟩ := h
  refine wpAny_execs_cons (thn (h1.run pins s σ H { D with nx := Mid } I a) fun f s1 q => ?_)
  match f, q with
  | .next, q => obtain ⟨σ', H', I', q⟩ := q; exact h2.run pins s1 σ' H' D I' (b σ' H' q)
  | .ret v, q => exact q
  | .brk, q => exact q
  | .cont, q => exact q
end G0

namespace G0
open PySem PySem.Spec PyProof.Rows L2
/-! ### tuples of ints compared -/
theorem dpInts {K : PySem.W.Frag} {H : Hp} : ∀ ns : List Int, DpAll K H (ns.map V.int) (ns.map PyData.int)
  | [] => .nil
  | n :: ns => .cons (.int n) (dpInts ns)
theorem layInts : ∀ ns : List Int, PyData.canLayAll0 (ns.map PyData.int) = true
  | [] => rfl
  | n :: ns => by simp [PyData.canLayAll0, PyData.canLay0, layInts ns]
theorem depInts : ∀ ns : List Int, PyData.depthAll (ns.map PyData.int) = 0
  | [] => rfl
  | n :: ns => by simp [PyData.depthAll, PyData.depth, depInts ns]
theorem shapedTI (ns : List Int) : SeqAt.shaped (.tuple (ns.map PyData.int)) = true := by
  simp [SeqAt.shaped, PyData.canLay0, layInts, PyData.depth, depInts]
theorem eqvInts : ∀ ns ms : List Int, PyData.eqvAll (ns.map PyData.int) (ms.map PyData.int) = decide (ns = ms)
  | [], [] => by simp [PyData.eqvAll]
  | [], m :: ms => by simp [PyData.eqvAll]
  | n :: ns, [] => by simp [PyData.eqvAll]
  | n :: ns, m :: ms => by
    have ih := eqvInts ns ms
    simp only [List.map_cons, PyData.eqvAll, ih, PyData.eqv, List.cons.injEq]
    by_cases h : n = m <;> by_cases h2 : ns = ms <;> simp [h, h2]
section
variable {X : Cx} {j : Nat}
def rEqTI (K : PySem.W.Frag) : R2 := fun x y H Q => ∃ (t u : Addr) (ns ms : List Int), x = .ref t ∧ y = .ref u ∧ SqT K H t (ns.map V.int) ∧ SqT K H u (ms.map V.int) ∧ Q (.bl (decide (ns = ms))) H
def rNeTI (K : PySem.W.Frag) : R2 := fun x y H Q => ∃ (t u : Addr) (ns ms : List Int), x = .ref t ∧ y = .ref u ∧ SqT K H t (ns.map V.int) ∧ SqT K H u (ms.map V.int) ∧ Q (.bl (!decide (ns = ms))) H
theorem op_eqTI (hr : RoomG j X.A) : OpR X (compareOp .Eq) (rEqTI X.K) := by
  intro pins s σ H x y v u Q I rx ry h
  obtain ⟨t, t', ns, ms, rfl, rfl, h1, h2, q⟩ := h
  refine op_eqD hr.units pins s σ H _ _ v u Q I rx ry ⟨_, _, .tup h1 (dpInts ns), .tup h2 (dpInts ms), shapedTI ns, shapedTI ms, ?_⟩
  rw [PyData.eqv, eqvInts]
  exact q
theorem op_neTI (hr : RoomG j X.A) : OpR X (compareOp .NotEq) (rNeTI X.K) := by
  intro pins s σ H x y v u Q I rx ry h
  obtain ⟨t, t', ns, ms, rfl, rfl, h1, h2, q⟩ := h
  refine op_neD hr.units pins s σ H _ _ v u Q I rx ry ⟨_, _, .tup h1 (dpInts ns), .tup h2 (dpInts ms), shapedTI ns, shapedTI ms, ?_⟩
  rw [PyData.eqv, eqvInts]
  exact q
end
end G0

namespace K43
open PySem L2 G0
def top (i : Nat) : Stmt := PySem.Challenge.pw_splitplans_k43_choosers.main.body.getD i (.Pass ⟨0, 0, 0, 0⟩)
abbrev s_draw : Stmt := top 6
abbrev N_draw : List Str := ["_law_pen_here", "_law_many", "_law_digit", "_law_at", "_law_cell", "_law_great", "_law_low", "_law_high"]
theorem scDraw : FnScope N_draw ["_law_pen_here", "_law_many"] (defScope s_draw) := ⟨rfl, rfl, rfl, by decide +kernel, rfl, by decide +kernel, by decide +kernel⟩
structure Txt (mg : Str → Option Value) : Prop where
  n_int : mg "int" = none
  n_len : mg "len" = none
  n_abs : mg "abs" = none
  n_list : mg "list" = none
  n_range : mg "range" = none
  n_sorted : mg "sorted" = none
  n_set : mg "set" = none
  n_repr : mg "repr" = none
abbrev s_pen : Stmt := top 5
abbrev s_number : Stmt := top 9
abbrev s_moves : Stmt := top 8
abbrev s_law : Stmt := top 10
abbrev s_First_call : Stmt := inClass (top 1) 0
abbrev s_Last_call : Stmt := inClass (top 2) 0
abbrev s_Drawn_init : Stmt := inClass (top 3) 0
abbrev s_Drawn_call : Stmt := inClass (top 3) 1
abbrev N_law_moves : List Str := ["_law_pen_here", "_law_found", "_law_turn"]
abbrev s_law_moves : Stmt := top 8
theorem scPen : FnScope ["_law_script"] ["_law_script"] (defScope s_pen) := ⟨rfl, rfl, rfl, by decide +kernel, rfl, by decide +kernel, by decide +kernel⟩
theorem scNumber : FnScope ["_law_pen_here", "_law_way", "_law_small"] ["_law_pen_here"] (defScope s_number) := ⟨rfl, rfl, rfl, by decide +kernel, rfl, by decide +kernel, by decide +kernel⟩
theorem scMoves : FnScope N_law_moves ["_law_pen_here"] (defScope s_moves) := ⟨rfl, rfl, rfl, by decide +kernel, rfl, by decide +kernel, by decide +kernel⟩
theorem scFirst : FnScope ["self", "moves"] ["self", "moves"] (defScope s_First_call) := ⟨rfl, rfl, rfl, by decide +kernel, rfl, by decide +kernel, by decide +kernel⟩
theorem scLast : FnScope ["self", "moves"] ["self", "moves"] (defScope s_Last_call) := ⟨rfl, rfl, rfl, by decide +kernel, rfl, by decide +kernel, by decide +kernel⟩
theorem scInit : FnScope ["self", "numbers"] ["self", "numbers"] (defScope s_Drawn_init) := ⟨rfl, rfl, rfl, by decide +kernel, rfl, by decide +kernel, by decide +kernel⟩
theorem scCall : FnScope ["self", "moves", "number"] ["self", "moves"] (defScope s_Drawn_call) := ⟨rfl, rfl, rfl, by decide +kernel, rfl, by decide +kernel, by decide +kernel⟩
def Pen (H : Hp) (p c : Addr) (n : Int) : Prop := ∃ (cs : List Int) (i r : Int), H p = some (.lst [.ref c, .int i, .int r]) ∧ H c = some (.lst (cs.map V.int)) ∧ 0 ≤ i ∧ i ≤ n ∧ 0 ≤ r
def spDraw : Sp := fun vs H Q _ => ∃ (p c : Addr) (m n : Int), vs = [.ref p, .int m] ∧ Pen H p c n ∧ 0 < m ∧ m < 536870912 ∧ n ≤ 100000 ∧
  ∀ d H', 0 ≤ d → d < m → Kp [p] H H' → Pen H' p c (n + 1) → Q (.int d) H'
def spPen (K : PySem.W.Frag) : Sp := fun vs H Q _ => ∃ (a : Addr) (ns : List Int), vs = [.ref a] ∧ SqL K H a (ns.map V.int) ∧ ns.length ≤ 63 ∧ ∀ p c H', H p = none → Kp [] H H' → Pen H' p c 0 → Q (.ref p) H'
def spNumber : Sp := fun vs H Q _ => ∃ (p c : Addr) (n : Int), vs = [.ref p] ∧ Pen H p c n ∧ n ≤ 50000 ∧ ∀ v H', Kp [p] H H' → Pen H' p c (n + 2) → Q (.int v) H'
theorem low_pow {l i : Int} (l0 : 0 ≤ l) (l1 : l < 2147483629) (i0 : 0 ≤ i) (i1 : i ≤ 100000) : CPow (l * (i + 11) + 90023 * i * i + 3) 3 := by
  have a1 : l * (i + 11) ≤ 2147483629 * 100011 := Int.mul_le_mul (by omega) (by omega) (by omega) (by omega)
  have a0 : 0 ≤ l * (i + 11) := Int.mul_nonneg l0 (by omega)
  have b1 : 90023 * i * i ≤ 9002300000 * 100000 := Int.mul_le_mul (by omega) i1 i0 (by omega)
  have b0 : 0 ≤ 90023 * i * i := Int.mul_nonneg (by omega) i0
  exact ⟨by omega, by omega, by omega⟩
section
variable {P : Program} {w : World} {K : PySem.W.Frag} {mg : Str → Option Value} {base : Heap}
theorem cDraw (D : Dfn K mg "_law_draw" s_draw) (T : Txt mg) : Cal P w K mg base 1 "_law_draw" spDraw := by
  refine cal D scDraw (fun _ _ _ _ _ _ us hl => match us, hl with | [_, _], _ => rfl) (fun vs H Q E h => ?_) (fun f cdv A outer s H vs Q E hr h => ?_)
  · obtain ⟨p, c, m, n, rfl, _⟩ := h; rfl
  · obtain ⟨p, c, m, n, rfl, ⟨cs, i, r, hp, hc, i0, i1, r0⟩, m0, m1, hn, k⟩ := h
    refine ⟨_, (pss_cons (ps_if (pt_cmpR op_gt (pe_ix ix_list (pv 0) pe_int (fun _ _ => rfl)) pe_int (nomark _)) (pss_cons (ps_set (i := 2) scDraw.nd rfl (Or.inl rfl) (pe_op op_mod (pe_callTy call_int_i (by rfl) T.n_int (by decide +kernel) (pa_cons (pe_ix ix_list (pv 0) pe_int (fun _ _ => rfl)) pa_nil)) (pv 1)))
      (pss_cons (ps_asg (pe_op op_fdiv (pe_callTy call_int_i (by rfl) T.n_int (by decide +kernel) (pa_cons (pe_ix ix_list (pv 0) pe_int (fun _ _ => rfl)) pa_nil)) (pv 1)) (pg_sub (pv 0) pe_int set_list))
      (pss_one (ps_ret (pv 2))))) pss_nil)
      (pss_cons (ps_set (i := 3) scDraw.nd rfl (Or.inl rfl) (pe_ix ix_list (pv 0) pe_int (fun _ _ => rfl)))
      (pss_cons (ps_asg (pe_op op_add (pv 3) pe_int) (pg_sub (pv 0) pe_int set_list))
      (pss_cons (ps_set (i := 4) scDraw.nd rfl (Or.inl rfl) (pe_op op_add (pe_op op_add (pe_op op_mul (pe_op op_mul pe_int (pv 3)) (pv 3)) (pe_op op_mul pe_int (pv 3))) pe_int))
      (pss_cut (ps_if (pt_cmpR (op_neNil hr) (pe_ix ix_list (pv 0) pe_int (fun _ _ => rfl)) (pe_lst pa_nil) (nomark _)) (pss_one (ps_set (i := 4) scDraw.nd rfl (Or.inl rfl) (pe_ix ix_list (pe_ix ix_list (pv 0) pe_int (fun _ _ => rfl)) (pe_op op_mod (pe_callTy call_int_i (by rfl) T.n_int (by decide +kernel) (pa_cons (pv 3) pa_nil)) (pe_callB call_len_seq (by rfl) T.n_len (by decide +kernel) (pa_cons (pe_ix ix_list (pv 0) pe_int (fun _ _ => rfl)) pa_nil))) (fun _ _ => rfl)))) pss_nil)
      (pss_cut (ps_if (PW.pt (pw_and (pt_cmpR op_lt (pv 3) (pe_callB call_len_seq (by rfl) T.n_len (by decide +kernel) (pa_cons (pe_ix ix_list (pv 0) pe_int (fun _ _ => rfl)) pa_nil)) (nomark _)) (pw_and1 (pt_cmpR op_ge (pe_callB call_abs (by rfl) T.n_abs (by decide +kernel) (pa_cons (pv 4) pa_nil)) (pe_op op_pow pe_int pe_int) (nomark _))))) (pss_cons (ps_set (i := 5) scDraw.nd rfl (Or.inl rfl) (pe_op op_add (pe_op op_mul pe_int (pe_callB call_abs (by rfl) T.n_abs (by decide +kernel) (pa_cons (pv 4) pa_nil))) (pe_callTy call_int_b (by rfl) T.n_int (by decide +kernel) (pa_cons (pe_cmpR op_lt (pv 4) pe_int (nomark _)) pa_nil))))
      (pss_cons (ps_asg (pe_op op_fdiv (pe_callTy call_int_i (by rfl) T.n_int (by decide +kernel) (pa_cons (pv 5) pa_nil)) (pv 1)) (pg_sub (pv 0) pe_int set_list))
      (pss_one (ps_ret (pe_op op_mod (pe_callTy call_int_i (by rfl) T.n_int (by decide +kernel) (pa_cons (pv 5) pa_nil)) (pv 1)))))) pss_nil)
      (pss_cons (ps_set (i := 6) scDraw.nd rfl (Or.inl rfl) (pe_op op_mod (pe_op op_pow (pe_callTy call_int_i (by rfl) T.n_int (by decide +kernel) (pa_cons (pe_op op_add (pe_op op_add (pe_op op_mod (pe_callTy call_int_i (by rfl) T.n_int (by decide +kernel) (pa_cons (pv 4) pa_nil)) pe_int) (pe_op op_mul pe_int (pv 3))) pe_int) pa_nil)) pe_int) pe_int))
      (pss_cons (ps_set (i := 7) scDraw.nd rfl (Or.inl rfl) (pe_op op_mod (pe_op op_pow (pe_callTy call_int_i (by rfl) T.n_int (by decide +kernel) (pa_cons (pe_op op_add (pe_op op_add (pe_op op_mul (pv 6) (pe_op op_add (pv 3) pe_int)) (pe_op op_mul (pe_op op_mul pe_int (pv 3)) (pv 3))) pe_int) pa_nil)) pe_int) pe_int))
      (pss_one (ps_ret (pe_op op_mod (pe_callTy call_int_i (by rfl) T.n_int (by decide +kernel) (pa_cons (pe_op op_fdiv (pe_op op_mod (pe_callTy call_int_i (by rfl) T.n_int (by decide +kernel) (pa_cons (pe_op op_add (pv 7) (pe_op op_mul (pe_op op_mod (pe_callTy call_int_i (by rfl) T.n_int (by decide +kernel) (pa_cons (pv 6) pa_nil)) pe_int) pe_int)) pa_nil)) pe_int) pe_int) pa_nil)) (pv 1)))))))))))), ?_⟩
    show (_ : TS) _ [some (V.ref p), some (V.int m), none, none, none, none, none, none] H
    have hpc : p ≠ c := fun z => by subst z; rw [hp] at hc; cases cs <;> simp at hc
    (repeat (first | (refine ⟨_, rfl, ?_⟩) | (refine ⟨_, _, rfl, rfl, ?_⟩) | (refine ⟨_, _, _, _, rfl, rfl, SqL.of (by assumption), (by rfl), ?_⟩) | (refine ⟨_, _, _, _, rfl, rfl, (by assumption), (by rfl), ?_⟩) | (refine ⟨_, _, _, _, rfl, rfl, SqL.of (by assumption), (by assumption), ?_⟩) | (refine ⟨_, _, rfl, .inl (SqL.of (by assumption)), ?_⟩) | (refine ⟨_, _, _, _, _, rfl, (by assumption), (by assumption), (by assumption), (by rfl), ?_⟩) | (refine ⟨_, _, _, _, rfl, (by assumption), (by assumption), (by assumption), (by decide), ?_⟩) | (refine And.intro (by first | assumption | rfl | (show (0:Int) < _; omega) | (show CDiv _ _; exact ⟨by omega, by omega⟩) | (show CMul _ _; first | exact .inl ⟨by omega, by omega⟩ | exact .inr ⟨by omega, by omega⟩) | (show CPow _ _; exact ⟨by omega, by omega, by omega⟩) | (show (_ : Nat) ≤ sizeLine; exact Nat.le_of_ble_eq_true rfl)) ?_) ))
    refine ite2 (fun h => ?_) (fun h => ?_)
    · (repeat (first | (refine ⟨_, rfl, ?_⟩) | (refine ⟨_, _, rfl, rfl, ?_⟩) | (refine ⟨_, _, _, _, rfl, rfl, SqL.of (by assumption), (by rfl), ?_⟩) | (refine ⟨_, _, _, _, rfl, rfl, (by assumption), (by rfl), ?_⟩) | (refine ⟨_, _, _, _, rfl, rfl, SqL.of (by assumption), (by assumption), ?_⟩) | (refine ⟨_, _, rfl, .inl (SqL.of (by assumption)), ?_⟩) | (refine ⟨_, _, _, _, _, rfl, (by assumption), (by assumption), (by assumption), (by rfl), ?_⟩) | (refine ⟨_, _, _, _, rfl, (by assumption), (by assumption), (by assumption), (by decide), ?_⟩) | (refine And.intro (by first | assumption | rfl | (show (0:Int) < _; omega) | (show CDiv _ _; exact ⟨by omega, by omega⟩) | (show CMul _ _; first | exact .inl ⟨by omega, by omega⟩ | exact .inr ⟨by omega, by omega⟩) | (show CPow _ _; exact ⟨by omega, by omega, by omega⟩) | (show (_ : Nat) ≤ sizeLine; exact Nat.le_of_ble_eq_true rfl)) ?_) ))
      have h0 : (0 : Int) < r := of_decide_eq_true h
      refine k _ _ (Int.emod_nonneg _ (by omega)) (Int.emod_lt_of_pos _ m0) (Kp.put hp) ⟨cs, i, r / m, upd_same, by rw [upd_ne hpc.symm]; exact hc, i0, by omega, Int.ediv_nonneg r0 (by omega)⟩
    · have h0 : ¬ (0 : Int) < r := fun z => h (decide_eq_true z)
      (repeat (first | (refine ⟨_, rfl, ?_⟩) | (refine ⟨_, _, rfl, rfl, ?_⟩) | (refine ⟨_, _, _, _, rfl, rfl, SqL.of (by assumption), (by rfl), ?_⟩) | (refine ⟨_, _, _, _, rfl, rfl, (by assumption), (by rfl), ?_⟩) | (refine ⟨_, _, _, _, rfl, rfl, SqL.of (by assumption), (by assumption), ?_⟩) | (refine ⟨_, _, rfl, .inl (SqL.of (by assumption)), ?_⟩) | (refine ⟨_, _, _, _, _, rfl, (by assumption), (by assumption), (by assumption), (by rfl), ?_⟩) | (refine ⟨_, _, _, _, rfl, (by assumption), (by assumption), (by assumption), (by decide), ?_⟩) | (refine And.intro (by first | assumption | rfl | (show (0:Int) < _; omega) | (show CDiv _ _; exact ⟨by omega, by omega⟩) | (show CMul _ _; first | exact .inl ⟨by omega, by omega⟩ | exact .inr ⟨by omega, by omega⟩) | (show CPow _ _; exact ⟨by omega, by omega, by omega⟩) | (show (_ : Nat) ≤ sizeLine; exact Nat.le_of_ble_eq_true rfl)) ?_) ))
      generalize eH : upd H p _ = H1
      have hp1 : H1 p = some (.lst [.ref c, .int (i + 1), .int r]) := by rw [← eH]; exact upd_same
      have hc1 : H1 c = some (.lst (cs.map V.int)) := by rw [← eH, upd_ne hpc.symm]; exact hc
      have kp1 : Kp [p] H H1 := by rw [← eH]; exact Kp.put hp
      clear eH
      (repeat (first | (refine ⟨_, rfl, ?_⟩) | (refine ⟨_, _, rfl, rfl, ?_⟩) | (refine ⟨_, _, _, _, rfl, rfl, SqL.of (by assumption), (by rfl), ?_⟩) | (refine ⟨_, _, _, _, rfl, rfl, (by assumption), (by rfl), ?_⟩) | (refine ⟨_, _, _, _, rfl, rfl, SqL.of (by assumption), (by assumption), ?_⟩) | (refine ⟨_, _, rfl, .inl (SqL.of (by assumption)), ?_⟩) | (refine ⟨_, _, _, _, _, rfl, (by assumption), (by assumption), (by assumption), (by rfl), ?_⟩) | (refine ⟨_, _, _, _, rfl, (by assumption), (by assumption), (by assumption), (by decide), ?_⟩) | (refine And.intro (by first | assumption | rfl | (show (0:Int) < _; omega) | (show CDiv _ _; exact ⟨by omega, by omega⟩) | (show CMul _ _; first | exact .inl ⟨by omega, by omega⟩ | exact .inr ⟨by omega, by omega⟩) | (show CPow _ _; exact ⟨by omega, by omega, by omega⟩) | (show (_ : Nat) ≤ sizeLine; exact Nat.le_of_ble_eq_true rfl)) ?_) ))
      refine ⟨fun σ' H' => ∃ z : Int, σ' = [some (V.ref p), some (V.int m), none, some (V.int i), some (V.int z), none, none, none] ∧ H' p = some (.lst [.ref c, .int (i + 1), .int r]) ∧ H' c = some (.lst (cs.map V.int)) ∧ Kp [p] H H', ?_, ?_⟩
      · (repeat (first | (refine ⟨_, rfl, ?_⟩) | (refine ⟨_, _, rfl, rfl, ?_⟩) | (refine ⟨_, _, _, _, rfl, rfl, SqL.of (by assumption), (by rfl), ?_⟩) | (refine ⟨_, _, _, _, rfl, rfl, (by assumption), (by rfl), ?_⟩) | (refine ⟨_, _, _, _, rfl, rfl, SqL.of (by assumption), (by assumption), ?_⟩) | (refine ⟨_, _, rfl, .inl (SqL.of (by assumption)), ?_⟩) | (refine ⟨_, _, _, _, _, rfl, (by assumption), (by assumption), (by assumption), (by rfl), ?_⟩) | (refine ⟨_, _, _, _, rfl, (by assumption), (by assumption), (by assumption), (by decide), ?_⟩) | (refine And.intro (by first | assumption | rfl | (show (0:Int) < _; omega) | (show CDiv _ _; exact ⟨by omega, by omega⟩) | (show CMul _ _; first | exact .inl ⟨by omega, by omega⟩ | exact .inr ⟨by omega, by omega⟩) | (show CPow _ _; exact ⟨by omega, by omega, by omega⟩) | (show (_ : Nat) ≤ sizeLine; exact Nat.le_of_ble_eq_true rfl)) ?_) ))
        (intro e he; generalize eH : upd H1 e _ = H2; have k12 : Kp [] H1 H2 := eH ▸ Kp.new he; replace he := (congrFun eH.symm e).trans upd_same; clear eH; replace hp1 := k12.same _ _ hp1; replace hc1 := k12.same _ _ hc1; replace kp1 := kp1.trans (k12.mono (fun _ z => nomatch z)); clear k12)
        refine ⟨_, _, _, rfl, rfl, SqL.of hc1, SqL.of he, _, rfl, ?_⟩
        refine ite2 (fun g => ?_) (fun g => ?_)
        · have ne : cs ≠ [] := fun z => by subst z; simp at g
          have pos : 0 < (cs.map V.int).length := by rw [List.length_map]; exact List.length_pos_iff.mpr ne
          have pos' : (0 : Int) < ((cs.map V.int).length : Nat) := by omega
          (repeat (first | (refine ⟨_, rfl, ?_⟩) | (refine ⟨_, _, rfl, rfl, ?_⟩) | (refine ⟨_, _, _, _, rfl, rfl, SqL.of (by assumption), (by rfl), ?_⟩) | (refine ⟨_, _, _, _, rfl, rfl, (by assumption), (by rfl), ?_⟩) | (refine ⟨_, _, _, _, rfl, rfl, SqL.of (by assumption), (by assumption), ?_⟩) | (refine ⟨_, _, rfl, .inl (SqL.of (by assumption)), ?_⟩) | (refine ⟨_, _, _, _, _, rfl, (by assumption), (by assumption), (by assumption), (by rfl), ?_⟩) | (refine ⟨_, _, _, _, rfl, (by assumption), (by assumption), (by assumption), (by decide), ?_⟩) | (refine And.intro (by first | assumption | rfl | (show (0:Int) < _; omega) | (show CDiv _ _; exact ⟨by omega, by omega⟩) | (show CMul _ _; first | exact .inl ⟨by omega, by omega⟩ | exact .inr ⟨by omega, by omega⟩) | (show CPow _ _; exact ⟨by omega, by omega, by omega⟩) | (show (_ : Nat) ≤ sizeLine; exact Nat.le_of_ble_eq_true rfl)) ?_) ))
          obtain ⟨v, hv⟩ := atI_ints (cs := cs) (z := i % ((cs.map V.int).length : Nat)) (Int.emod_nonneg _ (by omega)) (by have := Int.emod_lt_of_pos i pos'; simpa using this)
          exact ⟨_, _, _, _, rfl, rfl, SqL.of hc1, hv, _, rfl, hp1, hc1, kp1⟩
        · exact ⟨_, rfl, hp1, hc1, kp1⟩
      · rintro _ H2 ⟨z, rfl, hp2, hc2, kp2⟩
        refine ⟨fun σ' H' => σ' = [some (V.ref p), some (V.int m), none, some (V.int i), some (V.int z), none, none, none] ∧ H' = H2, ?_, ?_⟩
        · (repeat (first | (refine ⟨_, rfl, ?_⟩) | (refine ⟨_, _, rfl, rfl, ?_⟩) | (refine ⟨_, _, _, _, rfl, rfl, SqL.of (by assumption), (by rfl), ?_⟩) | (refine ⟨_, _, _, _, rfl, rfl, (by assumption), (by rfl), ?_⟩) | (refine ⟨_, _, _, _, rfl, rfl, SqL.of (by assumption), (by assumption), ?_⟩) | (refine ⟨_, _, rfl, .inl (SqL.of (by assumption)), ?_⟩) | (refine ⟨_, _, _, _, _, rfl, (by assumption), (by assumption), (by assumption), (by rfl), ?_⟩) | (refine ⟨_, _, _, _, rfl, (by assumption), (by assumption), (by assumption), (by decide), ?_⟩) | (refine And.intro (by first | assumption | rfl | (show (0:Int) < _; omega) | (show CDiv _ _; exact ⟨by omega, by omega⟩) | (show CMul _ _; first | exact .inl ⟨by omega, by omega⟩ | exact .inr ⟨by omega, by omega⟩) | (show CPow _ _; exact ⟨by omega, by omega, by omega⟩) | (show (_ : Nat) ≤ sizeLine; exact Nat.le_of_ble_eq_true rfl)) ?_) ))
          refine ite2 (fun g => ?_) (fun g => iteF ⟨rfl, rfl⟩)
          (repeat (first | (refine ⟨_, rfl, ?_⟩) | (refine ⟨_, _, rfl, rfl, ?_⟩) | (refine ⟨_, _, _, _, rfl, rfl, SqL.of (by assumption), (by rfl), ?_⟩) | (refine ⟨_, _, _, _, rfl, rfl, (by assumption), (by rfl), ?_⟩) | (refine ⟨_, _, _, _, rfl, rfl, SqL.of (by assumption), (by assumption), ?_⟩) | (refine ⟨_, _, rfl, .inl (SqL.of (by assumption)), ?_⟩) | (refine ⟨_, _, _, _, _, rfl, (by assumption), (by assumption), (by assumption), (by rfl), ?_⟩) | (refine ⟨_, _, _, _, rfl, (by assumption), (by assumption), (by assumption), (by decide), ?_⟩) | (refine And.intro (by first | assumption | rfl | (show (0:Int) < _; omega) | (show CDiv _ _; exact ⟨by omega, by omega⟩) | (show CMul _ _; first | exact .inl ⟨by omega, by omega⟩ | exact .inr ⟨by omega, by omega⟩) | (show CPow _ _; exact ⟨by omega, by omega, by omega⟩) | (show (_ : Nat) ≤ sizeLine; exact Nat.le_of_ble_eq_true rfl)) ?_) ))
          refine ite2 (fun g2 => ?_) (fun g2 => ⟨rfl, rfl⟩)
          (repeat (first | (refine ⟨_, rfl, ?_⟩) | (refine ⟨_, _, rfl, rfl, ?_⟩) | (refine ⟨_, _, _, _, rfl, rfl, SqL.of (by assumption), (by rfl), ?_⟩) | (refine ⟨_, _, _, _, rfl, rfl, (by assumption), (by rfl), ?_⟩) | (refine ⟨_, _, _, _, rfl, rfl, SqL.of (by assumption), (by assumption), ?_⟩) | (refine ⟨_, _, rfl, .inl (SqL.of (by assumption)), ?_⟩) | (refine ⟨_, _, _, _, _, rfl, (by assumption), (by assumption), (by assumption), (by rfl), ?_⟩) | (refine ⟨_, _, _, _, rfl, (by assumption), (by assumption), (by assumption), (by decide), ?_⟩) | (refine And.intro (by first | assumption | rfl | (show (0:Int) < _; omega) | (show CDiv _ _; exact ⟨by omega, by omega⟩) | (show CMul _ _; first | exact .inl ⟨by omega, by omega⟩ | exact .inr ⟨by omega, by omega⟩) | (show CPow _ _; exact ⟨by omega, by omega, by omega⟩) | (show (_ : Nat) ≤ sizeLine; exact Nat.le_of_ble_eq_true rfl)) ?_) ))
          have h2 : 0 ≤ (2 * if z < 0 then -z else z) + if decide (z < 0) = true then 1 else 0 := by split <;> split <;> omega
          refine k _ _ (mod_lt' m0).1 (mod_lt' m0).2 (kp2.trans (Kp.put hp2)) ⟨cs, i + 1, _, upd_same, by rw [upd_ne hpc.symm]; exact hc2, by omega, by omega, Int.ediv_nonneg h2 (by omega)⟩
        · rintro _ H3 ⟨rfl, rfl⟩
          have lb := mod_lt' (a := (z % 2147483423 + 60103 * i + 239) ^ Int.toNat 5) (b := 2147483629) (by decide)
          (repeat (first | (refine ⟨_, rfl, ?_⟩) | (refine ⟨_, _, rfl, rfl, ?_⟩) | (refine ⟨_, _, _, _, rfl, rfl, SqL.of (by assumption), (by rfl), ?_⟩) | (refine ⟨_, _, _, _, rfl, rfl, (by assumption), (by rfl), ?_⟩) | (refine ⟨_, _, _, _, rfl, rfl, SqL.of (by assumption), (by assumption), ?_⟩) | (refine ⟨_, _, rfl, .inl (SqL.of (by assumption)), ?_⟩) | (refine ⟨_, _, _, _, _, rfl, (by assumption), (by assumption), (by assumption), (by rfl), ?_⟩) | (refine ⟨_, _, _, _, rfl, (by assumption), (by assumption), (by assumption), (by decide), ?_⟩) | (refine And.intro (by first | assumption | rfl | (show (0:Int) < _; omega) | (show CDiv _ _; exact ⟨by omega, by omega⟩) | (show CMul _ _; first | exact .inl ⟨by omega, by omega⟩ | exact .inr ⟨by omega, by omega⟩) | (show CPow _ _; exact ⟨by omega, by omega, by omega⟩) | (show (_ : Nat) ≤ sizeLine; exact Nat.le_of_ble_eq_true rfl)) ?_) ))
          refine And.intro (low_pow lb.1 lb.2 i0 (by omega)) ?_
          (repeat (first | (refine ⟨_, rfl, ?_⟩) | (refine ⟨_, _, rfl, rfl, ?_⟩) | (refine ⟨_, _, _, _, rfl, rfl, SqL.of (by assumption), (by rfl), ?_⟩) | (refine ⟨_, _, _, _, rfl, rfl, (by assumption), (by rfl), ?_⟩) | (refine ⟨_, _, _, _, rfl, rfl, SqL.of (by assumption), (by assumption), ?_⟩) | (refine ⟨_, _, rfl, .inl (SqL.of (by assumption)), ?_⟩) | (refine ⟨_, _, _, _, _, rfl, (by assumption), (by assumption), (by assumption), (by rfl), ?_⟩) | (refine ⟨_, _, _, _, rfl, (by assumption), (by assumption), (by assumption), (by decide), ?_⟩) | (refine And.intro (by first | assumption | rfl | (show (0:Int) < _; omega) | (show CDiv _ _; exact ⟨by omega, by omega⟩) | (show CMul _ _; first | exact .inl ⟨by omega, by omega⟩ | exact .inr ⟨by omega, by omega⟩) | (show CPow _ _; exact ⟨by omega, by omega, by omega⟩) | (show (_ : Nat) ≤ sizeLine; exact Nat.le_of_ble_eq_true rfl)) ?_) ))
          exact k _ _ (mod_lt' m0).1 (mod_lt' m0).2 kp2 ⟨cs, i + 1, r, hp2, hc2, by omega, by omega, r0⟩
theorem cPen (D : Dfn K mg "_law_pen" s_pen) (T : Txt mg) : Cal P w K mg base 1 "_law_pen" (spPen K) := by
  refine cal D scPen (fun _ _ _ _ _ _ us hl => match us, hl with | [_], _ => rfl) (fun vs H Q E h => ?_) (fun f cdv A outer s H vs Q E hr h => ?_)
  · obtain ⟨p, ns, rfl, _⟩ := h; rfl
  · obtain ⟨a, ns, rfl, ha, hl, k⟩ := h
    refine ⟨_, (pss_one (ps_ret (pe_lst (pa_cons (pe_callTy call_list_of (by rfl) T.n_list (by decide +kernel) (pa_cons (pe_slice sl_list (pv 0) po_none (po_some pe_int)) pa_nil)) (pa_cons pe_int (pa_cons pe_int pa_nil)))))), ?_⟩
    show (_ : TS) _ [some (V.ref a)] H
    have kp : Kp [] H H := Kp.refl _ _
    refine ⟨_, rfl, _, rfl, _, _, rfl, ha, ?_⟩
    (intro b hb; generalize eH : upd H b _ = H1; have k12 : Kp [] H H1 := eH ▸ Kp.new hb; replace hb := (congrFun eH.symm b).trans upd_same; clear eH; replace kp := kp.trans (k12.mono (fun _ z => nomatch z)); clear k12)
    obtain ⟨ms, em⟩ : ∃ ms : List Int, cutV (ns.map V.int) none (some 63) = ms.map V.int := by
      unfold cutV
      rw [← List.map_drop, ← List.map_take]
      exact ⟨_, rfl⟩
    rw [em] at hb
    (repeat (first | (refine ⟨_, rfl, ?_⟩) | (refine ⟨_, _, rfl, rfl, ?_⟩) | (refine ⟨_, _, _, _, rfl, rfl, SqL.of (by assumption), (by rfl), ?_⟩) | (refine ⟨_, _, _, _, rfl, rfl, (by assumption), (by rfl), ?_⟩) | (refine ⟨_, _, _, _, rfl, rfl, SqL.of (by assumption), (by assumption), ?_⟩) | (refine ⟨_, _, rfl, .inl (SqL.of (by assumption)), ?_⟩) | (refine ⟨_, _, _, _, _, rfl, (by assumption), (by assumption), (by assumption), (by rfl), ?_⟩) | (refine ⟨_, _, _, _, rfl, (by assumption), (by assumption), (by assumption), (by decide), ?_⟩) | (refine And.intro (by first | assumption | rfl | (show (0:Int) < _; omega) | (show CDiv _ _; exact ⟨by omega, by omega⟩) | (show CMul _ _; first | exact .inl ⟨by omega, by omega⟩ | exact .inr ⟨by omega, by omega⟩) | (show CPow _ _; exact ⟨by omega, by omega, by omega⟩) | (show (_ : Nat) ≤ sizeLine; exact Nat.le_of_ble_eq_true rfl)) ?_) ))
    (intro c hc; generalize eH : upd H1 c _ = H2; have k12 : Kp [] H1 H2 := eH ▸ Kp.new hc; replace hc := (congrFun eH.symm c).trans upd_same; clear eH; replace hb := k12.same _ _ hb; replace kp := kp.trans (k12.mono (fun _ z => nomatch z)); clear k12)
    (repeat (first | (refine ⟨_, rfl, ?_⟩) | (refine ⟨_, _, rfl, rfl, ?_⟩) | (refine ⟨_, _, _, _, rfl, rfl, SqL.of (by assumption), (by rfl), ?_⟩) | (refine ⟨_, _, _, _, rfl, rfl, (by assumption), (by rfl), ?_⟩) | (refine ⟨_, _, _, _, rfl, rfl, SqL.of (by assumption), (by assumption), ?_⟩) | (refine ⟨_, _, rfl, .inl (SqL.of (by assumption)), ?_⟩) | (refine ⟨_, _, _, _, _, rfl, (by assumption), (by assumption), (by assumption), (by rfl), ?_⟩) | (refine ⟨_, _, _, _, rfl, (by assumption), (by assumption), (by assumption), (by decide), ?_⟩) | (refine And.intro (by first | assumption | rfl | (show (0:Int) < _; omega) | (show CDiv _ _; exact ⟨by omega, by omega⟩) | (show CMul _ _; first | exact .inl ⟨by omega, by omega⟩ | exact .inr ⟨by omega, by omega⟩) | (show CPow _ _; exact ⟨by omega, by omega, by omega⟩) | (show (_ : Nat) ≤ sizeLine; exact Nat.le_of_ble_eq_true rfl)) ?_) ))
    intro p hp
    exact k p c _ (kp.dom p hp) ((kp.trans (Kp.new hp))) ⟨ms, 0, 0, upd_same, by rw [upd_ne (ne_of_none hc hp)]; exact hc, by omega, by omega, by omega⟩
theorem cNumber (D : Dfn K mg "_law_number" s_number) (T : Txt mg) (cDraw : Cal P w K mg base 1 "_law_draw" spDraw) : Cal P w K mg base 2 "_law_number" spNumber := by
  refine cal D scNumber (fun _ _ _ _ _ _ us hl => match us, hl with | [_], _ => rfl) (fun vs H Q E h => ?_) (fun f cdv A outer s H vs Q E hr h => ?_)
  · obtain ⟨p, c, n, rfl, _⟩ := h; rfl
  · obtain ⟨p, c, n, rfl, pen, hn, k⟩ := h
    refine ⟨_, (pss_cons (ps_set (i := 1) scNumber.nd rfl (Or.inl rfl) (pe_c cDraw hr (by decide) (by rfl) (pa_cons (pv 0) (pa_cons pe_int pa_nil))))
      (pss_cons (ps_set (i := 2) scNumber.nd rfl (Or.inl rfl) (pe_c cDraw hr (by decide) (by rfl) (pa_cons (pv 0) (pa_cons pe_int pa_nil))))
      (pss_one (ps_ret (pe_ix ix_list (pe_lst (pa_cons pe_int (pa_cons pe_int (pa_cons (pv 2) (pa_cons (pe_op op_sub (pe_op op_sub pe_int pe_int) (pv 2)) (pa_cons (pe_op op_add (pe_op op_pow pe_int pe_int) (pe_op op_mul pe_int (pv 2))) (pa_cons (pe_op op_sub (pe_op op_sub pe_int (pe_op op_pow pe_int pe_int)) (pv 2)) pa_nil))))))) (pv 1) (fun _ _ => rfl)))))), ?_⟩
    show (_ : TS) _ [some (V.ref p), none, none] H
    (repeat (first | (refine ⟨_, rfl, ?_⟩) | (refine ⟨_, _, rfl, rfl, ?_⟩) | (refine ⟨_, _, _, _, rfl, rfl, SqL.of (by assumption), (by rfl), ?_⟩) | (refine ⟨_, _, _, _, rfl, rfl, (by assumption), (by rfl), ?_⟩) | (refine ⟨_, _, _, _, rfl, rfl, SqL.of (by assumption), (by assumption), ?_⟩) | (refine ⟨_, _, rfl, .inl (SqL.of (by assumption)), ?_⟩) | (refine ⟨_, _, _, _, _, rfl, (by assumption), (by assumption), (by assumption), (by rfl), ?_⟩) | (refine ⟨_, _, _, _, rfl, (by assumption), (by assumption), (by assumption), (by decide), ?_⟩) | (refine And.intro (by first | assumption | rfl | (show (0:Int) < _; omega) | (show CDiv _ _; exact ⟨by omega, by omega⟩) | (show CMul _ _; first | exact .inl ⟨by omega, by omega⟩ | exact .inr ⟨by omega, by omega⟩) | (show CPow _ _; exact ⟨by omega, by omega, by omega⟩) | (show (_ : Nat) ≤ sizeLine; exact Nat.le_of_ble_eq_true rfl)) ?_) ))
    refine ⟨p, c, _, n, rfl, pen, by decide, by decide, by omega, fun d1 H1 a0 a1 kp1 pen1 => ?_⟩
    (repeat (first | (refine ⟨_, rfl, ?_⟩) | (refine ⟨_, _, rfl, rfl, ?_⟩) | (refine ⟨_, _, _, _, rfl, rfl, SqL.of (by assumption), (by rfl), ?_⟩) | (refine ⟨_, _, _, _, rfl, rfl, (by assumption), (by rfl), ?_⟩) | (refine ⟨_, _, _, _, rfl, rfl, SqL.of (by assumption), (by assumption), ?_⟩) | (refine ⟨_, _, rfl, .inl (SqL.of (by assumption)), ?_⟩) | (refine ⟨_, _, _, _, _, rfl, (by assumption), (by assumption), (by assumption), (by rfl), ?_⟩) | (refine ⟨_, _, _, _, rfl, (by assumption), (by assumption), (by assumption), (by decide), ?_⟩) | (refine And.intro (by first | assumption | rfl | (show (0:Int) < _; omega) | (show CDiv _ _; exact ⟨by omega, by omega⟩) | (show CMul _ _; first | exact .inl ⟨by omega, by omega⟩ | exact .inr ⟨by omega, by omega⟩) | (show CPow _ _; exact ⟨by omega, by omega, by omega⟩) | (show (_ : Nat) ≤ sizeLine; exact Nat.le_of_ble_eq_true rfl)) ?_) ))
    refine ⟨p, c, _, n + 1, rfl, pen1, by decide, by decide, by omega, fun d2 H2 b0 b1 kp2 pen2 => ?_⟩
    (repeat (first | (refine ⟨_, rfl, ?_⟩) | (refine ⟨_, _, rfl, rfl, ?_⟩) | (refine ⟨_, _, _, _, rfl, rfl, SqL.of (by assumption), (by rfl), ?_⟩) | (refine ⟨_, _, _, _, rfl, rfl, (by assumption), (by rfl), ?_⟩) | (refine ⟨_, _, _, _, rfl, rfl, SqL.of (by assumption), (by assumption), ?_⟩) | (refine ⟨_, _, rfl, .inl (SqL.of (by assumption)), ?_⟩) | (refine ⟨_, _, _, _, _, rfl, (by assumption), (by assumption), (by assumption), (by rfl), ?_⟩) | (refine ⟨_, _, _, _, rfl, (by assumption), (by assumption), (by assumption), (by decide), ?_⟩) | (refine And.intro (by first | assumption | rfl | (show (0:Int) < _; omega) | (show CDiv _ _; exact ⟨by omega, by omega⟩) | (show CMul _ _; first | exact .inl ⟨by omega, by omega⟩ | exact .inr ⟨by omega, by omega⟩) | (show CPow _ _; exact ⟨by omega, by omega, by omega⟩) | (show (_ : Nat) ≤ sizeLine; exact Nat.le_of_ble_eq_true rfl)) ?_) ))
    intro q hq
    (repeat (first | (refine ⟨_, rfl, ?_⟩) | (refine ⟨_, _, rfl, rfl, ?_⟩) | (refine ⟨_, _, _, _, rfl, rfl, SqL.of (by assumption), (by rfl), ?_⟩) | (refine ⟨_, _, _, _, rfl, rfl, (by assumption), (by rfl), ?_⟩) | (refine ⟨_, _, _, _, rfl, rfl, SqL.of (by assumption), (by assumption), ?_⟩) | (refine ⟨_, _, rfl, .inl (SqL.of (by assumption)), ?_⟩) | (refine ⟨_, _, _, _, _, rfl, (by assumption), (by assumption), (by assumption), (by rfl), ?_⟩) | (refine ⟨_, _, _, _, rfl, (by assumption), (by assumption), (by assumption), (by decide), ?_⟩) | (refine And.intro (by first | assumption | rfl | (show (0:Int) < _; omega) | (show CDiv _ _; exact ⟨by omega, by omega⟩) | (show CMul _ _; first | exact .inl ⟨by omega, by omega⟩ | exact .inr ⟨by omega, by omega⟩) | (show CPow _ _; exact ⟨by omega, by omega, by omega⟩) | (show (_ : Nat) ≤ sizeLine; exact Nat.le_of_ble_eq_true rfl)) ?_) ))
    obtain ⟨v, hv⟩ := atI_ints (cs := [0, 1, d2, 0 - 1 - d2, 10 ^ Int.toNat 19 + 7 * d2, 0 - 10 ^ Int.toNat 20 - d2]) (z := d1) a0 (by simpa using a1)
    refine ⟨_, _, _, _, rfl, rfl, SqL.of upd_same, hv, ?_⟩
    have kk := (kp1.trans kp2).trans (Kp.new (o := .lst [.int 0, .int 1, .int d2, .int (0 - 1 - d2), .int (10 ^ Int.toNat 19 + 7 * d2), .int (0 - 10 ^ Int.toNat 20 - d2)]) hq)
    obtain ⟨cs, i, r, g1, g2, g3⟩ := pen2
    exact k _ _ kk ⟨cs, i, r, by rw [upd_ne (ne_of_none g1 hq)]; exact g1, by rw [upd_ne (ne_of_none g2 hq)]; exact g2, g3.1, by omega, g3.2.2⟩
end
end K43

namespace K43
open PySem L2 G0
/-- a list of moves: tuples of three small ints -/
def Tups (H : Hp) (ks : List (Addr × List Int)) : Prop := ∀ q ∈ ks, H q.1 = some (.tup (q.2.map V.int)) ∧ q.2.length = 3 ∧ TS.Bd 32 q.2
def Mv (H : Hp) (l : Addr) (ks : List (Addr × List Int)) : Prop := H l = some (.lst (ks.map fun q => V.ref q.1)) ∧ Tups H ks ∧ ks ≠ [] ∧ ks.length < 64
theorem Tups.kp {S : List Addr} {H H' : Hp} {ks : List (Addr × List Int)} (t : Tups H ks) (k : Kp S H H') : Tups H' ks := fun q hq => ⟨k.tup _ _ (t q hq).1, (t q hq).2⟩
theorem Pen.kp {S : List Addr} {H H' : Hp} {p c : Addr} {n : Int} (k : Kp S H H') (hp : p ∉ S) (hc : c ∉ S) (h : Pen H p c n) : Pen H' p c n := by
  obtain ⟨cs, i, r, g1, g2, g3⟩ := h
  exact ⟨cs, i, r, k.keep _ _ hp g1, k.keep _ _ hc g2, g3⟩
theorem Pen.same {H H' : Hp} {p c : Addr} {n : Int} (k : Kp [] H H') (h : Pen H p c n) : Pen H' p c n := h.kp k (fun z => nomatch z) (fun z => nomatch z)
theorem Pen.new {H : Hp} {p c q : Addr} {n : Int} {o : HO} (h : Pen H p c n) (hq : H q = none) : Pen (upd H q o) p c n := h.kp (Kp.new (S := []) hq) (fun z => nomatch z) (fun z => nomatch z)
theorem Pen.put {H : Hp} {p c q : Addr} {n : Int} {o : HO} (h : Pen H p c n) (h1 : p ≠ q) (h2 : c ≠ q) : Pen (upd H q o) p c n := by
  obtain ⟨cs, i, r, g1, g2, g3⟩ := h
  exact ⟨cs, i, r, by rw [upd_ne h1]; exact g1, by rw [upd_ne h2]; exact g2, g3⟩
theorem Pen.nep {H : Hp} {p c q : Addr} {n : Int} (h : Pen H p c n) (hq : H q = none) : p ≠ q ∧ c ≠ q := by
  obtain ⟨cs, i, r, g1, g2, g3⟩ := h
  exact ⟨ne_of_none g1 hq, ne_of_none g2 hq⟩
theorem Pen.neIns {H : Hp} {p c x C dx : Addr} {n : Int} {g : List (Str × V)} (h : Pen H p c n) (hx : H x = some (.ins C dx g)) : p ≠ x ∧ c ≠ x := by
  obtain ⟨cs, i, r, g1, g2, g3⟩ := h
  exact ⟨ne_of g1 hx (by intro q; cases q), ne_of g2 hx (by intro q; cases q)⟩
theorem Pen.ins {H H' : Hp} {p c x C dx : Addr} {n : Int} {g : List (Str × V)} (h : Pen H p c n) (hx : H x = some (.ins C dx g)) (k : Kp [x] H H') : Pen H' p c n := h.kp k (not1 (h.neIns hx).1) (not1 (h.neIns hx).2)
theorem Pen.le {H : Hp} {p c : Addr} {n m : Int} (h : Pen H p c n) (l : n ≤ m) : Pen H p c m := by
  obtain ⟨cs, i, r, g1, g2, g3, g4, g5⟩ := h
  exact ⟨cs, i, r, g1, g2, g3, by omega, g5⟩
def spMoves : Sp := fun vs H Q _ => ∃ (p c : Addr) (n : Int), vs = [.ref p] ∧ Pen H p c n ∧ n ≤ 50000 ∧ ∀ l ks H', H l = none → Kp [p] H H' → Pen H' p c (n + 25) → Mv H' l ks → Q (.ref l) H'
section
variable {P : Program} {w : World} {K : PySem.W.Frag} {mg : Str → Option Value} {base : Heap}
theorem cMoves (D : Dfn K mg "_law_moves" s_moves) (T : Txt mg) (cDraw : Cal P w K mg base 1 "_law_draw" spDraw) : Cal P w K mg base 2 "_law_moves" spMoves := by
  refine cal D scMoves (fun _ _ _ _ _ _ us hl => match us, hl with | [_], _ => rfl) (fun vs H Q E h => ?_) (fun f cdv A outer s H vs Q E hr h => ?_)
  · obtain ⟨p, c, n, rfl, _⟩ := h; rfl
  · obtain ⟨p, c, n, rfl, pen, hn, k⟩ := h
    refine ⟨_, (pss_cons (ps_setLc (i := 1) (own := [("_law_turn", 2)]) (by rfl) scMoves.nd rfl rfl (sw_true rfl rfl rfl (by decide +kernel)) (pi_range1 (by rfl) T.n_range (pa_cons (pe_op op_add pe_int (pe_c cDraw hr (by decide) (by rfl) (pa_cons (pv 0) (pa_cons pe_int pa_nil)))) pa_nil)) (blkOk_by (own := [("_law_turn", 2)]) (N := N_law_moves) (sc := defScope s_law_moves) (by decide +kernel)) (fun _ _ _ _ _ => pg_name (i := 2) scMoves.nd rfl (Or.inl rfl)) (fun _ _ _ _ _ => pts_nil) (fun _ _ _ _ _ => pe_tup (pa_cons (pe_op op_add pe_int (pe_c cDraw hr (by decide) (by rfl) (pa_cons (pv 0) (pa_cons pe_int pa_nil)))) (pa_cons (pe_c cDraw hr (by decide) (by rfl) (pa_cons (pv 0) (pa_cons pe_int pa_nil))) (pa_cons (pe_c cDraw hr (by decide) (by rfl) (pa_cons (pv 0) (pa_cons pe_int pa_nil))) pa_nil)))))
      (pss_one (ps_ret (pe_callB (cr_sortedT rfl) (by rfl) T.n_sorted (by decide +kernel) (pa_cons (pe_callTy (cr_setOfT rfl hr.units) (by rfl) T.n_set (by decide +kernel) (pa_cons (pv 1) pa_nil)) pa_nil))))), ?_⟩
    show (_ : TS) _ [some (V.ref p), none, none] H
    (repeat (first | (refine ⟨_, rfl, ?_⟩) | (refine ⟨_, _, rfl, rfl, ?_⟩) | (refine ⟨_, _, _, _, rfl, rfl, SqL.of (by assumption), (by rfl), ?_⟩) | (refine ⟨_, _, _, _, rfl, rfl, (by assumption), (by rfl), ?_⟩) | (refine ⟨_, _, _, _, rfl, rfl, SqL.of (by assumption), (by assumption), ?_⟩) | (refine ⟨_, _, rfl, .inl (SqL.of (by assumption)), ?_⟩) | (refine ⟨_, _, _, _, _, rfl, (by assumption), (by assumption), (by assumption), (by rfl), ?_⟩) | (refine ⟨_, _, _, _, rfl, (by assumption), (by assumption), (by assumption), (by decide), ?_⟩) | (refine And.intro (by first | assumption | rfl | (show (0:Int) < _; omega) | (show CDiv _ _; exact ⟨by omega, by omega⟩) | (show CMul _ _; first | exact .inl ⟨by omega, by omega⟩ | exact .inr ⟨by omega, by omega⟩) | (show CPow _ _; exact ⟨by omega, by omega, by omega⟩) | (show (_ : Nat) ≤ sizeLine; exact Nat.le_of_ble_eq_true rfl)) ?_) ))
    refine ⟨p, c, _, n, rfl, pen, by decide, by decide, by omega, fun m H1 a0 a1 kp1 pen1 => ?_⟩
    (repeat (first | (refine ⟨_, rfl, ?_⟩) | (refine ⟨_, _, rfl, rfl, ?_⟩) | (refine ⟨_, _, _, _, rfl, rfl, SqL.of (by assumption), (by rfl), ?_⟩) | (refine ⟨_, _, _, _, rfl, rfl, (by assumption), (by rfl), ?_⟩) | (refine ⟨_, _, _, _, rfl, rfl, SqL.of (by assumption), (by assumption), ?_⟩) | (refine ⟨_, _, rfl, .inl (SqL.of (by assumption)), ?_⟩) | (refine ⟨_, _, _, _, _, rfl, (by assumption), (by assumption), (by assumption), (by rfl), ?_⟩) | (refine ⟨_, _, _, _, rfl, (by assumption), (by assumption), (by assumption), (by decide), ?_⟩) | (refine And.intro (by first | assumption | rfl | (show (0:Int) < _; omega) | (show CDiv _ _; exact ⟨by omega, by omega⟩) | (show CMul _ _; first | exact .inl ⟨by omega, by omega⟩ | exact .inr ⟨by omega, by omega⟩) | (show CPow _ _; exact ⟨by omega, by omega, by omega⟩) | (show (_ : Nat) ≤ sizeLine; exact Nat.le_of_ble_eq_true rfl)) ?_) ))
    refine ⟨by omega, by omega, fun D hD => lc_range (lo := 0) (n := (1 + m).toNat) (fun i H' => ∃ ks : List (Addr × List Int), H' D = some (.lst (ks.map fun q => V.ref q.1)) ∧ ks.length = i ∧ Tups H' ks ∧ Pen H' p c (n + 1 + 3 * i) ∧ Kp [p] H1 H')
      ⟨[], upd_same, rfl, (fun _ z => nomatch z), (pen1.new hD).le (by simp), Kp.new hD⟩ ?_ ?_⟩
    · rintro i H2 hi ⟨ks, hd, hl, tu, pn, kp⟩
      obtain ⟨nep, nec⟩ := pen1.nep hD
      refine ⟨rfl, ?_⟩
      dsimp only [tYes]
      rw [if_pos rfl]
      (repeat (first | (refine ⟨_, rfl, ?_⟩) | (refine ⟨_, _, rfl, rfl, ?_⟩) | (refine ⟨_, _, _, _, rfl, rfl, SqL.of (by assumption), (by rfl), ?_⟩) | (refine ⟨_, _, _, _, rfl, rfl, (by assumption), (by rfl), ?_⟩) | (refine ⟨_, _, _, _, rfl, rfl, SqL.of (by assumption), (by assumption), ?_⟩) | (refine ⟨_, _, rfl, .inl (SqL.of (by assumption)), ?_⟩) | (refine ⟨_, _, _, _, _, rfl, (by assumption), (by assumption), (by assumption), (by rfl), ?_⟩) | (refine ⟨_, _, _, _, rfl, (by assumption), (by assumption), (by assumption), (by decide), ?_⟩) | (refine And.intro (by first | assumption | rfl | (show (0:Int) < _; omega) | (show CDiv _ _; exact ⟨by omega, by omega⟩) | (show CMul _ _; first | exact .inl ⟨by omega, by omega⟩ | exact .inr ⟨by omega, by omega⟩) | (show CPow _ _; exact ⟨by omega, by omega, by omega⟩) | (show (_ : Nat) ≤ sizeLine; exact Nat.le_of_ble_eq_true rfl)) ?_) ))
      refine ⟨p, c, _, _, rfl, pn, by decide, by decide, by omega, fun d1 H3 b0 b1 kp3 pn3 => ?_⟩
      (repeat (first | (refine ⟨_, rfl, ?_⟩) | (refine ⟨_, _, rfl, rfl, ?_⟩) | (refine ⟨_, _, _, _, rfl, rfl, SqL.of (by assumption), (by rfl), ?_⟩) | (refine ⟨_, _, _, _, rfl, rfl, (by assumption), (by rfl), ?_⟩) | (refine ⟨_, _, _, _, rfl, rfl, SqL.of (by assumption), (by assumption), ?_⟩) | (refine ⟨_, _, rfl, .inl (SqL.of (by assumption)), ?_⟩) | (refine ⟨_, _, _, _, _, rfl, (by assumption), (by assumption), (by assumption), (by rfl), ?_⟩) | (refine ⟨_, _, _, _, rfl, (by assumption), (by assumption), (by assumption), (by decide), ?_⟩) | (refine And.intro (by first | assumption | rfl | (show (0:Int) < _; omega) | (show CDiv _ _; exact ⟨by omega, by omega⟩) | (show CMul _ _; first | exact .inl ⟨by omega, by omega⟩ | exact .inr ⟨by omega, by omega⟩) | (show CPow _ _; exact ⟨by omega, by omega, by omega⟩) | (show (_ : Nat) ≤ sizeLine; exact Nat.le_of_ble_eq_true rfl)) ?_) ))
      refine ⟨p, c, _, _, rfl, pn3, by decide, by decide, by omega, fun d2 H4 c0 c1 kp4 pn4 => ?_⟩
      (repeat (first | (refine ⟨_, rfl, ?_⟩) | (refine ⟨_, _, rfl, rfl, ?_⟩) | (refine ⟨_, _, _, _, rfl, rfl, SqL.of (by assumption), (by rfl), ?_⟩) | (refine ⟨_, _, _, _, rfl, rfl, (by assumption), (by rfl), ?_⟩) | (refine ⟨_, _, _, _, rfl, rfl, SqL.of (by assumption), (by assumption), ?_⟩) | (refine ⟨_, _, rfl, .inl (SqL.of (by assumption)), ?_⟩) | (refine ⟨_, _, _, _, _, rfl, (by assumption), (by assumption), (by assumption), (by rfl), ?_⟩) | (refine ⟨_, _, _, _, rfl, (by assumption), (by assumption), (by assumption), (by decide), ?_⟩) | (refine And.intro (by first | assumption | rfl | (show (0:Int) < _; omega) | (show CDiv _ _; exact ⟨by omega, by omega⟩) | (show CMul _ _; first | exact .inl ⟨by omega, by omega⟩ | exact .inr ⟨by omega, by omega⟩) | (show CPow _ _; exact ⟨by omega, by omega, by omega⟩) | (show (_ : Nat) ≤ sizeLine; exact Nat.le_of_ble_eq_true rfl)) ?_) ))
      refine ⟨p, c, _, _, rfl, pn4, by decide, by decide, by omega, fun d3 H5 e0 e1 kp5 pn5 => ?_⟩
      (repeat (first | (refine ⟨_, rfl, ?_⟩) | (refine ⟨_, _, rfl, rfl, ?_⟩) | (refine ⟨_, _, _, _, rfl, rfl, SqL.of (by assumption), (by rfl), ?_⟩) | (refine ⟨_, _, _, _, rfl, rfl, (by assumption), (by rfl), ?_⟩) | (refine ⟨_, _, _, _, rfl, rfl, SqL.of (by assumption), (by assumption), ?_⟩) | (refine ⟨_, _, rfl, .inl (SqL.of (by assumption)), ?_⟩) | (refine ⟨_, _, _, _, _, rfl, (by assumption), (by assumption), (by assumption), (by rfl), ?_⟩) | (refine ⟨_, _, _, _, rfl, (by assumption), (by assumption), (by assumption), (by decide), ?_⟩) | (refine And.intro (by first | assumption | rfl | (show (0:Int) < _; omega) | (show CDiv _ _; exact ⟨by omega, by omega⟩) | (show CMul _ _; first | exact .inl ⟨by omega, by omega⟩ | exact .inr ⟨by omega, by omega⟩) | (show CPow _ _; exact ⟨by omega, by omega, by omega⟩) | (show (_ : Nat) ≤ sizeLine; exact Nat.le_of_ble_eq_true rfl)) ?_) ))
      intro t ht
      have k25 := (kp3.trans kp4).trans kp5
      have hd5 := k25.keep _ _ (not1 nep.symm) hd
      have nt : D ≠ t := ne_of_none hd5 ht
      refine ⟨_, by rw [upd_ne nt]; exact hd5, by rw [List.length_map, hl]; exact Nat.lt_of_lt_of_le (Nat.lt_of_lt_of_le hi (show (1 + m).toNat ≤ 8 by omega)) (by decide), ks ++ [(t, [1 + d1, d2, d3])], ?_, by simp [hl], ?_, ?_, ?_⟩
      · rw [upd_same]; simp
      · intro q hq
        rcases List.mem_append.mp hq with z | z
        · have g := tu q z
          have ne1 : q.1 ≠ D := fun e => by rw [e, hd] at g; simp at g
          have g5 := k25.tup _ _ g.1
          exact ⟨by rw [upd_ne ne1, upd_ne (ne_of_none g5 ht)]; exact g5, g.2⟩
        · obtain rfl : q = (t, [1 + d1, d2, d3]) := by simpa using z
          refine ⟨by rw [upd_ne nt.symm, upd_same]; rfl, rfl, fun x hx => ?_⟩
          have : x = 1 + d1 ∨ x = d2 ∨ x = d3 := by simpa using hx
          omega
      · exact ((pn5.new ht).put nep nec).le (by push_cast; omega)
      · exact (((kp.trans k25).trans (Kp.new ht)).putNew hD (fun xs z => by rw [upd_ne nt, hd5] at z; cases z))
    · rintro H2 ⟨ks, hd, hl, tu, pn, kp⟩
      (repeat (first | (refine ⟨_, rfl, ?_⟩) | (refine ⟨_, _, rfl, rfl, ?_⟩) | (refine ⟨_, _, _, _, rfl, rfl, SqL.of (by assumption), (by rfl), ?_⟩) | (refine ⟨_, _, _, _, rfl, rfl, (by assumption), (by rfl), ?_⟩) | (refine ⟨_, _, _, _, rfl, rfl, SqL.of (by assumption), (by assumption), ?_⟩) | (refine ⟨_, _, rfl, .inl (SqL.of (by assumption)), ?_⟩) | (refine ⟨_, _, _, _, _, rfl, (by assumption), (by assumption), (by assumption), (by rfl), ?_⟩) | (refine ⟨_, _, _, _, rfl, (by assumption), (by assumption), (by assumption), (by decide), ?_⟩) | (refine And.intro (by first | assumption | rfl | (show (0:Int) < _; omega) | (show CDiv _ _; exact ⟨by omega, by omega⟩) | (show CMul _ _; first | exact .inl ⟨by omega, by omega⟩ | exact .inr ⟨by omega, by omega⟩) | (show CPow _ _; exact ⟨by omega, by omega, by omega⟩) | (show (_ : Nat) ≤ sizeLine; exact Nat.le_of_ble_eq_true rfl)) ?_) ))
      refine ⟨_, ks, rfl, SqL.of hd, fun q hq => SqT.of (tu q hq).1, by omega, fun a L ha sub sup => ?_⟩
      have tuL : Tups (upd H2 a (SetTO P w a L)) L := fun q hq => Tups.kp tu (Kp.new (S := []) ha) q (sub q hq)
      refine ⟨a, L, 3, 32, rfl, upd_same, fun q hq => SqT.of (tuL q hq).1, by decide, fun q hq => (tuL q hq).2, fun L' l pm nd lt pw hl' => ?_⟩
      have hl2 : H2 l = none := (Kp.new (S := []) ha).dom l hl'
      have kk := (kp1.trans kp).trans ((Kp.new ha).trans (Kp.new (o := .lst (L'.map fun q => V.ref q.1)) hl'))
      refine k l L' _ ((kp1.trans kp).dom l hl2) kk (((pn.new ha).new hl').le (by omega)) ⟨upd_same, fun q hq => Tups.kp tuL (Kp.new (S := []) hl') q (pm.mem_iff.mp hq), fun e => ?_, lt⟩
      subst e
      have eL : L = [] := List.nil_perm.mp pm
      subst eL
      cases ks with
      | nil => simp at hl; omega
      | cons q _ => exact absurd (sup q (by simp)) (by simp)
/-- moves[0], moves[-1] -/
def spFirst : Sp := fun vs H Q _ => ∃ (a l : Addr) (xs : List V) (v : V), vs = [.ref a, .ref l] ∧ H l = some (.lst xs) ∧ atI xs 0 = some v ∧ Q v H
def spLast : Sp := fun vs H Q _ => ∃ (a l : Addr) (xs : List V) (v : V), vs = [.ref a, .ref l] ∧ H l = some (.lst xs) ∧ atI xs (-1) = some v ∧ Q v H
theorem cFirst {C : Addr} (D : Mth K C "__call__" "First.__call__" s_First_call) : Met P w K mg base 1 C "__call__" spFirst := by
  refine met D scFirst (fun _ _ _ _ _ _ us hl => match us, hl with | [_, _], _ => rfl) (fun vs H Q E h => ?_) (fun f cdv A outer s H vs Q E hr h => ?_)
  · obtain ⟨a, l, xs, v, rfl, _⟩ := h; rfl
  · obtain ⟨a, l, xs, v, rfl, hl, ha, k⟩ := h
    refine ⟨_, (pss_one (ps_ret (pe_ix ix_list (pv 1) pe_int (fun _ _ => rfl)))), ?_⟩
    exact ⟨_, rfl, _, _, _, _, rfl, rfl, SqL.of hl, ha, k⟩
theorem cLast {C : Addr} (D : Mth K C "__call__" "Last.__call__" s_Last_call) : Met P w K mg base 1 C "__call__" spLast := by
  refine met D scLast (fun _ _ _ _ _ _ us hl => match us, hl with | [_, _], _ => rfl) (fun vs H Q E h => ?_) (fun f cdv A outer s H vs Q E hr h => ?_)
  · obtain ⟨a, l, xs, v, rfl, _⟩ := h; rfl
  · obtain ⟨a, l, xs, v, rfl, hl, ha, k⟩ := h
    refine ⟨_, (pss_one (ps_ret (pe_ix ix_list (pv 1) (pe_un un_neg pe_int) (fun _ _ => rfl)))), ?_⟩
    exact ⟨_, rfl, _, rfl, _, _, _, _, rfl, rfl, SqL.of hl, ha, k⟩
abbrev fs (m : Addr) (z : Int) : List (Str × V) := [("numbers", V.ref m), ("calls", V.int z)]
def spInit (C : Addr) : Sp := fun vs H Q _ => ∃ (a l dx : Addr) (xs : List V), vs = [.ref a, .ref l] ∧ H a = some (.ins C dx []) ∧ H l = some (.lst xs) ∧ ∀ m H', H m = none → H' a = some (.ins C dx (fs m 0)) → H' m = some (.lst xs) → Kp [a] H H' → Q .non H'
def spCall (C : Addr) : Sp := fun vs H Q _ => ∃ (a l m dx : Addr) (z nv : Int) (ns : List Int) (xs : List V) (v : V), vs = [.ref a, .ref l] ∧ H a = some (.ins C dx (fs m z)) ∧ H m = some (.lst (ns.map V.int)) ∧ 0 < ns.length ∧
  H l = some (.lst xs) ∧ 0 < xs.length ∧ atI (ns.map V.int) (z % ((ns.map V.int).length : Nat)) = some (.int nv) ∧ atI xs (nv % (xs.length : Nat)) = some v ∧ ∀ H', H' a = some (.ins C dx (fs m (z + 1))) → Kp [a] H H' → Q v H'
theorem cInit {C : Addr} (D : Mth K C "__init__" "Drawn.__init__" s_Drawn_init) (T : Txt mg) (kc : Cls K C) (n1 : NoAttr K C "numbers") (n2 : NoAttr K C "calls") : Met P w K mg base 1 C "__init__" (spInit C) := by
  refine met D scInit (fun _ _ _ _ _ _ us hl => match us, hl with | [_, _], _ => rfl) (fun vs H Q E h => ?_) (fun f cdv A outer s H vs Q E hr h => ?_)
  · obtain ⟨a, l, dx, xs, rfl, _⟩ := h; rfl
  · obtain ⟨a, l, dx, xs, rfl, ha, hl, k⟩ := h
    refine ⟨_, (pss_cons (ps_fld (pv 0) (pe_callTy call_list_of (by rfl) T.n_list (by decide +kernel) (pa_cons (pv 1) pa_nil)) rfl)
      (pss_one (ps_fld (pv 0) pe_int rfl))), ?_⟩
    show (_ : TS) _ [some (V.ref a), some (V.ref l)] H
    (repeat (first | (refine ⟨_, rfl, ?_⟩) | (refine ⟨_, _, rfl, rfl, ?_⟩) | (refine ⟨_, _, _, _, rfl, rfl, SqL.of (by assumption), (by rfl), ?_⟩) | (refine ⟨_, _, _, _, rfl, rfl, (by assumption), (by rfl), ?_⟩) | (refine ⟨_, _, _, _, rfl, rfl, SqL.of (by assumption), (by assumption), ?_⟩) | (refine ⟨_, _, rfl, .inl (SqL.of (by assumption)), ?_⟩) | (refine ⟨_, _, _, _, _, rfl, (by assumption), (by assumption), (by assumption), (by rfl), ?_⟩) | (refine ⟨_, _, _, _, rfl, (by assumption), (by assumption), (by assumption), (by decide), ?_⟩) | (refine And.intro (by first | assumption | rfl | (show (0:Int) < _; omega) | (show CDiv _ _; exact ⟨by omega, by omega⟩) | (show CMul _ _; first | exact .inl ⟨by omega, by omega⟩ | exact .inr ⟨by omega, by omega⟩) | (show CPow _ _; exact ⟨by omega, by omega, by omega⟩) | (show (_ : Nat) ≤ sizeLine; exact Nat.le_of_ble_eq_true rfl)) ?_) ))
    intro m hm
    have ham : a ≠ m := ne_of_none ha hm
    refine ⟨_, rfl, _, _, _, _, rfl, by rw [upd_ne ham]; exact ha, kc, n1, by decide, ?_⟩
    refine ⟨_, rfl, _, _, _, _, rfl, upd_same, kc, n2, Nat.le_of_ble_eq_true rfl, ?_⟩
    refine k m _ hm (by rw [upd_same]; rfl) (by rw [upd_ne ham.symm, upd_ne ham.symm, upd_same]) ?_
    rw [upd_upd]
    exact ((Kp.new (S := [a]) hm).trans (Kp.put (by rw [upd_ne ham]; exact ha)))
theorem cCall {C : Addr} (D : Mth K C "__call__" "Drawn.__call__" s_Drawn_call) (T : Txt mg) (kc : Cls K C) (n1 : NoAttr K C "numbers") (n2 : NoAttr K C "calls") : Met P w K mg base 1 C "__call__" (spCall C) := by
  refine met D scCall (fun _ _ _ _ _ _ us hl => match us, hl with | [_, _], _ => rfl) (fun vs H Q E h => ?_) (fun f cdv A outer s H vs Q E hr h => ?_)
  · obtain ⟨a, l, m, dx, z, nv, ns, xs, v, rfl, _⟩ := h; rfl
  · obtain ⟨a, l, m, dx, z, nv, ns, xs, v, rfl, ha, hm, nn, hl, nx, e1, e2, k⟩ := h
    refine ⟨_, (pss_cons (ps_set (i := 2) scCall.nd rfl (Or.inl rfl) (pe_ix ix_list (pe_fld (pv 0) rfl) (pe_op op_mod (pe_fld (pv 0) rfl) (pe_callB call_len_seq (by rfl) T.n_len (by decide +kernel) (pa_cons (pe_fld (pv 0) rfl) pa_nil))) (fun _ _ => rfl)))
      (pss_cons (ps_fldaug (pv 0) pe_int in_add)
      (pss_one (ps_ret (pe_ix ix_list (pv 1) (pe_op op_mod (pv 2) (pe_callB call_len_seq (by rfl) T.n_len (by decide +kernel) (pa_cons (pv 1) pa_nil))) (fun _ _ => rfl)))))), ?_⟩
    show (_ : TS) _ [some (V.ref a), some (V.ref l), none] H
    have pos1 : (0 : Int) < ((ns.map V.int).length : Nat) := by rw [List.length_map]; omega
    have pos2 : (0 : Int) < (xs.length : Nat) := by omega
    (repeat (first | (refine ⟨_, rfl, ?_⟩) | (refine ⟨_, _, rfl, rfl, ?_⟩) | (refine ⟨_, _, _, _, rfl, rfl, SqL.of (by assumption), (by rfl), ?_⟩) | (refine ⟨_, _, _, _, rfl, rfl, (by assumption), (by rfl), ?_⟩) | (refine ⟨_, _, _, _, rfl, rfl, SqL.of (by assumption), (by assumption), ?_⟩) | (refine ⟨_, _, rfl, .inl (SqL.of (by assumption)), ?_⟩) | (refine ⟨_, _, _, _, _, rfl, (by assumption), (by assumption), (by assumption), (by rfl), ?_⟩) | (refine ⟨_, _, _, _, rfl, (by assumption), (by assumption), (by assumption), (by decide), ?_⟩) | (refine And.intro (by first | assumption | rfl | (show (0:Int) < _; omega) | (show CDiv _ _; exact ⟨by omega, by omega⟩) | (show CMul _ _; first | exact .inl ⟨by omega, by omega⟩ | exact .inr ⟨by omega, by omega⟩) | (show CPow _ _; exact ⟨by omega, by omega, by omega⟩) | (show (_ : Nat) ≤ sizeLine; exact Nat.le_of_ble_eq_true rfl)) ?_) ))
    refine ⟨_, _, ha, Nat.le_of_ble_eq_true rfl, ?_⟩
    have nla : l ≠ a := ne_of hl ha (by intro q; cases q)
    refine ⟨_, rfl, _, rfl, _, rfl, _, _, rfl, .inl (SqL.of (by rw [upd_ne nla]; exact hl)), _, _, rfl, rfl, pos2, _, _, _, _, rfl, rfl, SqL.of (by rw [upd_ne nla]; exact hl), e2, ?_⟩
    exact k _ (by rw [upd_same]; rfl) (Kp.put ha)
end
end K43

namespace K43
open PySem L2 G0
abbrev N_law : List Str := ["_law_script", "_law_pen_here", "_law_numbers", "_law_handed", "_law_one", "_law_two", "_law_first", "_law_last", "_law_calls", "_law_turn", "_law_moves_here", "_law_before", "_law_at", "_law_number_here", "_law_chooser"]
theorem scLaw : FnScope N_law ["_law_script"] (defScope s_law) := ⟨rfl, rfl, rfl, by decide +kernel, rfl, by decide +kernel, by decide +kernel⟩
def spLaw (K : PySem.W.Frag) : Sp := fun vs H Q _ => ∃ (a : Addr) (ns : List Int), vs = [.ref a] ∧ SqL K H a (ns.map V.int) ∧ ns.length ≤ 63 ∧ ∀ H', Q (.bl true) H'
/-- a list of moves as data -/
def dMv (ks : List (Addr × List Int)) : PyData := .list (ks.map fun q => .tuple (q.2.map PyData.int))
theorem small_int : ∀ n : Nat, n < 32 → (PyData.intsShort 13 (.int (n : Int)) = true ∧ PyData.showable (.int (n : Int)) = true ∧ PyData.weight (.int (n : Int)) ≤ 6) := by decide +kernel
theorem bd_all : ∀ ns : List Int, TS.Bd 32 ns → PyData.intsShortAll 13 (ns.map PyData.int) = true ∧ PyData.showableAll (ns.map PyData.int) = true ∧ PyData.weightAll (ns.map PyData.int) ≤ 7 * ns.length
  | [], _ => ⟨rfl, rfl, Nat.le_refl _⟩
  | n :: ns, h => by
    obtain ⟨a, b, c⟩ := bd_all ns fun m hm => h m (List.mem_cons_of_mem _ hm)
    obtain ⟨n0, n1⟩ := h n List.mem_cons_self
    obtain ⟨k, rfl⟩ := Int.eq_ofNat_of_zero_le n0
    obtain ⟨d, e, f⟩ := small_int k (by omega)
    refine ⟨by simp [PyData.intsShortAll, a, d], by simp [PyData.showableAll, b, e], ?_⟩
    simp only [List.map_cons, PyData.weightAll, List.length_cons]
    omega
theorem mv_all : ∀ (H : Hp) (ks : List (Addr × List Int)), Tups H ks → PyData.canLayAll0 (ks.map fun q => .tuple (q.2.map PyData.int)) = true ∧ PyData.depthAll (ks.map fun q => .tuple (q.2.map PyData.int)) ≤ 1 ∧
    PyData.intsShortAll 13 (ks.map fun q => .tuple (q.2.map PyData.int)) = true ∧ PyData.showableAll (ks.map fun q => .tuple (q.2.map PyData.int)) = true ∧ PyData.weightAll (ks.map fun q => .tuple (q.2.map PyData.int)) ≤ 22 * ks.length
  | _, [], _ => ⟨rfl, Nat.zero_le _, rfl, rfl, Nat.le_refl _⟩
  | H, q :: ks, h => by
    obtain ⟨a, b, c, d, e⟩ := mv_all H ks fun m hm => h m (List.mem_cons_of_mem _ hm)
    obtain ⟨_, l, bd⟩ := h q List.mem_cons_self
    obtain ⟨x, y, z⟩ := bd_all q.2 bd
    refine ⟨by simp only [List.map_cons, PyData.canLayAll0, PyData.canLay0, layInts, a]; rfl, ?_, by simp only [List.map_cons, PyData.intsShortAll, PyData.intsShort, x, c]; rfl, by simp only [List.map_cons, PyData.showableAll, PyData.showable, y, d]; rfl, ?_⟩
    · simp only [List.map_cons, PyData.depthAll, PyData.depth, depInts]
      omega
    · simp only [List.map_cons, PyData.weightAll, PyData.weight, List.length_cons]
      omega
theorem dMv_ok {H : Hp} {ks : List (Addr × List Int)} (t : Tups H ks) (hl : ks.length < 64) : (dMv ks).showable = true ∧ (dMv ks).depth ≤ 20 ∧ (dMv ks).shown.length ≤ sizeLine := by
  obtain ⟨a, b, c, d, e⟩ := mv_all H ks t
  refine ⟨d, by simp only [dMv, PyData.depth]; omega, ?_⟩
  refine Nat.le_trans (PyProof.Rows.shown_le13 (d := dMv ks) ?_ c) (by decide)
  have h1 : (dMv ks).depth ≤ 64 := by simp only [dMv, PyData.depth]; omega
  have h2 : (dMv ks).weight ≤ 2 ^ 20 := by simp only [dMv, PyData.weight]; omega
  have h3 : (dMv ks).canLay0 = true := a
  show (PyData.canLay0 _ && decide (PyData.depth _ ≤ 64) && decide (PyData.weight _ ≤ 2 ^ 20)) = true
  rw [h3, decide_eq_true h1, decide_eq_true h2]
  rfl
theorem dpMv {K : PySem.W.Frag} {H : Hp} : ∀ {ks : List (Addr × List Int)}, Tups H ks → DpAll K H (ks.map fun q => V.ref q.1) (ks.map fun q => .tuple (q.2.map PyData.int))
  | [], _ => .nil
  | q :: ks, h => .cons (.tup (SqT.of (h q List.mem_cons_self).1) (dpInts q.2)) (dpMv fun m hm => h m (List.mem_cons_of_mem _ hm))
structure Facts (K : PySem.W.Frag) (mg : Str → Option Value) (CF CL CD : Addr) : Prop where
  kF : Kls K mg "First" CF
  kL : Kls K mg "Last" CL
  kD : Kls K mg "Drawn" CD
  iF : PySem.W.findIn K (.ref CF) "__init__" = some (some (.builtin "object.__init__"))
  iL : PySem.W.findIn K (.ref CL) "__init__" = some (some (.builtin "object.__init__"))
  fnF : ∀ f, PySem.W.findIn K (.ref CF) "__call__" = some (some (.ref f)) → PySem.W.fnIn K f = true
  fnL : ∀ f, PySem.W.findIn K (.ref CL) "__call__" = some (some (.ref f)) → PySem.W.fnIn K f = true
  fnD : ∀ f, PySem.W.findIn K (.ref CD) "__call__" = some (some (.ref f)) → PySem.W.fnIn K f = true
theorem at_ks {ks : List (Addr × List Int)} {z : Int} (h0 : 0 ≤ z) (h1 : z < (ks.length : Int)) : ∃ q ∈ ks, atI (ks.map fun q => V.ref q.1) z = some (V.ref q.1) := by
  obtain ⟨j, rfl⟩ := Int.eq_ofNat_of_zero_le h0
  have hj : j < ks.length := by omega
  exact ⟨ks[j], List.getElem_mem hj, atI_nat (by rw [List.getElem?_map, List.getElem?_eq_getElem hj]; rfl)⟩
theorem at_last {ks : List (Addr × List Int)} (h : ks ≠ []) : ∃ q ∈ ks, atI (ks.map fun q => V.ref q.1) (-1) = some (V.ref q.1) := by
  have e := List.dropLast_concat_getLast h
  refine ⟨ks.getLast h, List.getLast_mem h, ?_⟩
  conv => lhs; rw [← e]
  rw [List.map_append]
  exact atI_last _ _
/-- the addresses that the loop goes over -/
structure Ad where
  (D x1 d1 m1 x2 d2 m2 f1 e1 g1 e2 cl p c : Addr)
structure Ds (A : Ad) : Prop where
  npD : A.p ≠ A.D
  npm1 : A.p ≠ A.m1
  npm2 : A.p ≠ A.m2
  npc : A.p ≠ A.cl
  ncc : A.c ≠ A.cl
  nDc : A.D ≠ A.cl
  nm1c : A.m1 ≠ A.cl
  nm2c : A.m2 ≠ A.cl
  nx : A.x1 ≠ A.x2
structure Rs (CF CL CD : Addr) (A : Ad) (zs : List Int) (z1 z2 y1 y2 n : Int) (H : Hp) : Prop where
  pn : Pen H A.p A.c n
  hcl : H A.cl = some (.lst [.int z1, .int z2])
  hd : H A.D = some (.lst (zs.map V.int))
  h1 : H A.x1 = some (.ins CD A.d1 (fs A.m1 y1))
  h2 : H A.x2 = some (.ins CD A.d2 (fs A.m2 y2))
  hm1 : H A.m1 = some (.lst (zs.map V.int))
  hm2 : H A.m2 = some (.lst (zs.map V.int))
  hf : H A.f1 = some (.ins CF A.e1 [])
  hg : H A.g1 = some (.ins CL A.e2 [])
theorem Pen.lst {H : Hp} {p c : Addr} {n : Int} (h : Pen H p c n) : ∃ xs, H p = some (.lst xs) := by
  obtain ⟨cs, i, r, g1, _⟩ := h; exact ⟨_, g1⟩
section
variable {CF CL CD : Addr} {A : Ad} {zs : List Int} {z1 z2 y1 y2 n : Int} {H H' : Hp}
theorem Rs.same (k : Kp [] H H') (r : Rs CF CL CD A zs z1 z2 y1 y2 n H) : Rs CF CL CD A zs z1 z2 y1 y2 n H' :=
  ⟨r.pn.same k, k.same _ _ r.hcl, k.same _ _ r.hd, k.same _ _ r.h1, k.same _ _ r.h2, k.same _ _ r.hm1, k.same _ _ r.hm2, k.same _ _ r.hf, k.same _ _ r.hg⟩
theorem Rs.pen {n' : Int} (r : Rs CF CL CD A zs z1 z2 y1 y2 n H) (d : Ds A) (k : Kp [A.p] H H') (pn : Pen H' A.p A.c n') : Rs CF CL CD A zs z1 z2 y1 y2 n' H' := by
  obtain ⟨xs, hp⟩ := r.pn.lst
  have ni : ∀ {x C dx g}, H x = some (.ins C dx g) → x ∉ [A.p] := fun hx => not1 (ne_of hx hp (by intro q; cases q))
  exact ⟨pn, k.keep _ _ (not1 d.npc.symm) r.hcl, k.keep _ _ (not1 d.npD.symm) r.hd, k.keep _ _ (ni r.h1) r.h1, k.keep _ _ (ni r.h2) r.h2, k.keep _ _ (not1 d.npm1.symm) r.hm1, k.keep _ _ (not1 d.npm2.symm) r.hm2, k.keep _ _ (ni r.hf) r.hf, k.keep _ _ (ni r.hg) r.hg⟩
theorem Rs.cls {u1 u2 : Int} (r : Rs CF CL CD A zs z1 z2 y1 y2 n H) (d : Ds A) (k : Kp [A.cl] H H') (h : H' A.cl = some (.lst [.int u1, .int u2])) : Rs CF CL CD A zs u1 u2 y1 y2 n H' := by
  have ni : ∀ {x C dx g}, H x = some (.ins C dx g) → x ∉ [A.cl] := fun hx => not1 (ne_of hx r.hcl (by intro q; cases q))
  exact ⟨r.pn.kp k (not1 d.npc) (not1 d.ncc), h, k.keep _ _ (not1 d.nDc) r.hd, k.keep _ _ (ni r.h1) r.h1, k.keep _ _ (ni r.h2) r.h2, k.keep _ _ (not1 d.nm1c) r.hm1, k.keep _ _ (not1 d.nm2c) r.hm2, k.keep _ _ (ni r.hf) r.hf, k.keep _ _ (ni r.hg) r.hg⟩
theorem Rs.one {u : Int} (r : Rs CF CL CD A zs z1 z2 y1 y2 n H) (d : Ds A) (k : Kp [A.x1] H H') (h : H' A.x1 = some (.ins CD A.d1 (fs A.m1 u))) : Rs CF CL CD A zs z1 z2 u y2 n H' := by
  have ni : ∀ {x xs}, H x = some (.lst xs) → x ∉ [A.x1] := fun hx => not1 (ne_of hx r.h1 (by intro q; cases q))
  exact ⟨r.pn.ins r.h1 k, k.keep _ _ (ni r.hcl) r.hcl, k.keep _ _ (ni r.hd) r.hd, h, k.keep _ _ (not1 d.nx.symm) r.h2, k.keep _ _ (ni r.hm1) r.hm1, k.keep _ _ (ni r.hm2) r.hm2, k.keep _ _ (not1 (ne_of r.hf r.h1 (by intro q; simp at q))) r.hf, k.keep _ _ (not1 (ne_of r.hg r.h1 (by intro q; simp at q))) r.hg⟩
theorem Rs.two {u : Int} (r : Rs CF CL CD A zs z1 z2 y1 y2 n H) (d : Ds A) (k : Kp [A.x2] H H') (h : H' A.x2 = some (.ins CD A.d2 (fs A.m2 u))) : Rs CF CL CD A zs z1 z2 y1 u n H' := by
  have ni : ∀ {x xs}, H x = some (.lst xs) → x ∉ [A.x2] := fun hx => not1 (ne_of hx r.h2 (by intro q; cases q))
  exact ⟨r.pn.ins r.h2 k, k.keep _ _ (ni r.hcl) r.hcl, k.keep _ _ (ni r.hd) r.hd, k.keep _ _ (not1 d.nx) r.h1, h, k.keep _ _ (ni r.hm1) r.hm1, k.keep _ _ (ni r.hm2) r.hm2, k.keep _ _ (not1 (ne_of r.hf r.h2 (by intro q; simp at q))) r.hf, k.keep _ _ (not1 (ne_of r.hg r.h2 (by intro q; simp at q))) r.hg⟩
end
section
variable {P : Program} {w : World} {K : PySem.W.Frag} {mg : Str → Option Value} {base : Heap}
theorem cLaw {CF CL CD : Addr} (D : Dfn K mg "law" s_law) (T : Txt mg) (F : Facts K mg CF CL CD) (cDraw : Cal P w K mg base 1 "_law_draw" spDraw) (cPen : Cal P w K mg base 1 "_law_pen" (spPen K))
    (cNumber : Cal P w K mg base 2 "_law_number" spNumber) (cMoves : Cal P w K mg base 2 "_law_moves" spMoves) (cFirst : Met P w K mg base 1 CF "__call__" spFirst) (cLast : Met P w K mg base 1 CL "__call__" spLast)
    (cInit : Met P w K mg base 1 CD "__init__" (spInit CD)) (cCall : Met P w K mg base 1 CD "__call__" (spCall CD)) : Cal P w K mg base 4 "law" (spLaw K) := by
  obtain ⟨kF, kL, kD, iF, iL, fnF, fnL, fnD⟩ := F
  refine cal D scLaw (fun _ _ _ _ _ _ us hl => match us, hl with | [_], _ => rfl) (fun vs H Q E h => ?_) (fun f cdv A outer s H vs Q E hr h => ?_)
  · obtain ⟨p, ns, rfl, _⟩ := h; rfl
  · obtain ⟨a, ns, rfl, ha, hl, k⟩ := h
    refine ⟨_, (pss_cons (ps_set (i := 1) scLaw.nd rfl (Or.inr rfl) (pe_c cPen hr (by decide) (by rfl) (pa_cons (pv 0) pa_nil)))
      (pss_cons (ps_setLc (i := 2) (own := [("_law_turn", 9)]) (by rfl) scLaw.nd rfl rfl (sw_true rfl rfl rfl (by decide +kernel)) (pi_range1 (by rfl) T.n_range (pa_cons (pe_op op_add pe_int (pe_c cDraw hr (by decide) (by rfl) (pa_cons (pv 1) (pa_cons pe_int pa_nil)))) pa_nil)) (blkOk_by (own := [("_law_turn", 9)]) (N := N_law) (sc := defScope s_law) (by decide +kernel)) (fun _ _ _ _ _ => pg_name (i := 9) scLaw.nd rfl (Or.inl rfl)) (fun _ _ _ _ _ => pts_nil) (fun _ _ _ _ _ => pe_c cNumber hr (by decide) (by rfl) (pa_cons (pv 1) pa_nil)))
      (pss_cons (ps_set (i := 3) scLaw.nd rfl (Or.inl rfl) (pe_callTy call_list_of (by rfl) T.n_list (by decide +kernel) (pa_cons (pv 2) pa_nil)))
      (pss_cons (ps_set (i := 4) scLaw.nd rfl (Or.inl rfl) (pe_mk kD cInit hr (by decide) (by rfl) (pa_cons (pv 3) pa_nil)))
      (pss_cons (ps_set (i := 5) scLaw.nd rfl (Or.inl rfl) (pe_mk kD cInit hr (by decide) (by rfl) (pa_cons (pv 3) pa_nil)))
      (pss_cons (ps_expr (pe_bm0 PySem.F.plainAttrs_list PySem.F.slot_list_clear PySem.F.type_list_clear mt_clear (pv 3)))
      (pss_cons (ps_expr (pe_bm PySem.F.plainAttrs_list PySem.F.slot_list_append PySem.F.type_list_append mt_append (pv 3) (pa_cons pe_int pa_nil)))
      (pss_cons (ps_set (i := 6) scLaw.nd rfl (Or.inl rfl) (pe_mkn kF iF (by rfl)))
      (pss_cons (ps_set (i := 7) scLaw.nd rfl (Or.inl rfl) (pe_mkn kL iL (by rfl)))
      (pss_cons (ps_set (i := 8) scLaw.nd rfl (Or.inl rfl) (pe_lst (pa_cons pe_int (pa_cons pe_int pa_nil))))
      (pss_cons (ps_for PassesOwn.never rfl (pi_range1 (by rfl) T.n_range (pa_cons pe_int pa_nil)) (pg_name (i := 9) scLaw.nd rfl (Or.inl rfl))
      (pss_cons (ps_set (i := 10) scLaw.nd rfl (Or.inl rfl) (pe_c cMoves hr (by decide) (by rfl) (pa_cons (pv 1) pa_nil)))
      (pss_cons (ps_set (i := 11) scLaw.nd rfl (Or.inl rfl) (pe_callB (call_reprD hr) (by rfl) T.n_repr (by decide +kernel) (pa_cons (pv 10) pa_nil)))
      (pss_cut (ps_if (PW.pt (pw_or (pt_cmpR (op_neTI hr) (pe_co cFirst fnF hr (by decide) (pv 6) (pa_cons (pv 10) pa_nil)) (pe_ix ix_list (pv 10) pe_int (fun _ _ => rfl)) (nomark _)) (pw_or1 (pt_cmpR (op_neTI hr) (pe_co cLast fnL hr (by decide) (pv 7) (pa_cons (pv 10) pa_nil)) (pe_ix ix_list (pv 10) (pe_un un_neg pe_int) (fun _ _ => rfl)) (nomark _))))) (pss_one (ps_ret pe_bl)) pss_nil)
      (pss_cons (ps_for PassesOwn.never rfl (pi_range1 (by rfl) T.n_range (pa_cons (pe_op op_add pe_int (pe_callTy call_int_b (by rfl) T.n_int (by decide +kernel) (pa_cons (pe_cmpR op_eq (pe_c cDraw hr (by decide) (by rfl) (pa_cons (pv 1) (pa_cons pe_int pa_nil))) pe_int (nomark _)) pa_nil))) pa_nil)) (pg_name (i := 12) scLaw.nd rfl (Or.inl rfl))
      (pss_cons (ps_set (i := 13) scLaw.nd rfl (Or.inl rfl) (pe_ix ix_list (pv 2) (pe_op op_mod (pe_ix ix_list (pv 8) (pv 12) (fun _ _ => rfl)) (pe_callB call_len_seq (by rfl) T.n_len (by decide +kernel) (pa_cons (pv 2) pa_nil))) (fun _ _ => rfl)))
      (pss_cons (ps_asg (pe_op op_add (pe_ix ix_list (pv 8) (pv 12) (fun _ _ => rfl)) pe_int) (pg_sub (pv 8) (pv 12) set_list))
      (pss_cons (ps_set (i := 14) scLaw.nd rfl (Or.inl rfl) (pe_ix ix_list (pe_lst (pa_cons (pv 4) (pa_cons (pv 5) pa_nil))) (pv 12) (fun _ _ => rfl)))
      (pss_one (ps_if (pt_cmpR (op_neTI hr) (pe_co cCall fnD hr (by decide) (pv 14) (pa_cons (pv 10) pa_nil)) (pe_ix ix_list (pv 10) (pe_op op_mod (pe_callTy call_int_i (by rfl) T.n_int (by decide +kernel) (pa_cons (pv 13) pa_nil)) (pe_callB call_len_seq (by rfl) T.n_len (by decide +kernel) (pa_cons (pv 10) pa_nil))) (fun _ _ => rfl)) (nomark _)) (pss_one (ps_ret pe_bl)) pss_nil))))))
      (pss_one (ps_if (pt_cmpR op_ne (pe_callB (call_reprD hr) (by rfl) T.n_repr (by decide +kernel) (pa_cons (pv 10) pa_nil)) (pv 11) (nomark _)) (pss_one (ps_ret pe_bl)) pss_nil)))))))
      (pss_one (ps_ret (pe_and (pe_cmpR (op_eqTI hr) (pe_co cFirst fnF hr (by decide) (pv 6) (pa_cons (pe_lst (pa_cons (pe_tup (pa_cons pe_int (pa_cons pe_int (pa_cons pe_int pa_nil)))) pa_nil)) pa_nil)) (pe_tup (pa_cons pe_int (pa_cons pe_int (pa_cons pe_int pa_nil)))) (nomark _)) (pe_one (pe_cmpR (op_eqTI hr) (pe_co cLast fnL hr (by decide) (pv 7) (pa_cons (pe_lst (pa_cons (pe_tup (pa_cons pe_int (pa_cons pe_int (pa_cons pe_int pa_nil)))) pa_nil)) pa_nil)) (pe_tup (pa_cons pe_int (pa_cons pe_int (pa_cons pe_int pa_nil)))) (nomark _))))))))))))))))), ?_⟩
    show (_ : TS) _ [some (V.ref a), none, none, none, none, none, none, none, none, none, none, none, none, none, none] H
    (repeat (first | (refine ⟨_, rfl, ?_⟩) | (refine ⟨_, _, rfl, rfl, ?_⟩) | (refine ⟨_, _, _, _, rfl, rfl, SqL.of (by assumption), (by rfl), ?_⟩) | (refine ⟨_, _, _, _, rfl, rfl, (by assumption), (by rfl), ?_⟩) | (refine ⟨_, _, _, _, rfl, rfl, SqL.of (by assumption), (by assumption), ?_⟩) | (refine ⟨_, _, rfl, .inl (SqL.of (by assumption)), ?_⟩) | (refine ⟨_, _, _, _, _, rfl, (by assumption), (by assumption), (by assumption), (by rfl), ?_⟩) | (refine ⟨_, _, _, _, rfl, (by assumption), (by assumption), (by assumption), (by decide), ?_⟩) | (refine And.intro (by first | assumption | rfl | (show (0:Int) < _; omega) | (show CDiv _ _; exact ⟨by omega, by omega⟩) | (show CMul _ _; first | exact .inl ⟨by omega, by omega⟩ | exact .inr ⟨by omega, by omega⟩) | (show CPow _ _; exact ⟨by omega, by omega, by omega⟩) | (show (_ : Nat) ≤ sizeLine; exact Nat.le_of_ble_eq_true rfl)) ?_) ))
    refine ⟨a, ns, rfl, ha, hl, fun p c H1 hp kp pen => ?_⟩
    (repeat (first | (refine ⟨_, rfl, ?_⟩) | (refine ⟨_, _, rfl, rfl, ?_⟩) | (refine ⟨_, _, _, _, rfl, rfl, SqL.of (by assumption), (by rfl), ?_⟩) | (refine ⟨_, _, _, _, rfl, rfl, (by assumption), (by rfl), ?_⟩) | (refine ⟨_, _, _, _, rfl, rfl, SqL.of (by assumption), (by assumption), ?_⟩) | (refine ⟨_, _, rfl, .inl (SqL.of (by assumption)), ?_⟩) | (refine ⟨_, _, _, _, _, rfl, (by assumption), (by assumption), (by assumption), (by rfl), ?_⟩) | (refine ⟨_, _, _, _, rfl, (by assumption), (by assumption), (by assumption), (by decide), ?_⟩) | (refine And.intro (by first | assumption | rfl | (show (0:Int) < _; omega) | (show CDiv _ _; exact ⟨by omega, by omega⟩) | (show CMul _ _; first | exact .inl ⟨by omega, by omega⟩ | exact .inr ⟨by omega, by omega⟩) | (show CPow _ _; exact ⟨by omega, by omega, by omega⟩) | (show (_ : Nat) ≤ sizeLine; exact Nat.le_of_ble_eq_true rfl)) ?_) ))
    refine ⟨p, c, _, 0, rfl, pen, by decide, by decide, by omega, fun m H2 a0 a1 kp2 pen2 => ?_⟩
    (repeat (first | (refine ⟨_, rfl, ?_⟩) | (refine ⟨_, _, rfl, rfl, ?_⟩) | (refine ⟨_, _, _, _, rfl, rfl, SqL.of (by assumption), (by rfl), ?_⟩) | (refine ⟨_, _, _, _, rfl, rfl, (by assumption), (by rfl), ?_⟩) | (refine ⟨_, _, _, _, rfl, rfl, SqL.of (by assumption), (by assumption), ?_⟩) | (refine ⟨_, _, rfl, .inl (SqL.of (by assumption)), ?_⟩) | (refine ⟨_, _, _, _, _, rfl, (by assumption), (by assumption), (by assumption), (by rfl), ?_⟩) | (refine ⟨_, _, _, _, rfl, (by assumption), (by assumption), (by assumption), (by decide), ?_⟩) | (refine And.intro (by first | assumption | rfl | (show (0:Int) < _; omega) | (show CDiv _ _; exact ⟨by omega, by omega⟩) | (show CMul _ _; first | exact .inl ⟨by omega, by omega⟩ | exact .inr ⟨by omega, by omega⟩) | (show CPow _ _; exact ⟨by omega, by omega, by omega⟩) | (show (_ : Nat) ≤ sizeLine; exact Nat.le_of_ble_eq_true rfl)) ?_) ))
    refine ⟨by omega, by omega, fun D hD => lc_range (lo := 0) (n := (1 + m).toNat) (fun i H' => ∃ zs : List Int, H' D = some (.lst (zs.map V.int)) ∧ zs.length = i ∧ Pen H' p c (1 + 2 * i) ∧ Kp [p] H2 H')
      ⟨[], upd_same, rfl, (pen2.new hD).le (by simp), Kp.new hD⟩ ?_ ?_⟩
    · rintro i H3 hi ⟨zs, hd, hl, pn, kp⟩
      obtain ⟨nep, nec⟩ := pen2.nep hD
      refine ⟨rfl, ?_⟩
      dsimp only [tYes]
      rw [if_pos rfl]
      (repeat (first | (refine ⟨_, rfl, ?_⟩) | (refine ⟨_, _, rfl, rfl, ?_⟩) | (refine ⟨_, _, _, _, rfl, rfl, SqL.of (by assumption), (by rfl), ?_⟩) | (refine ⟨_, _, _, _, rfl, rfl, (by assumption), (by rfl), ?_⟩) | (refine ⟨_, _, _, _, rfl, rfl, SqL.of (by assumption), (by assumption), ?_⟩) | (refine ⟨_, _, rfl, .inl (SqL.of (by assumption)), ?_⟩) | (refine ⟨_, _, _, _, _, rfl, (by assumption), (by assumption), (by assumption), (by rfl), ?_⟩) | (refine ⟨_, _, _, _, rfl, (by assumption), (by assumption), (by assumption), (by decide), ?_⟩) | (refine And.intro (by first | assumption | rfl | (show (0:Int) < _; omega) | (show CDiv _ _; exact ⟨by omega, by omega⟩) | (show CMul _ _; first | exact .inl ⟨by omega, by omega⟩ | exact .inr ⟨by omega, by omega⟩) | (show CPow _ _; exact ⟨by omega, by omega, by omega⟩) | (show (_ : Nat) ≤ sizeLine; exact Nat.le_of_ble_eq_true rfl)) ?_) ))
      refine ⟨p, c, _, rfl, pn, by omega, fun v H4 kp4 pn4 => ?_⟩
      have hd4 := kp4.keep _ _ (not1 nep.symm) hd
      refine ⟨_, hd4, by rw [List.length_map, hl]; exact Nat.lt_of_lt_of_le (Nat.lt_of_lt_of_le hi (show (1 + m).toNat ≤ 8 by omega)) (by decide), zs ++ [v], ?_, by simp [hl], ?_, ?_⟩
      · rw [upd_same]; simp
      · exact (pn4.put nep nec).le (by push_cast; omega)
      · exact (kp.trans kp4).putNew hD (fun xs z => by rw [hd4] at z; cases z)
    · rintro H3 ⟨zs, hd, hl, pn, kp3⟩
      obtain ⟨npD, ncD⟩ := pen2.nep hD
      clear kp kp2 kp3 pen pen2 hD hp ha
      (repeat (first | (refine ⟨_, rfl, ?_⟩) | (refine ⟨_, _, rfl, rfl, ?_⟩) | (refine ⟨_, _, _, _, rfl, rfl, SqL.of (by assumption), (by rfl), ?_⟩) | (refine ⟨_, _, _, _, rfl, rfl, (by assumption), (by rfl), ?_⟩) | (refine ⟨_, _, _, _, rfl, rfl, SqL.of (by assumption), (by assumption), ?_⟩) | (refine ⟨_, _, rfl, .inl (SqL.of (by assumption)), ?_⟩) | (refine ⟨_, _, _, _, _, rfl, (by assumption), (by assumption), (by assumption), (by rfl), ?_⟩) | (refine ⟨_, _, _, _, rfl, (by assumption), (by assumption), (by assumption), (by decide), ?_⟩) | (refine And.intro (by first | assumption | rfl | (show (0:Int) < _; omega) | (show CDiv _ _; exact ⟨by omega, by omega⟩) | (show CMul _ _; first | exact .inl ⟨by omega, by omega⟩ | exact .inr ⟨by omega, by omega⟩) | (show CPow _ _; exact ⟨by omega, by omega, by omega⟩) | (show (_ : Nat) ≤ sizeLine; exact Nat.le_of_ble_eq_true rfl)) ?_) ))
      (intro l hl; have npl := pn.nep hl; have nDl := ne_of_none hd hl; generalize eH : upd H3 l _ = H4; have k12 : Kp [] H3 H4 := eH ▸ Kp.new hl; replace hl := (congrFun eH.symm l).trans upd_same; clear eH; replace hd := k12.same _ _ hd; replace pn := Pen.same k12 pn; clear k12)
      (repeat (first | (refine ⟨_, rfl, ?_⟩) | (refine ⟨_, _, rfl, rfl, ?_⟩) | (refine ⟨_, _, _, _, rfl, rfl, SqL.of (by assumption), (by rfl), ?_⟩) | (refine ⟨_, _, _, _, rfl, rfl, (by assumption), (by rfl), ?_⟩) | (refine ⟨_, _, _, _, rfl, rfl, SqL.of (by assumption), (by assumption), ?_⟩) | (refine ⟨_, _, rfl, .inl (SqL.of (by assumption)), ?_⟩) | (refine ⟨_, _, _, _, _, rfl, (by assumption), (by assumption), (by assumption), (by rfl), ?_⟩) | (refine ⟨_, _, _, _, rfl, (by assumption), (by assumption), (by assumption), (by decide), ?_⟩) | (refine And.intro (by first | assumption | rfl | (show (0:Int) < _; omega) | (show CDiv _ _; exact ⟨by omega, by omega⟩) | (show CMul _ _; first | exact .inl ⟨by omega, by omega⟩ | exact .inr ⟨by omega, by omega⟩) | (show CPow _ _; exact ⟨by omega, by omega, by omega⟩) | (show (_ : Nat) ≤ sizeLine; exact Nat.le_of_ble_eq_true rfl)) ?_) ))
      (intro x1 d1 nx1 nd1 nex1; generalize eH : upd (upd H4 d1 _) x1 _ = H5; have k12 : Kp [] H4 H5 := eH ▸ Kp.made nx1 nd1; have hx1 := (congrFun eH.symm x1).trans upd_same; clear eH; replace hd := k12.same _ _ hd; replace pn := Pen.same k12 pn; replace hl := k12.same _ _ hl; clear k12)
      refine ⟨x1, l, d1, _, rfl, hx1, hl, fun m1 H6 nm1 h1 hm1 k56 => ⟨rfl, ?_⟩⟩
      obtain ⟨npm1, ncm1⟩ := pn.nep nm1
      have nlm1 := ne_of_none hl nm1
      replace pn := pn.ins hx1 k56
      (replace hd := k56.keep _ _ (not1 (ne_of hd hx1 (by intro q; cases q))) hd; replace hl := k56.keep _ _ (not1 (ne_of hl hx1 (by intro q; cases q))) hl)
      clear k56 nm1 nx1 nd1 nex1 hx1
      (repeat (first | (refine ⟨_, rfl, ?_⟩) | (refine ⟨_, _, rfl, rfl, ?_⟩) | (refine ⟨_, _, _, _, rfl, rfl, SqL.of (by assumption), (by rfl), ?_⟩) | (refine ⟨_, _, _, _, rfl, rfl, (by assumption), (by rfl), ?_⟩) | (refine ⟨_, _, _, _, rfl, rfl, SqL.of (by assumption), (by assumption), ?_⟩) | (refine ⟨_, _, rfl, .inl (SqL.of (by assumption)), ?_⟩) | (refine ⟨_, _, _, _, _, rfl, (by assumption), (by assumption), (by assumption), (by rfl), ?_⟩) | (refine ⟨_, _, _, _, rfl, (by assumption), (by assumption), (by assumption), (by decide), ?_⟩) | (refine And.intro (by first | assumption | rfl | (show (0:Int) < _; omega) | (show CDiv _ _; exact ⟨by omega, by omega⟩) | (show CMul _ _; first | exact .inl ⟨by omega, by omega⟩ | exact .inr ⟨by omega, by omega⟩) | (show CPow _ _; exact ⟨by omega, by omega, by omega⟩) | (show (_ : Nat) ≤ sizeLine; exact Nat.le_of_ble_eq_true rfl)) ?_) ))
      (intro x2 d2 nx2 nd2 nex2; generalize eH : upd (upd H6 d2 _) x2 _ = H7; have k12 : Kp [] H6 H7 := eH ▸ Kp.made nx2 nd2; have hx2 := (congrFun eH.symm x2).trans upd_same; clear eH; replace hd := k12.same _ _ hd; replace pn := Pen.same k12 pn; replace hl := k12.same _ _ hl; replace h1 := k12.same _ _ h1; replace hm1 := k12.same _ _ hm1; clear k12)
      refine ⟨x2, l, d2, _, rfl, hx2, hl, fun m2 H8 nm2 h2 hm2 k78 => ⟨rfl, ?_⟩⟩
      obtain ⟨npm2, ncm2⟩ := pn.nep nm2
      have nlm2 := ne_of_none hl nm2
      have nx12 : x1 ≠ x2 := ne_of h1 hx2 (by intro q; simp at q)
      replace pn := pn.ins hx2 k78
      (replace hd := k78.keep _ _ (not1 (ne_of hd hx2 (by intro q; cases q))) hd; replace hl := k78.keep _ _ (not1 (ne_of hl hx2 (by intro q; cases q))) hl; replace hm1 := k78.keep _ _ (not1 (ne_of hm1 hx2 (by intro q; cases q))) hm1; replace h1 := k78.keep _ _ (not1 nx12) h1)
      clear k78 nm2 nx2 nd2 nex2 hx2
      (repeat (first | (refine ⟨_, rfl, ?_⟩) | (refine ⟨_, _, rfl, rfl, ?_⟩) | (refine ⟨_, _, _, _, rfl, rfl, SqL.of (by assumption), (by rfl), ?_⟩) | (refine ⟨_, _, _, _, rfl, rfl, (by assumption), (by rfl), ?_⟩) | (refine ⟨_, _, _, _, rfl, rfl, SqL.of (by assumption), (by assumption), ?_⟩) | (refine ⟨_, _, rfl, .inl (SqL.of (by assumption)), ?_⟩) | (refine ⟨_, _, _, _, _, rfl, (by assumption), (by assumption), (by assumption), (by rfl), ?_⟩) | (refine ⟨_, _, _, _, rfl, (by assumption), (by assumption), (by assumption), (by decide), ?_⟩) | (refine And.intro (by first | assumption | rfl | (show (0:Int) < _; omega) | (show CDiv _ _; exact ⟨by omega, by omega⟩) | (show CMul _ _; first | exact .inl ⟨by omega, by omega⟩ | exact .inr ⟨by omega, by omega⟩) | (show CPow _ _; exact ⟨by omega, by omega, by omega⟩) | (show (_ : Nat) ≤ sizeLine; exact Nat.le_of_ble_eq_true rfl)) ?_) ))
      refine ⟨.inl ⟨rfl, _, SqL.of hl⟩, l, _, rfl, rfl, hl, ?_⟩
      generalize eH : upd H8 l _ = H9
      have k89 : Kp [l] H8 H9 := eH ▸ Kp.put hl
      have kl := (congrFun eH.symm l).trans upd_same
      replace pn := pn.kp k89 (not1 npl.1) (not1 npl.2)
      (replace hd := k89.keep _ _ (not1 nDl) hd; replace hm1 := k89.keep _ _ (not1 nlm1.symm) hm1; replace hm2 := k89.keep _ _ (not1 nlm2.symm) hm2; replace h1 := k89.keep _ _ (not1 (ne_of h1 hl (by intro q; cases q))) h1; replace h2 := k89.keep _ _ (not1 (ne_of h2 hl (by intro q; cases q))) h2)
      clear k89 eH hl
      (repeat (first | (refine ⟨_, rfl, ?_⟩) | (refine ⟨_, _, rfl, rfl, ?_⟩) | (refine ⟨_, _, _, _, rfl, rfl, SqL.of (by assumption), (by rfl), ?_⟩) | (refine ⟨_, _, _, _, rfl, rfl, (by assumption), (by rfl), ?_⟩) | (refine ⟨_, _, _, _, rfl, rfl, SqL.of (by assumption), (by assumption), ?_⟩) | (refine ⟨_, _, rfl, .inl (SqL.of (by assumption)), ?_⟩) | (refine ⟨_, _, _, _, _, rfl, (by assumption), (by assumption), (by assumption), (by rfl), ?_⟩) | (refine ⟨_, _, _, _, rfl, (by assumption), (by assumption), (by assumption), (by decide), ?_⟩) | (refine And.intro (by first | assumption | rfl | (show (0:Int) < _; omega) | (show CDiv _ _; exact ⟨by omega, by omega⟩) | (show CMul _ _; first | exact .inl ⟨by omega, by omega⟩ | exact .inr ⟨by omega, by omega⟩) | (show CPow _ _; exact ⟨by omega, by omega, by omega⟩) | (show (_ : Nat) ≤ sizeLine; exact Nat.le_of_ble_eq_true rfl)) ?_) ))
      refine ⟨.inl ⟨rfl, _, SqL.of kl⟩, l, _, _, rfl, rfl, kl, by decide, ?_⟩
      generalize eH : upd H9 l _ = HA
      have k9A : Kp [l] H9 HA := eH ▸ Kp.put kl
      replace pn := pn.kp k9A (not1 npl.1) (not1 npl.2)
      (replace hd := k9A.keep _ _ (not1 nDl) hd; replace hm1 := k9A.keep _ _ (not1 nlm1.symm) hm1; replace hm2 := k9A.keep _ _ (not1 nlm2.symm) hm2; replace h1 := k9A.keep _ _ (not1 (ne_of h1 kl (by intro q; cases q))) h1; replace h2 := k9A.keep _ _ (not1 (ne_of h2 kl (by intro q; cases q))) h2)
      clear k9A eH kl
      (repeat (first | (refine ⟨_, rfl, ?_⟩) | (refine ⟨_, _, rfl, rfl, ?_⟩) | (refine ⟨_, _, _, _, rfl, rfl, SqL.of (by assumption), (by rfl), ?_⟩) | (refine ⟨_, _, _, _, rfl, rfl, (by assumption), (by rfl), ?_⟩) | (refine ⟨_, _, _, _, rfl, rfl, SqL.of (by assumption), (by assumption), ?_⟩) | (refine ⟨_, _, rfl, .inl (SqL.of (by assumption)), ?_⟩) | (refine ⟨_, _, _, _, _, rfl, (by assumption), (by assumption), (by assumption), (by rfl), ?_⟩) | (refine ⟨_, _, _, _, rfl, (by assumption), (by assumption), (by assumption), (by decide), ?_⟩) | (refine And.intro (by first | assumption | rfl | (show (0:Int) < _; omega) | (show CDiv _ _; exact ⟨by omega, by omega⟩) | (show CMul _ _; first | exact .inl ⟨by omega, by omega⟩ | exact .inr ⟨by omega, by omega⟩) | (show CPow _ _; exact ⟨by omega, by omega, by omega⟩) | (show (_ : Nat) ≤ sizeLine; exact Nat.le_of_ble_eq_true rfl)) ?_) ))
      (intro f1 e1 nf1 ne1 nef1; generalize eH : upd (upd HA e1 _) f1 _ = HB; have k12 : Kp [] HA HB := eH ▸ Kp.made nf1 ne1; have hf1 := (congrFun eH.symm f1).trans upd_same; clear eH; replace hd := k12.same _ _ hd; replace pn := Pen.same k12 pn; replace h1 := k12.same _ _ h1; replace h2 := k12.same _ _ h2; replace hm1 := k12.same _ _ hm1; replace hm2 := k12.same _ _ hm2; clear k12)
      (repeat (first | (refine ⟨_, rfl, ?_⟩) | (refine ⟨_, _, rfl, rfl, ?_⟩) | (refine ⟨_, _, _, _, rfl, rfl, SqL.of (by assumption), (by rfl), ?_⟩) | (refine ⟨_, _, _, _, rfl, rfl, (by assumption), (by rfl), ?_⟩) | (refine ⟨_, _, _, _, rfl, rfl, SqL.of (by assumption), (by assumption), ?_⟩) | (refine ⟨_, _, rfl, .inl (SqL.of (by assumption)), ?_⟩) | (refine ⟨_, _, _, _, _, rfl, (by assumption), (by assumption), (by assumption), (by rfl), ?_⟩) | (refine ⟨_, _, _, _, rfl, (by assumption), (by assumption), (by assumption), (by decide), ?_⟩) | (refine And.intro (by first | assumption | rfl | (show (0:Int) < _; omega) | (show CDiv _ _; exact ⟨by omega, by omega⟩) | (show CMul _ _; first | exact .inl ⟨by omega, by omega⟩ | exact .inr ⟨by omega, by omega⟩) | (show CPow _ _; exact ⟨by omega, by omega, by omega⟩) | (show (_ : Nat) ≤ sizeLine; exact Nat.le_of_ble_eq_true rfl)) ?_) ))
      (intro g1 e2 ng1 ne2 neg1; generalize eH : upd (upd HB e2 _) g1 _ = HC; have k12 : Kp [] HB HC := eH ▸ Kp.made ng1 ne2; have hg1 := (congrFun eH.symm g1).trans upd_same; clear eH; replace hd := k12.same _ _ hd; replace pn := Pen.same k12 pn; replace h1 := k12.same _ _ h1; replace h2 := k12.same _ _ h2; replace hm1 := k12.same _ _ hm1; replace hm2 := k12.same _ _ hm2; replace hf1 := k12.same _ _ hf1; clear k12)
      (repeat (first | (refine ⟨_, rfl, ?_⟩) | (refine ⟨_, _, rfl, rfl, ?_⟩) | (refine ⟨_, _, _, _, rfl, rfl, SqL.of (by assumption), (by rfl), ?_⟩) | (refine ⟨_, _, _, _, rfl, rfl, (by assumption), (by rfl), ?_⟩) | (refine ⟨_, _, _, _, rfl, rfl, SqL.of (by assumption), (by assumption), ?_⟩) | (refine ⟨_, _, rfl, .inl (SqL.of (by assumption)), ?_⟩) | (refine ⟨_, _, _, _, _, rfl, (by assumption), (by assumption), (by assumption), (by rfl), ?_⟩) | (refine ⟨_, _, _, _, rfl, (by assumption), (by assumption), (by assumption), (by decide), ?_⟩) | (refine And.intro (by first | assumption | rfl | (show (0:Int) < _; omega) | (show CDiv _ _; exact ⟨by omega, by omega⟩) | (show CMul _ _; first | exact .inl ⟨by omega, by omega⟩ | exact .inr ⟨by omega, by omega⟩) | (show CPow _ _; exact ⟨by omega, by omega, by omega⟩) | (show (_ : Nat) ≤ sizeLine; exact Nat.le_of_ble_eq_true rfl)) ?_) ))
      (intro cl hcl; have npl2 := pn.nep hcl; have nDc := ne_of_none hd hcl; have nm1c := ne_of_none hm1 hcl; have nm2c := ne_of_none hm2 hcl; generalize eH : upd HC cl _ = HD; have k12 : Kp [] HC HD := eH ▸ Kp.new hcl; replace hcl := (congrFun eH.symm cl).trans upd_same; clear eH; replace hd := k12.same _ _ hd; replace pn := Pen.same k12 pn; replace h1 := k12.same _ _ h1; replace h2 := k12.same _ _ h2; replace hm1 := k12.same _ _ hm1; replace hm2 := k12.same _ _ hm2; replace hf1 := k12.same _ _ hf1; replace hg1 := k12.same _ _ hg1; clear k12)
      obtain ⟨A', eA⟩ : ∃ A' : Ad, A' = ⟨D, x1, d1, m1, x2, d2, m2, f1, e1, g1, e2, cl, p, c⟩ := ⟨_, rfl⟩
      have ds : Ds A' := by subst eA; exact ⟨npD, npm1, npm2, npl2.1, npl2.2, nDc, nm1c, nm2c, nx12⟩
      have rs : Rs CF CL CD A' zs 0 0 0 0 (1 + 2 * (1 + m).toNat) HD := by subst eA; exact ⟨pn, hcl, hd, h1, h2, hm1, hm2, hf1, hg1⟩
      have e1' : D = A'.D ∧ x1 = A'.x1 ∧ x2 = A'.x2 ∧ f1 = A'.f1 ∧ g1 = A'.g1 ∧ cl = A'.cl ∧ p = A'.p := by subst eA; exact ⟨rfl, rfl, rfl, rfl, rfl, rfl, rfl⟩
      obtain ⟨rfl, rfl, rfl, rfl, rfl, rfl, rfl⟩ := e1'
      clear eA pn hcl hd h1 h2 hm1 hm2 hf1 hg1 npD npm1 npm2 npl2 nDc nm1c nm2c nx12 ncm1 ncm2 ncD npl nDl nlm1 nlm2 nf1 ne1 nef1 ng1 ne2 neg1
      have hzs : 0 < zs.length := by omega
      (repeat (first | (refine ⟨_, rfl, ?_⟩) | (refine ⟨_, _, rfl, rfl, ?_⟩) | (refine ⟨_, _, _, _, rfl, rfl, SqL.of (by assumption), (by rfl), ?_⟩) | (refine ⟨_, _, _, _, rfl, rfl, (by assumption), (by rfl), ?_⟩) | (refine ⟨_, _, _, _, rfl, rfl, SqL.of (by assumption), (by assumption), ?_⟩) | (refine ⟨_, _, rfl, .inl (SqL.of (by assumption)), ?_⟩) | (refine ⟨_, _, _, _, _, rfl, (by assumption), (by assumption), (by assumption), (by rfl), ?_⟩) | (refine ⟨_, _, _, _, rfl, (by assumption), (by assumption), (by assumption), (by decide), ?_⟩) | (refine And.intro (by first | assumption | rfl | (show (0:Int) < _; omega) | (show CDiv _ _; exact ⟨by omega, by omega⟩) | (show CMul _ _; first | exact .inl ⟨by omega, by omega⟩ | exact .inr ⟨by omega, by omega⟩) | (show CPow _ _; exact ⟨by omega, by omega, by omega⟩) | (show (_ : Nat) ≤ sizeLine; exact Nat.le_of_ble_eq_true rfl)) ?_) ))
      refine ⟨by decide, by decide, for_range (lo := 0) (n := 12) (fun i σ H' => ∃ (t9 t10 t11 t12 t13 t14 : Option V) (z1 z2 : Int), σ = [some (V.ref a), some (V.ref A'.p), some (V.ref A'.D), some (V.ref l), some (V.ref A'.x1), some (V.ref A'.x2), some (V.ref A'.f1), some (V.ref A'.g1), some (V.ref A'.cl), t9, t10, t11, t12, t13, t14] ∧
        Rs CF CL CD A' zs z1 z2 z1 z2 (11 + 30 * i) H') ⟨none, none, none, none, none, none, 0, 0, rfl, { rs with pn := rs.pn.le (by omega) }⟩ ?_ ?_⟩
      · rintro i σ HE hi ⟨t9, t10, t11, t12, t13, t14, z1, z2, rfl, re⟩
        (repeat (first | (refine ⟨_, rfl, ?_⟩) | (refine ⟨_, _, rfl, rfl, ?_⟩) | (refine ⟨_, _, _, _, rfl, rfl, SqL.of (by assumption), (by rfl), ?_⟩) | (refine ⟨_, _, _, _, rfl, rfl, (by assumption), (by rfl), ?_⟩) | (refine ⟨_, _, _, _, rfl, rfl, SqL.of (by assumption), (by assumption), ?_⟩) | (refine ⟨_, _, rfl, .inl (SqL.of (by assumption)), ?_⟩) | (refine ⟨_, _, _, _, _, rfl, (by assumption), (by assumption), (by assumption), (by rfl), ?_⟩) | (refine ⟨_, _, _, _, rfl, (by assumption), (by assumption), (by assumption), (by decide), ?_⟩) | (refine And.intro (by first | assumption | rfl | (show (0:Int) < _; omega) | (show CDiv _ _; exact ⟨by omega, by omega⟩) | (show CMul _ _; first | exact .inl ⟨by omega, by omega⟩ | exact .inr ⟨by omega, by omega⟩) | (show CPow _ _; exact ⟨by omega, by omega, by omega⟩) | (show (_ : Nat) ≤ sizeLine; exact Nat.le_of_ble_eq_true rfl)) ?_) ))
        refine ⟨A'.p, A'.c, _, rfl, re.pn, by omega, fun ml ks HF hml kF' pnF mv => ?_⟩
        have rF := re.pen ds kF' pnF
        obtain ⟨hm', tu, nk, l64⟩ := id mv
        obtain ⟨npm, ncm⟩ := re.pn.nep hml
        have nclm := ne_of_none re.hcl hml
        have kpos : 0 < ks.length := List.length_pos_iff.mpr nk
        obtain ⟨q0, hq0, e0⟩ := at_ks (ks := ks) (z := 0) (by omega) (by omega)
        obtain ⟨qL, hqL, eL⟩ := at_last nk
        clear kF' mv re hml
        (repeat (first | (refine ⟨_, rfl, ?_⟩) | (refine ⟨_, _, rfl, rfl, ?_⟩) | (refine ⟨_, _, _, _, rfl, rfl, SqL.of (by assumption), (by rfl), ?_⟩) | (refine ⟨_, _, _, _, rfl, rfl, (by assumption), (by rfl), ?_⟩) | (refine ⟨_, _, _, _, rfl, rfl, SqL.of (by assumption), (by assumption), ?_⟩) | (refine ⟨_, _, rfl, .inl (SqL.of (by assumption)), ?_⟩) | (refine ⟨_, _, _, _, _, rfl, (by assumption), (by assumption), (by assumption), (by rfl), ?_⟩) | (refine ⟨_, _, _, _, rfl, (by assumption), (by assumption), (by assumption), (by decide), ?_⟩) | (refine And.intro (by first | assumption | rfl | (show (0:Int) < _; omega) | (show CDiv _ _; exact ⟨by omega, by omega⟩) | (show CMul _ _; first | exact .inl ⟨by omega, by omega⟩ | exact .inr ⟨by omega, by omega⟩) | (show CPow _ _; exact ⟨by omega, by omega, by omega⟩) | (show (_ : Nat) ≤ sizeLine; exact Nat.le_of_ble_eq_true rfl)) ?_) ))
        refine ⟨ml, dMv ks, rfl, .lst (SqL.of hm') (dpMv tu), (dMv_ok tu l64).1, (dMv_ok tu l64).2.1, (dMv_ok tu l64).2.2, ?_⟩
        refine ⟨fun σ' H' => σ' = [some (V.ref a), some (V.ref A'.p), some (V.ref A'.D), some (V.ref l), some (V.ref A'.x1), some (V.ref A'.x2), some (V.ref A'.f1), some (V.ref A'.g1), some (V.ref A'.cl), some (V.int (0 + i)), some (V.ref ml), some (V.str (dMv ks).shown), t12, t13, t14] ∧ H' = HF, ?_, ?_⟩
        · (repeat (first | (refine ⟨_, rfl, ?_⟩) | (refine ⟨_, _, rfl, rfl, ?_⟩) | (refine ⟨_, _, _, _, rfl, rfl, SqL.of (by assumption), (by rfl), ?_⟩) | (refine ⟨_, _, _, _, rfl, rfl, (by assumption), (by rfl), ?_⟩) | (refine ⟨_, _, _, _, rfl, rfl, SqL.of (by assumption), (by assumption), ?_⟩) | (refine ⟨_, _, rfl, .inl (SqL.of (by assumption)), ?_⟩) | (refine ⟨_, _, _, _, _, rfl, (by assumption), (by assumption), (by assumption), (by rfl), ?_⟩) | (refine ⟨_, _, _, _, rfl, (by assumption), (by assumption), (by assumption), (by decide), ?_⟩) | (refine And.intro (by first | assumption | rfl | (show (0:Int) < _; omega) | (show CDiv _ _; exact ⟨by omega, by omega⟩) | (show CMul _ _; first | exact .inl ⟨by omega, by omega⟩ | exact .inr ⟨by omega, by omega⟩) | (show CPow _ _; exact ⟨by omega, by omega, by omega⟩) | (show (_ : Nat) ≤ sizeLine; exact Nat.le_of_ble_eq_true rfl)) ?_) ))
          refine ⟨⟨_, _, rF.hf⟩, _, ml, _, _, rfl, hm', e0, ?_⟩
          (repeat (first | (refine ⟨_, rfl, ?_⟩) | (refine ⟨_, _, rfl, rfl, ?_⟩) | (refine ⟨_, _, _, _, rfl, rfl, SqL.of (by assumption), (by rfl), ?_⟩) | (refine ⟨_, _, _, _, rfl, rfl, (by assumption), (by rfl), ?_⟩) | (refine ⟨_, _, _, _, rfl, rfl, SqL.of (by assumption), (by assumption), ?_⟩) | (refine ⟨_, _, rfl, .inl (SqL.of (by assumption)), ?_⟩) | (refine ⟨_, _, _, _, _, rfl, (by assumption), (by assumption), (by assumption), (by rfl), ?_⟩) | (refine ⟨_, _, _, _, rfl, (by assumption), (by assumption), (by assumption), (by decide), ?_⟩) | (refine And.intro (by first | assumption | rfl | (show (0:Int) < _; omega) | (show CDiv _ _; exact ⟨by omega, by omega⟩) | (show CMul _ _; first | exact .inl ⟨by omega, by omega⟩ | exact .inr ⟨by omega, by omega⟩) | (show CPow _ _; exact ⟨by omega, by omega, by omega⟩) | (show (_ : Nat) ≤ sizeLine; exact Nat.le_of_ble_eq_true rfl)) ?_) ))
          refine ⟨_, _, q0.2, q0.2, rfl, rfl, SqT.of (tu q0 hq0).1, SqT.of (tu q0 hq0).1, _, rfl, ?_⟩
          refine ite2 (fun h => absurd h (by simp)) (fun _ => ?_)
          (repeat (first | (refine ⟨_, rfl, ?_⟩) | (refine ⟨_, _, rfl, rfl, ?_⟩) | (refine ⟨_, _, _, _, rfl, rfl, SqL.of (by assumption), (by rfl), ?_⟩) | (refine ⟨_, _, _, _, rfl, rfl, (by assumption), (by rfl), ?_⟩) | (refine ⟨_, _, _, _, rfl, rfl, SqL.of (by assumption), (by assumption), ?_⟩) | (refine ⟨_, _, rfl, .inl (SqL.of (by assumption)), ?_⟩) | (refine ⟨_, _, _, _, _, rfl, (by assumption), (by assumption), (by assumption), (by rfl), ?_⟩) | (refine ⟨_, _, _, _, rfl, (by assumption), (by assumption), (by assumption), (by decide), ?_⟩) | (refine And.intro (by first | assumption | rfl | (show (0:Int) < _; omega) | (show CDiv _ _; exact ⟨by omega, by omega⟩) | (show CMul _ _; first | exact .inl ⟨by omega, by omega⟩ | exact .inr ⟨by omega, by omega⟩) | (show CPow _ _; exact ⟨by omega, by omega, by omega⟩) | (show (_ : Nat) ≤ sizeLine; exact Nat.le_of_ble_eq_true rfl)) ?_) ))
          refine ⟨⟨_, _, rF.hg⟩, _, ml, _, _, rfl, hm', eL, ?_⟩
          (repeat (first | (refine ⟨_, rfl, ?_⟩) | (refine ⟨_, _, rfl, rfl, ?_⟩) | (refine ⟨_, _, _, _, rfl, rfl, SqL.of (by assumption), (by rfl), ?_⟩) | (refine ⟨_, _, _, _, rfl, rfl, (by assumption), (by rfl), ?_⟩) | (refine ⟨_, _, _, _, rfl, rfl, SqL.of (by assumption), (by assumption), ?_⟩) | (refine ⟨_, _, rfl, .inl (SqL.of (by assumption)), ?_⟩) | (refine ⟨_, _, _, _, _, rfl, (by assumption), (by assumption), (by assumption), (by rfl), ?_⟩) | (refine ⟨_, _, _, _, rfl, (by assumption), (by assumption), (by assumption), (by decide), ?_⟩) | (refine And.intro (by first | assumption | rfl | (show (0:Int) < _; omega) | (show CDiv _ _; exact ⟨by omega, by omega⟩) | (show CMul _ _; first | exact .inl ⟨by omega, by omega⟩ | exact .inr ⟨by omega, by omega⟩) | (show CPow _ _; exact ⟨by omega, by omega, by omega⟩) | (show (_ : Nat) ≤ sizeLine; exact Nat.le_of_ble_eq_true rfl)) ?_) ))
          refine ⟨_, _, qL.2, qL.2, rfl, rfl, SqT.of (tu qL hqL).1, SqT.of (tu qL hqL).1, _, rfl, ?_⟩
          refine ite2 (fun h => absurd h (by simp)) (fun _ => ?_)
          exact ⟨rfl, rfl⟩
        · rintro _ _ ⟨rfl, rfl⟩
          (repeat (first | (refine ⟨_, rfl, ?_⟩) | (refine ⟨_, _, rfl, rfl, ?_⟩) | (refine ⟨_, _, _, _, rfl, rfl, SqL.of (by assumption), (by rfl), ?_⟩) | (refine ⟨_, _, _, _, rfl, rfl, (by assumption), (by rfl), ?_⟩) | (refine ⟨_, _, _, _, rfl, rfl, SqL.of (by assumption), (by assumption), ?_⟩) | (refine ⟨_, _, rfl, .inl (SqL.of (by assumption)), ?_⟩) | (refine ⟨_, _, _, _, _, rfl, (by assumption), (by assumption), (by assumption), (by rfl), ?_⟩) | (refine ⟨_, _, _, _, rfl, (by assumption), (by assumption), (by assumption), (by decide), ?_⟩) | (refine And.intro (by first | assumption | rfl | (show (0:Int) < _; omega) | (show CDiv _ _; exact ⟨by omega, by omega⟩) | (show CMul _ _; first | exact .inl ⟨by omega, by omega⟩ | exact .inr ⟨by omega, by omega⟩) | (show CPow _ _; exact ⟨by omega, by omega, by omega⟩) | (show (_ : Nat) ≤ sizeLine; exact Nat.le_of_ble_eq_true rfl)) ?_) ))
          refine ⟨A'.p, A'.c, _, _, rfl, rF.pn, by decide, by decide, by omega, fun d HG g0 g1 kG pnG => ?_⟩
          have rG := rF.pen ds kG pnG
          have hmG := kG.keep _ _ (not1 npm.symm) hm'
          have tuG := tu.kp kG
          (repeat (first | (refine ⟨_, rfl, ?_⟩) | (refine ⟨_, _, rfl, rfl, ?_⟩) | (refine ⟨_, _, _, _, rfl, rfl, SqL.of (by assumption), (by rfl), ?_⟩) | (refine ⟨_, _, _, _, rfl, rfl, (by assumption), (by rfl), ?_⟩) | (refine ⟨_, _, _, _, rfl, rfl, SqL.of (by assumption), (by assumption), ?_⟩) | (refine ⟨_, _, rfl, .inl (SqL.of (by assumption)), ?_⟩) | (refine ⟨_, _, _, _, _, rfl, (by assumption), (by assumption), (by assumption), (by rfl), ?_⟩) | (refine ⟨_, _, _, _, rfl, (by assumption), (by assumption), (by assumption), (by decide), ?_⟩) | (refine And.intro (by first | assumption | rfl | (show (0:Int) < _; omega) | (show CDiv _ _; exact ⟨by omega, by omega⟩) | (show CMul _ _; first | exact .inl ⟨by omega, by omega⟩ | exact .inr ⟨by omega, by omega⟩) | (show CPow _ _; exact ⟨by omega, by omega, by omega⟩) | (show (_ : Nat) ≤ sizeLine; exact Nat.le_of_ble_eq_true rfl)) ?_) ))
          obtain ⟨b, eb, b0, b1⟩ : ∃ b : Int, b = (1 + if decide (V.int d = V.int 0) = true then 1 else 0) ∧ 0 ≤ b ∧ b ≤ 2 := ⟨_, rfl, by split <;> omega, by split <;> omega⟩
          rw [← eb]
          refine ⟨by omega, by omega, for_range (lo := 0) (n := b.toNat) (fun j σ H' => ∃ (t12 t13 t14 : Option V) (z1 z2 : Int), σ = [some (V.ref a), some (V.ref A'.p), some (V.ref A'.D), some (V.ref l), some (V.ref A'.x1), some (V.ref A'.x2), some (V.ref A'.f1), some (V.ref A'.g1), some (V.ref A'.cl), some (V.int (0 + i)), some (V.ref ml), some (V.str (dMv ks).shown), t12, t13, t14] ∧
            Rs CF CL CD A' zs z1 z2 z1 z2 (11 + 30 * i + 26) H' ∧ H' ml = some (.lst (ks.map fun q => V.ref q.1)) ∧ Tups H' ks) ⟨_, _, _, z1, z2, rfl, { rG with pn := rG.pn.le (by omega) }, hmG, tuG⟩ ?_ ?_⟩
          · clear rG hmG tuG rF hm' tu pnF pnG z1 z2 t12 t13 t14
            rintro j σ HI hj ⟨t12, t13, t14, z1, z2, rfl, rI, hmI, tuI⟩
            have zpos : (0 : Int) < ((zs.map V.int).length : Nat) := by rw [List.length_map]; omega
            have hdI := rI.hd
            have hclI := rI.hcl
            rcases (by omega : j = 0 ∨ j = 1) with rfl | rfl
            · obtain ⟨nv, env⟩ := atI_ints (cs := zs) (z := z1 % ((zs.map V.int).length : Nat)) (mod_lt' zpos).1 (by have := (mod_lt' (a := z1) zpos).2; simpa using this)
              (repeat (first | (refine ⟨_, rfl, ?_⟩) | (refine ⟨_, _, rfl, rfl, ?_⟩) | (refine ⟨_, _, _, _, rfl, rfl, SqL.of (by assumption), (by rfl), ?_⟩) | (refine ⟨_, _, _, _, rfl, rfl, (by assumption), (by rfl), ?_⟩) | (refine ⟨_, _, _, _, rfl, rfl, SqL.of (by assumption), (by assumption), ?_⟩) | (refine ⟨_, _, rfl, .inl (SqL.of (by assumption)), ?_⟩) | (refine ⟨_, _, _, _, _, rfl, (by assumption), (by assumption), (by assumption), (by rfl), ?_⟩) | (refine ⟨_, _, _, _, rfl, (by assumption), (by assumption), (by assumption), (by decide), ?_⟩) | (refine And.intro (by first | assumption | rfl | (show (0:Int) < _; omega) | (show CDiv _ _; exact ⟨by omega, by omega⟩) | (show CMul _ _; first | exact .inl ⟨by omega, by omega⟩ | exact .inr ⟨by omega, by omega⟩) | (show CPow _ _; exact ⟨by omega, by omega, by omega⟩) | (show (_ : Nat) ≤ sizeLine; exact Nat.le_of_ble_eq_true rfl)) ?_) ))
              generalize eH : upd HI A'.cl _ = HJ
              have kJ : Kp [A'.cl] HI HJ := eH ▸ Kp.put hclI
              have hclJ := (congrFun eH.symm A'.cl).trans upd_same
              have rJ := rI.cls ds kJ hclJ
              have hmJ := kJ.keep _ _ (not1 nclm.symm) hmI
              have tuJ := tuI.kp kJ
              clear eH kJ hclJ rI hmI tuI hdI hclI
              (repeat (first | (refine ⟨_, rfl, ?_⟩) | (refine ⟨_, _, rfl, rfl, ?_⟩) | (refine ⟨_, _, _, _, rfl, rfl, SqL.of (by assumption), (by rfl), ?_⟩) | (refine ⟨_, _, _, _, rfl, rfl, (by assumption), (by rfl), ?_⟩) | (refine ⟨_, _, _, _, rfl, rfl, SqL.of (by assumption), (by assumption), ?_⟩) | (refine ⟨_, _, rfl, .inl (SqL.of (by assumption)), ?_⟩) | (refine ⟨_, _, _, _, _, rfl, (by assumption), (by assumption), (by assumption), (by rfl), ?_⟩) | (refine ⟨_, _, _, _, rfl, (by assumption), (by assumption), (by assumption), (by decide), ?_⟩) | (refine And.intro (by first | assumption | rfl | (show (0:Int) < _; omega) | (show CDiv _ _; exact ⟨by omega, by omega⟩) | (show CMul _ _; first | exact .inl ⟨by omega, by omega⟩ | exact .inr ⟨by omega, by omega⟩) | (show CPow _ _; exact ⟨by omega, by omega, by omega⟩) | (show (_ : Nat) ≤ sizeLine; exact Nat.le_of_ble_eq_true rfl)) ?_) ))
              intro e he
              have rK := rJ.same (Kp.new (S := []) (o := .lst [V.ref A'.x1, V.ref A'.x2]) he)
              have hmK := (Kp.new (S := []) (o := .lst [V.ref A'.x1, V.ref A'.x2]) he).same _ _ hmJ
              have tuK := tuJ.kp (Kp.new (S := []) (o := .lst [V.ref A'.x1, V.ref A'.x2]) he)
              have heK : upd HJ e (.lst [V.ref A'.x1, V.ref A'.x2]) e = some (.lst [V.ref A'.x1, V.ref A'.x2]) := upd_same
              generalize upd HJ e (.lst [V.ref A'.x1, V.ref A'.x2]) = HK at *
              (repeat (first | (refine ⟨_, rfl, ?_⟩) | (refine ⟨_, _, rfl, rfl, ?_⟩) | (refine ⟨_, _, _, _, rfl, rfl, SqL.of (by assumption), (by rfl), ?_⟩) | (refine ⟨_, _, _, _, rfl, rfl, (by assumption), (by rfl), ?_⟩) | (refine ⟨_, _, _, _, rfl, rfl, SqL.of (by assumption), (by assumption), ?_⟩) | (refine ⟨_, _, rfl, .inl (SqL.of (by assumption)), ?_⟩) | (refine ⟨_, _, _, _, _, rfl, (by assumption), (by assumption), (by assumption), (by rfl), ?_⟩) | (refine ⟨_, _, _, _, rfl, (by assumption), (by assumption), (by assumption), (by decide), ?_⟩) | (refine And.intro (by first | assumption | rfl | (show (0:Int) < _; omega) | (show CDiv _ _; exact ⟨by omega, by omega⟩) | (show CMul _ _; first | exact .inl ⟨by omega, by omega⟩ | exact .inr ⟨by omega, by omega⟩) | (show CPow _ _; exact ⟨by omega, by omega, by omega⟩) | (show (_ : Nat) ≤ sizeLine; exact Nat.le_of_ble_eq_true rfl)) ?_) ))
              have kpos' : (0 : Int) < ((ks.map fun q => V.ref q.1).length : Nat) := by rw [List.length_map]; omega
              obtain ⟨q, hq, eq⟩ := at_ks (ks := ks) (z := nv % ((ks.map fun q => V.ref q.1).length : Nat)) (mod_lt' kpos').1 (by have := (mod_lt' (a := nv) kpos').2; simpa using this)
              refine ⟨⟨_, _, rK.h1⟩, _, ml, _, _, z1, nv, zs, _, _, rfl, rK.h1, rK.hm1, hzs, hmK, by rw [List.length_map]; exact kpos, env, eq, fun HL hL kL => ?_⟩
              have rL := rK.one ds kL hL
              have hmL := kL.keep _ _ (not1 (ne_of hmK rK.h1 (by intro z; cases z))) hmK
              have tuL := tuK.kp kL
              (repeat (first | (refine ⟨_, rfl, ?_⟩) | (refine ⟨_, _, rfl, rfl, ?_⟩) | (refine ⟨_, _, _, _, rfl, rfl, SqL.of (by assumption), (by rfl), ?_⟩) | (refine ⟨_, _, _, _, rfl, rfl, (by assumption), (by rfl), ?_⟩) | (refine ⟨_, _, _, _, rfl, rfl, SqL.of (by assumption), (by assumption), ?_⟩) | (refine ⟨_, _, rfl, .inl (SqL.of (by assumption)), ?_⟩) | (refine ⟨_, _, _, _, _, rfl, (by assumption), (by assumption), (by assumption), (by rfl), ?_⟩) | (refine ⟨_, _, _, _, rfl, (by assumption), (by assumption), (by assumption), (by decide), ?_⟩) | (refine And.intro (by first | assumption | rfl | (show (0:Int) < _; omega) | (show CDiv _ _; exact ⟨by omega, by omega⟩) | (show CMul _ _; first | exact .inl ⟨by omega, by omega⟩ | exact .inr ⟨by omega, by omega⟩) | (show CPow _ _; exact ⟨by omega, by omega, by omega⟩) | (show (_ : Nat) ≤ sizeLine; exact Nat.le_of_ble_eq_true rfl)) ?_) ))
              refine ⟨_, _, q.2, q.2, rfl, rfl, SqT.of (tuL q hq).1, SqT.of (tuL q hq).1, _, rfl, ?_⟩
              refine ite2 (fun h => absurd h (by simp)) (fun _ => ?_)
              exact ⟨_, _, _, _, _, rfl, rL, hmL, tuL⟩
            · obtain ⟨nv, env⟩ := atI_ints (cs := zs) (z := z2 % ((zs.map V.int).length : Nat)) (mod_lt' zpos).1 (by have := (mod_lt' (a := z2) zpos).2; simpa using this)
              (repeat (first | (refine ⟨_, rfl, ?_⟩) | (refine ⟨_, _, rfl, rfl, ?_⟩) | (refine ⟨_, _, _, _, rfl, rfl, SqL.of (by assumption), (by rfl), ?_⟩) | (refine ⟨_, _, _, _, rfl, rfl, (by assumption), (by rfl), ?_⟩) | (refine ⟨_, _, _, _, rfl, rfl, SqL.of (by assumption), (by assumption), ?_⟩) | (refine ⟨_, _, rfl, .inl (SqL.of (by assumption)), ?_⟩) | (refine ⟨_, _, _, _, _, rfl, (by assumption), (by assumption), (by assumption), (by rfl), ?_⟩) | (refine ⟨_, _, _, _, rfl, (by assumption), (by assumption), (by assumption), (by decide), ?_⟩) | (refine And.intro (by first | assumption | rfl | (show (0:Int) < _; omega) | (show CDiv _ _; exact ⟨by omega, by omega⟩) | (show CMul _ _; first | exact .inl ⟨by omega, by omega⟩ | exact .inr ⟨by omega, by omega⟩) | (show CPow _ _; exact ⟨by omega, by omega, by omega⟩) | (show (_ : Nat) ≤ sizeLine; exact Nat.le_of_ble_eq_true rfl)) ?_) ))
              generalize eH : upd HI A'.cl _ = HJ
              have kJ : Kp [A'.cl] HI HJ := eH ▸ Kp.put hclI
              have hclJ := (congrFun eH.symm A'.cl).trans upd_same
              have rJ := rI.cls ds kJ hclJ
              have hmJ := kJ.keep _ _ (not1 nclm.symm) hmI
              have tuJ := tuI.kp kJ
              clear eH kJ hclJ rI hmI tuI hdI hclI
              (repeat (first | (refine ⟨_, rfl, ?_⟩) | (refine ⟨_, _, rfl, rfl, ?_⟩) | (refine ⟨_, _, _, _, rfl, rfl, SqL.of (by assumption), (by rfl), ?_⟩) | (refine ⟨_, _, _, _, rfl, rfl, (by assumption), (by rfl), ?_⟩) | (refine ⟨_, _, _, _, rfl, rfl, SqL.of (by assumption), (by assumption), ?_⟩) | (refine ⟨_, _, rfl, .inl (SqL.of (by assumption)), ?_⟩) | (refine ⟨_, _, _, _, _, rfl, (by assumption), (by assumption), (by assumption), (by rfl), ?_⟩) | (refine ⟨_, _, _, _, rfl, (by assumption), (by assumption), (by assumption), (by decide), ?_⟩) | (refine And.intro (by first | assumption | rfl | (show (0:Int) < _; omega) | (show CDiv _ _; exact ⟨by omega, by omega⟩) | (show CMul _ _; first | exact .inl ⟨by omega, by omega⟩ | exact .inr ⟨by omega, by omega⟩) | (show CPow _ _; exact ⟨by omega, by omega, by omega⟩) | (show (_ : Nat) ≤ sizeLine; exact Nat.le_of_ble_eq_true rfl)) ?_) ))
              intro e he
              have rK := rJ.same (Kp.new (S := []) (o := .lst [V.ref A'.x1, V.ref A'.x2]) he)
              have hmK := (Kp.new (S := []) (o := .lst [V.ref A'.x1, V.ref A'.x2]) he).same _ _ hmJ
              have tuK := tuJ.kp (Kp.new (S := []) (o := .lst [V.ref A'.x1, V.ref A'.x2]) he)
              have heK : upd HJ e (.lst [V.ref A'.x1, V.ref A'.x2]) e = some (.lst [V.ref A'.x1, V.ref A'.x2]) := upd_same
              generalize upd HJ e (.lst [V.ref A'.x1, V.ref A'.x2]) = HK at *
              (repeat (first | (refine ⟨_, rfl, ?_⟩) | (refine ⟨_, _, rfl, rfl, ?_⟩) | (refine ⟨_, _, _, _, rfl, rfl, SqL.of (by assumption), (by rfl), ?_⟩) | (refine ⟨_, _, _, _, rfl, rfl, (by assumption), (by rfl), ?_⟩) | (refine ⟨_, _, _, _, rfl, rfl, SqL.of (by assumption), (by assumption), ?_⟩) | (refine ⟨_, _, rfl, .inl (SqL.of (by assumption)), ?_⟩) | (refine ⟨_, _, _, _, _, rfl, (by assumption), (by assumption), (by assumption), (by rfl), ?_⟩) | (refine ⟨_, _, _, _, rfl, (by assumption), (by assumption), (by assumption), (by decide), ?_⟩) | (refine And.intro (by first | assumption | rfl | (show (0:Int) < _; omega) | (show CDiv _ _; exact ⟨by omega, by omega⟩) | (show CMul _ _; first | exact .inl ⟨by omega, by omega⟩ | exact .inr ⟨by omega, by omega⟩) | (show CPow _ _; exact ⟨by omega, by omega, by omega⟩) | (show (_ : Nat) ≤ sizeLine; exact Nat.le_of_ble_eq_true rfl)) ?_) ))
              have kpos' : (0 : Int) < ((ks.map fun q => V.ref q.1).length : Nat) := by rw [List.length_map]; omega
              obtain ⟨q, hq, eq⟩ := at_ks (ks := ks) (z := nv % ((ks.map fun q => V.ref q.1).length : Nat)) (mod_lt' kpos').1 (by have := (mod_lt' (a := nv) kpos').2; simpa using this)
              refine ⟨⟨_, _, rK.h2⟩, _, ml, _, _, z2, nv, zs, _, _, rfl, rK.h2, rK.hm2, hzs, hmK, by rw [List.length_map]; exact kpos, env, eq, fun HL hL kL => ?_⟩
              have rL := rK.two ds kL hL
              have hmL := kL.keep _ _ (not1 (ne_of hmK rK.h2 (by intro z; cases z))) hmK
              have tuL := tuK.kp kL
              (repeat (first | (refine ⟨_, rfl, ?_⟩) | (refine ⟨_, _, rfl, rfl, ?_⟩) | (refine ⟨_, _, _, _, rfl, rfl, SqL.of (by assumption), (by rfl), ?_⟩) | (refine ⟨_, _, _, _, rfl, rfl, (by assumption), (by rfl), ?_⟩) | (refine ⟨_, _, _, _, rfl, rfl, SqL.of (by assumption), (by assumption), ?_⟩) | (refine ⟨_, _, rfl, .inl (SqL.of (by assumption)), ?_⟩) | (refine ⟨_, _, _, _, _, rfl, (by assumption), (by assumption), (by assumption), (by rfl), ?_⟩) | (refine ⟨_, _, _, _, rfl, (by assumption), (by assumption), (by assumption), (by decide), ?_⟩) | (refine And.intro (by first | assumption | rfl | (show (0:Int) < _; omega) | (show CDiv _ _; exact ⟨by omega, by omega⟩) | (show CMul _ _; first | exact .inl ⟨by omega, by omega⟩ | exact .inr ⟨by omega, by omega⟩) | (show CPow _ _; exact ⟨by omega, by omega, by omega⟩) | (show (_ : Nat) ≤ sizeLine; exact Nat.le_of_ble_eq_true rfl)) ?_) ))
              refine ⟨_, _, q.2, q.2, rfl, rfl, SqT.of (tuL q hq).1, SqT.of (tuL q hq).1, _, rfl, ?_⟩
              refine ite2 (fun h => absurd h (by simp)) (fun _ => ?_)
              exact ⟨_, _, _, _, _, rfl, rL, hmL, tuL⟩
          · rintro σ HI ⟨t12, t13, t14, z1, z2, rfl, rI, hmI, tuI⟩
            (repeat (first | (refine ⟨_, rfl, ?_⟩) | (refine ⟨_, _, rfl, rfl, ?_⟩) | (refine ⟨_, _, _, _, rfl, rfl, SqL.of (by assumption), (by rfl), ?_⟩) | (refine ⟨_, _, _, _, rfl, rfl, (by assumption), (by rfl), ?_⟩) | (refine ⟨_, _, _, _, rfl, rfl, SqL.of (by assumption), (by assumption), ?_⟩) | (refine ⟨_, _, rfl, .inl (SqL.of (by assumption)), ?_⟩) | (refine ⟨_, _, _, _, _, rfl, (by assumption), (by assumption), (by assumption), (by rfl), ?_⟩) | (refine ⟨_, _, _, _, rfl, (by assumption), (by assumption), (by assumption), (by decide), ?_⟩) | (refine And.intro (by first | assumption | rfl | (show (0:Int) < _; omega) | (show CDiv _ _; exact ⟨by omega, by omega⟩) | (show CMul _ _; first | exact .inl ⟨by omega, by omega⟩ | exact .inr ⟨by omega, by omega⟩) | (show CPow _ _; exact ⟨by omega, by omega, by omega⟩) | (show (_ : Nat) ≤ sizeLine; exact Nat.le_of_ble_eq_true rfl)) ?_) ))
            refine ⟨ml, dMv ks, rfl, .lst (SqL.of hmI) (dpMv tuI), (dMv_ok tuI l64).1, (dMv_ok tuI l64).2.1, (dMv_ok tuI l64).2.2, ?_⟩
            (repeat (first | (refine ⟨_, rfl, ?_⟩) | (refine ⟨_, _, rfl, rfl, ?_⟩) | (refine ⟨_, _, _, _, rfl, rfl, SqL.of (by assumption), (by rfl), ?_⟩) | (refine ⟨_, _, _, _, rfl, rfl, (by assumption), (by rfl), ?_⟩) | (refine ⟨_, _, _, _, rfl, rfl, SqL.of (by assumption), (by assumption), ?_⟩) | (refine ⟨_, _, rfl, .inl (SqL.of (by assumption)), ?_⟩) | (refine ⟨_, _, _, _, _, rfl, (by assumption), (by assumption), (by assumption), (by rfl), ?_⟩) | (refine ⟨_, _, _, _, rfl, (by assumption), (by assumption), (by assumption), (by decide), ?_⟩) | (refine And.intro (by first | assumption | rfl | (show (0:Int) < _; omega) | (show CDiv _ _; exact ⟨by omega, by omega⟩) | (show CMul _ _; first | exact .inl ⟨by omega, by omega⟩ | exact .inr ⟨by omega, by omega⟩) | (show CPow _ _; exact ⟨by omega, by omega, by omega⟩) | (show (_ : Nat) ≤ sizeLine; exact Nat.le_of_ble_eq_true rfl)) ?_) ))
            refine ite2 (fun h => absurd h (by simp)) (fun _ => ?_)
            exact ⟨_, _, _, _, _, _, z1, z2, rfl, { rI with pn := rI.pn.le (by push_cast; omega) }⟩
      · rintro σ HE ⟨t9, t10, t11, t12, t13, t14, z1, z2, rfl, re⟩
        (repeat (first | (refine ⟨_, rfl, ?_⟩) | (refine ⟨_, _, rfl, rfl, ?_⟩) | (refine ⟨_, _, _, _, rfl, rfl, SqL.of (by assumption), (by rfl), ?_⟩) | (refine ⟨_, _, _, _, rfl, rfl, (by assumption), (by rfl), ?_⟩) | (refine ⟨_, _, _, _, rfl, rfl, SqL.of (by assumption), (by assumption), ?_⟩) | (refine ⟨_, _, rfl, .inl (SqL.of (by assumption)), ?_⟩) | (refine ⟨_, _, _, _, _, rfl, (by assumption), (by assumption), (by assumption), (by rfl), ?_⟩) | (refine ⟨_, _, _, _, rfl, (by assumption), (by assumption), (by assumption), (by decide), ?_⟩) | (refine And.intro (by first | assumption | rfl | (show (0:Int) < _; omega) | (show CDiv _ _; exact ⟨by omega, by omega⟩) | (show CMul _ _; first | exact .inl ⟨by omega, by omega⟩ | exact .inr ⟨by omega, by omega⟩) | (show CPow _ _; exact ⟨by omega, by omega, by omega⟩) | (show (_ : Nat) ≤ sizeLine; exact Nat.le_of_ble_eq_true rfl)) ?_) ))
        obtain ⟨_, _, _, _, _, _, _, hf, hg⟩ := re
        (intro t ht; generalize eH : upd HE t _ = J1; have k12 : Kp [] HE J1 := eH ▸ Kp.new ht; replace ht := (congrFun eH.symm t).trans upd_same; clear eH; replace hf := k12.same _ _ hf; replace hg := k12.same _ _ hg; clear k12)
        (repeat (first | (refine ⟨_, rfl, ?_⟩) | (refine ⟨_, _, rfl, rfl, ?_⟩) | (refine ⟨_, _, _, _, rfl, rfl, SqL.of (by assumption), (by rfl), ?_⟩) | (refine ⟨_, _, _, _, rfl, rfl, (by assumption), (by rfl), ?_⟩) | (refine ⟨_, _, _, _, rfl, rfl, SqL.of (by assumption), (by assumption), ?_⟩) | (refine ⟨_, _, rfl, .inl (SqL.of (by assumption)), ?_⟩) | (refine ⟨_, _, _, _, _, rfl, (by assumption), (by assumption), (by assumption), (by rfl), ?_⟩) | (refine ⟨_, _, _, _, rfl, (by assumption), (by assumption), (by assumption), (by decide), ?_⟩) | (refine And.intro (by first | assumption | rfl | (show (0:Int) < _; omega) | (show CDiv _ _; exact ⟨by omega, by omega⟩) | (show CMul _ _; first | exact .inl ⟨by omega, by omega⟩ | exact .inr ⟨by omega, by omega⟩) | (show CPow _ _; exact ⟨by omega, by omega, by omega⟩) | (show (_ : Nat) ≤ sizeLine; exact Nat.le_of_ble_eq_true rfl)) ?_) ))
        (intro u hu; generalize eH : upd J1 u _ = J2; have k12 : Kp [] J1 J2 := eH ▸ Kp.new hu; replace hu := (congrFun eH.symm u).trans upd_same; clear eH; replace hf := k12.same _ _ hf; replace hg := k12.same _ _ hg; replace ht := k12.same _ _ ht; clear k12)
        (repeat (first | (refine ⟨_, rfl, ?_⟩) | (refine ⟨_, _, rfl, rfl, ?_⟩) | (refine ⟨_, _, _, _, rfl, rfl, SqL.of (by assumption), (by rfl), ?_⟩) | (refine ⟨_, _, _, _, rfl, rfl, (by assumption), (by rfl), ?_⟩) | (refine ⟨_, _, _, _, rfl, rfl, SqL.of (by assumption), (by assumption), ?_⟩) | (refine ⟨_, _, rfl, .inl (SqL.of (by assumption)), ?_⟩) | (refine ⟨_, _, _, _, _, rfl, (by assumption), (by assumption), (by assumption), (by rfl), ?_⟩) | (refine ⟨_, _, _, _, rfl, (by assumption), (by assumption), (by assumption), (by decide), ?_⟩) | (refine And.intro (by first | assumption | rfl | (show (0:Int) < _; omega) | (show CDiv _ _; exact ⟨by omega, by omega⟩) | (show CMul _ _; first | exact .inl ⟨by omega, by omega⟩ | exact .inr ⟨by omega, by omega⟩) | (show CPow _ _; exact ⟨by omega, by omega, by omega⟩) | (show (_ : Nat) ≤ sizeLine; exact Nat.le_of_ble_eq_true rfl)) ?_) ))
        refine ⟨⟨_, _, hf⟩, _, u, _, _, rfl, hu, (by rfl), ?_⟩
        (repeat (first | (refine ⟨_, rfl, ?_⟩) | (refine ⟨_, _, rfl, rfl, ?_⟩) | (refine ⟨_, _, _, _, rfl, rfl, SqL.of (by assumption), (by rfl), ?_⟩) | (refine ⟨_, _, _, _, rfl, rfl, (by assumption), (by rfl), ?_⟩) | (refine ⟨_, _, _, _, rfl, rfl, SqL.of (by assumption), (by assumption), ?_⟩) | (refine ⟨_, _, rfl, .inl (SqL.of (by assumption)), ?_⟩) | (refine ⟨_, _, _, _, _, rfl, (by assumption), (by assumption), (by assumption), (by rfl), ?_⟩) | (refine ⟨_, _, _, _, rfl, (by assumption), (by assumption), (by assumption), (by decide), ?_⟩) | (refine And.intro (by first | assumption | rfl | (show (0:Int) < _; omega) | (show CDiv _ _; exact ⟨by omega, by omega⟩) | (show CMul _ _; first | exact .inl ⟨by omega, by omega⟩ | exact .inr ⟨by omega, by omega⟩) | (show CPow _ _; exact ⟨by omega, by omega, by omega⟩) | (show (_ : Nat) ≤ sizeLine; exact Nat.le_of_ble_eq_true rfl)) ?_) ))
        (intro v hv; generalize eH : upd J2 v _ = J3; have k12 : Kp [] J2 J3 := eH ▸ Kp.new hv; replace hv := (congrFun eH.symm v).trans upd_same; clear eH; replace hf := k12.same _ _ hf; replace hg := k12.same _ _ hg; replace ht := k12.same _ _ ht; clear k12)
        refine ⟨_, _, [1, 0, 0], [1, 0, 0], rfl, rfl, SqT.of ht, SqT.of hv, _, rfl, ?_⟩
        refine ite2 (fun _ => ?_) (fun h => absurd rfl h)
        clear ht hu hv
        (repeat (first | (refine ⟨_, rfl, ?_⟩) | (refine ⟨_, _, rfl, rfl, ?_⟩) | (refine ⟨_, _, _, _, rfl, rfl, SqL.of (by assumption), (by rfl), ?_⟩) | (refine ⟨_, _, _, _, rfl, rfl, (by assumption), (by rfl), ?_⟩) | (refine ⟨_, _, _, _, rfl, rfl, SqL.of (by assumption), (by assumption), ?_⟩) | (refine ⟨_, _, rfl, .inl (SqL.of (by assumption)), ?_⟩) | (refine ⟨_, _, _, _, _, rfl, (by assumption), (by assumption), (by assumption), (by rfl), ?_⟩) | (refine ⟨_, _, _, _, rfl, (by assumption), (by assumption), (by assumption), (by decide), ?_⟩) | (refine And.intro (by first | assumption | rfl | (show (0:Int) < _; omega) | (show CDiv _ _; exact ⟨by omega, by omega⟩) | (show CMul _ _; first | exact .inl ⟨by omega, by omega⟩ | exact .inr ⟨by omega, by omega⟩) | (show CPow _ _; exact ⟨by omega, by omega, by omega⟩) | (show (_ : Nat) ≤ sizeLine; exact Nat.le_of_ble_eq_true rfl)) ?_) ))
        (intro t2 ht2; generalize eH : upd J3 t2 _ = J4; have k12 : Kp [] J3 J4 := eH ▸ Kp.new ht2; replace ht2 := (congrFun eH.symm t2).trans upd_same; clear eH; replace hg := k12.same _ _ hg; clear k12)
        (repeat (first | (refine ⟨_, rfl, ?_⟩) | (refine ⟨_, _, rfl, rfl, ?_⟩) | (refine ⟨_, _, _, _, rfl, rfl, SqL.of (by assumption), (by rfl), ?_⟩) | (refine ⟨_, _, _, _, rfl, rfl, (by assumption), (by rfl), ?_⟩) | (refine ⟨_, _, _, _, rfl, rfl, SqL.of (by assumption), (by assumption), ?_⟩) | (refine ⟨_, _, rfl, .inl (SqL.of (by assumption)), ?_⟩) | (refine ⟨_, _, _, _, _, rfl, (by assumption), (by assumption), (by assumption), (by rfl), ?_⟩) | (refine ⟨_, _, _, _, rfl, (by assumption), (by assumption), (by assumption), (by decide), ?_⟩) | (refine And.intro (by first | assumption | rfl | (show (0:Int) < _; omega) | (show CDiv _ _; exact ⟨by omega, by omega⟩) | (show CMul _ _; first | exact .inl ⟨by omega, by omega⟩ | exact .inr ⟨by omega, by omega⟩) | (show CPow _ _; exact ⟨by omega, by omega, by omega⟩) | (show (_ : Nat) ≤ sizeLine; exact Nat.le_of_ble_eq_true rfl)) ?_) ))
        (intro u2 hu2; generalize eH : upd J4 u2 _ = J5; have k12 : Kp [] J4 J5 := eH ▸ Kp.new hu2; replace hu2 := (congrFun eH.symm u2).trans upd_same; clear eH; replace hg := k12.same _ _ hg; replace ht2 := k12.same _ _ ht2; clear k12)
        (repeat (first | (refine ⟨_, rfl, ?_⟩) | (refine ⟨_, _, rfl, rfl, ?_⟩) | (refine ⟨_, _, _, _, rfl, rfl, SqL.of (by assumption), (by rfl), ?_⟩) | (refine ⟨_, _, _, _, rfl, rfl, (by assumption), (by rfl), ?_⟩) | (refine ⟨_, _, _, _, rfl, rfl, SqL.of (by assumption), (by assumption), ?_⟩) | (refine ⟨_, _, rfl, .inl (SqL.of (by assumption)), ?_⟩) | (refine ⟨_, _, _, _, _, rfl, (by assumption), (by assumption), (by assumption), (by rfl), ?_⟩) | (refine ⟨_, _, _, _, rfl, (by assumption), (by assumption), (by assumption), (by decide), ?_⟩) | (refine And.intro (by first | assumption | rfl | (show (0:Int) < _; omega) | (show CDiv _ _; exact ⟨by omega, by omega⟩) | (show CMul _ _; first | exact .inl ⟨by omega, by omega⟩ | exact .inr ⟨by omega, by omega⟩) | (show CPow _ _; exact ⟨by omega, by omega, by omega⟩) | (show (_ : Nat) ≤ sizeLine; exact Nat.le_of_ble_eq_true rfl)) ?_) ))
        refine ⟨⟨_, _, hg⟩, _, u2, _, _, rfl, hu2, (by rfl), ?_⟩
        (repeat (first | (refine ⟨_, rfl, ?_⟩) | (refine ⟨_, _, rfl, rfl, ?_⟩) | (refine ⟨_, _, _, _, rfl, rfl, SqL.of (by assumption), (by rfl), ?_⟩) | (refine ⟨_, _, _, _, rfl, rfl, (by assumption), (by rfl), ?_⟩) | (refine ⟨_, _, _, _, rfl, rfl, SqL.of (by assumption), (by assumption), ?_⟩) | (refine ⟨_, _, rfl, .inl (SqL.of (by assumption)), ?_⟩) | (refine ⟨_, _, _, _, _, rfl, (by assumption), (by assumption), (by assumption), (by rfl), ?_⟩) | (refine ⟨_, _, _, _, rfl, (by assumption), (by assumption), (by assumption), (by decide), ?_⟩) | (refine And.intro (by first | assumption | rfl | (show (0:Int) < _; omega) | (show CDiv _ _; exact ⟨by omega, by omega⟩) | (show CMul _ _; first | exact .inl ⟨by omega, by omega⟩ | exact .inr ⟨by omega, by omega⟩) | (show CPow _ _; exact ⟨by omega, by omega, by omega⟩) | (show (_ : Nat) ≤ sizeLine; exact Nat.le_of_ble_eq_true rfl)) ?_) ))
        (intro v2 hv2; generalize eH : upd J5 v2 _ = J6; have k12 : Kp [] J5 J6 := eH ▸ Kp.new hv2; replace hv2 := (congrFun eH.symm v2).trans upd_same; clear eH; replace ht2 := k12.same _ _ ht2; clear k12)
        exact ⟨_, _, [1, 0, 0], [1, 0, 0], rfl, rfl, SqT.of ht2, SqT.of hv2, k _⟩
end
end K43

namespace K43
open PySem L2 G0
theorem all_mk {P : Program} {w : World} {K : PySem.W.Frag} {h base : Heap} {mg : Str → Option Value} (X : K.In h) (G : h.Ns mainGlobals mg) {CF CL CD fPen fDraw fMoves fNumber fLaw fFC fLC fDI fDC : Addr} {odPen anPen odDraw anDraw odMoves anMoves odNumber anNumber odLaw anLaw odFC anFC odLC anLC odDI anDI odDC anDC : Option Addr} {slPen slDraw slMoves slNumber slLaw slFC slLC slDI slDC : Array (Option Value)} {ocPen kVPen dcPen pmPen cdPen ctPen ocDraw kVDraw dcDraw pmDraw cdDraw ctDraw ocMoves kVMoves dcMoves pmMoves cdMoves ctMoves ocNumber kVNumber dcNumber pmNumber cdNumber ctNumber ocLaw kVLaw dcLaw pmLaw cdLaw ctLaw ocFC kVFC dcFC pmFC cdFC ctFC ocLC kVLC dcLC pmLC cdLC ctLC ocDI kVDI dcDI pmDI cdDI ctDI ocDC kVDC dcDC pmDC cdDC ctDC : Value}
    (aCF : PySem.W.nsIn K mainGlobals "First" = some (some (.ref CF))) (pgF : PySem.W.plainGet K CF Str.empty = true) (hdF : PySem.W.hasDictIn K CF = true) (poF : PySem.W.plainOver K CF = true) (saF : PySem.W.findIn K (.ref CF) "__setattr__" = some (some (.builtin "object.__setattr__"))) (mkF : PySem.W.makesIn K CF = true) (kcF : PySem.W.keepIn K (.ref CF) = true)
    (aCL : PySem.W.nsIn K mainGlobals "Last" = some (some (.ref CL))) (pgL : PySem.W.plainGet K CL Str.empty = true) (hdL : PySem.W.hasDictIn K CL = true) (poL : PySem.W.plainOver K CL = true) (saL : PySem.W.findIn K (.ref CL) "__setattr__" = some (some (.builtin "object.__setattr__"))) (mkL : PySem.W.makesIn K CL = true) (kcL : PySem.W.keepIn K (.ref CL) = true)
    (aCD : PySem.W.nsIn K mainGlobals "Drawn" = some (some (.ref CD))) (pgD : PySem.W.plainGet K CD Str.empty = true) (hdD : PySem.W.hasDictIn K CD = true) (poD : PySem.W.plainOver K CD = true) (saD : PySem.W.findIn K (.ref CD) "__setattr__" = some (some (.builtin "object.__setattr__"))) (mkD : PySem.W.makesIn K CD = true) (kcD : PySem.W.keepIn K (.ref CD) = true)
    (aPen : PySem.W.nsIn K mainGlobals "_law_pen" = some (some (.ref fPen)))
    (lPen : K.lookup fPen = some ⟨ocPen, odPen, .func (PySem.W.fnOf "_law_pen" "_law_pen" (defArgs s_pen) (defBody s_pen) (defScope s_pen) .none kVPen dcPen pmPen anPen cdPen ctPen), slPen⟩) (cqPen : PySem.W.codeIn K cdPen "_law_pen" = true) (kPen : PySem.W.keepIn K (.ref fPen) = true)
    (aDraw : PySem.W.nsIn K mainGlobals "_law_draw" = some (some (.ref fDraw)))
    (lDraw : K.lookup fDraw = some ⟨ocDraw, odDraw, .func (PySem.W.fnOf "_law_draw" "_law_draw" (defArgs s_draw) (defBody s_draw) (defScope s_draw) .none kVDraw dcDraw pmDraw anDraw cdDraw ctDraw), slDraw⟩) (cqDraw : PySem.W.codeIn K cdDraw "_law_draw" = true) (kDraw : PySem.W.keepIn K (.ref fDraw) = true)
    (aMoves : PySem.W.nsIn K mainGlobals "_law_moves" = some (some (.ref fMoves)))
    (lMoves : K.lookup fMoves = some ⟨ocMoves, odMoves, .func (PySem.W.fnOf "_law_moves" "_law_moves" (defArgs s_moves) (defBody s_moves) (defScope s_moves) .none kVMoves dcMoves pmMoves anMoves cdMoves ctMoves), slMoves⟩) (cqMoves : PySem.W.codeIn K cdMoves "_law_moves" = true) (kMoves : PySem.W.keepIn K (.ref fMoves) = true)
    (aNumber : PySem.W.nsIn K mainGlobals "_law_number" = some (some (.ref fNumber)))
    (lNumber : K.lookup fNumber = some ⟨ocNumber, odNumber, .func (PySem.W.fnOf "_law_number" "_law_number" (defArgs s_number) (defBody s_number) (defScope s_number) .none kVNumber dcNumber pmNumber anNumber cdNumber ctNumber), slNumber⟩) (cqNumber : PySem.W.codeIn K cdNumber "_law_number" = true) (kNumber : PySem.W.keepIn K (.ref fNumber) = true)
    (aLaw : PySem.W.nsIn K mainGlobals "law" = some (some (.ref fLaw)))
    (lLaw : K.lookup fLaw = some ⟨ocLaw, odLaw, .func (PySem.W.fnOf "law" "law" (defArgs s_law) (defBody s_law) (defScope s_law) .none kVLaw dcLaw pmLaw anLaw cdLaw ctLaw), slLaw⟩) (cqLaw : PySem.W.codeIn K cdLaw "law" = true) (kLaw : PySem.W.keepIn K (.ref fLaw) = true)
    (aFC : PySem.W.findIn K (.ref CF) "__call__" = some (some (.ref fFC))) (iFC : PySem.W.isFn K (.ref fFC) = true)
    (lFC : K.lookup fFC = some ⟨ocFC, odFC, .func (PySem.W.fnOf "__call__" "First.__call__" (defArgs s_First_call) (defBody s_First_call) (defScope s_First_call) .none kVFC dcFC pmFC anFC cdFC ctFC), slFC⟩) (cqFC : PySem.W.codeIn K cdFC "First.__call__" = true) (kFC : PySem.W.keepIn K (.ref fFC) = true)
    (aLC : PySem.W.findIn K (.ref CL) "__call__" = some (some (.ref fLC))) (iLC : PySem.W.isFn K (.ref fLC) = true)
    (lLC : K.lookup fLC = some ⟨ocLC, odLC, .func (PySem.W.fnOf "__call__" "Last.__call__" (defArgs s_Last_call) (defBody s_Last_call) (defScope s_Last_call) .none kVLC dcLC pmLC anLC cdLC ctLC), slLC⟩) (cqLC : PySem.W.codeIn K cdLC "Last.__call__" = true) (kLC : PySem.W.keepIn K (.ref fLC) = true)
    (aDI : PySem.W.findIn K (.ref CD) "__init__" = some (some (.ref fDI))) (iDI : PySem.W.isFn K (.ref fDI) = true)
    (lDI : K.lookup fDI = some ⟨ocDI, odDI, .func (PySem.W.fnOf "__init__" "Drawn.__init__" (defArgs s_Drawn_init) (defBody s_Drawn_init) (defScope s_Drawn_init) .none kVDI dcDI pmDI anDI cdDI ctDI), slDI⟩) (cqDI : PySem.W.codeIn K cdDI "Drawn.__init__" = true) (kDI : PySem.W.keepIn K (.ref fDI) = true)
    (aDC : PySem.W.findIn K (.ref CD) "__call__" = some (some (.ref fDC))) (iDC : PySem.W.isFn K (.ref fDC) = true)
    (lDC : K.lookup fDC = some ⟨ocDC, odDC, .func (PySem.W.fnOf "__call__" "Drawn.__call__" (defArgs s_Drawn_call) (defBody s_Drawn_call) (defScope s_Drawn_call) .none kVDC dcDC pmDC anDC cdDC ctDC), slDC⟩) (cqDC : PySem.W.codeIn K cdDC "Drawn.__call__" = true) (kDC : PySem.W.keepIn K (.ref fDC) = true)
    (nnu : PySem.W.findIn K (.ref CD) "numbers" = some none)
    (nca : PySem.W.findIn K (.ref CD) "calls" = some none)
    (z_int : PySem.W.nsIn K mainGlobals "int" = some none)
    (z_len : PySem.W.nsIn K mainGlobals "len" = some none)
    (z_abs : PySem.W.nsIn K mainGlobals "abs" = some none)
    (z_list : PySem.W.nsIn K mainGlobals "list" = some none)
    (z_range : PySem.W.nsIn K mainGlobals "range" = some none)
    (z_sorted : PySem.W.nsIn K mainGlobals "sorted" = some none)
    (z_set : PySem.W.nsIn K mainGlobals "set" = some none)
    (z_repr : PySem.W.nsIn K mainGlobals "repr" = some none)
    (iF : PySem.W.findIn K (.ref CF) "__init__" = some (some (.builtin "object.__init__")))
    (iL : PySem.W.findIn K (.ref CL) "__init__" = some (some (.builtin "object.__init__")))
    (xF : PySem.W.fnIn K fFC = true)
    (xL : PySem.W.fnIn K fLC = true)
    (xD : PySem.W.fnIn K fDC = true) :
    Cal P w K mg base 4 "law" (spLaw K) := by
  have DPen : Dfn K mg "_law_pen" s_pen := dfn_mk X G aPen lPen cqPen kPen
  have DDraw : Dfn K mg "_law_draw" s_draw := dfn_mk X G aDraw lDraw cqDraw kDraw
  have DMoves : Dfn K mg "_law_moves" s_moves := dfn_mk X G aMoves lMoves cqMoves kMoves
  have DNumber : Dfn K mg "_law_number" s_number := dfn_mk X G aNumber lNumber cqNumber kNumber
  have DLaw : Dfn K mg "law" s_law := dfn_mk X G aLaw lLaw cqLaw kLaw
  have DFC : Mth K CF "__call__" "First.__call__" s_First_call := mth_mk aFC iFC lFC cqFC kFC
  have DLC : Mth K CL "__call__" "Last.__call__" s_Last_call := mth_mk aLC iLC lLC cqLC kLC
  have DDI : Mth K CD "__init__" "Drawn.__init__" s_Drawn_init := mth_mk aDI iDI lDI cqDI kDI
  have DDC : Mth K CD "__call__" "Drawn.__call__" s_Drawn_call := mth_mk aDC iDC lDC cqDC kDC
  have KF : Kls K mg "First" CF := ⟨⟨pgF, hdF, poF, saF⟩, mkF, kcF, PySem.W.mg_of X G aCF⟩
  have KL : Kls K mg "Last" CL := ⟨⟨pgL, hdL, poL, saL⟩, mkL, kcL, PySem.W.mg_of X G aCL⟩
  have KD : Kls K mg "Drawn" CD := ⟨⟨pgD, hdD, poD, saD⟩, mkD, kcD, PySem.W.mg_of X G aCD⟩
  have b_int : mg "int" = none := PySem.W.mg_none_of X G z_int
  have b_len : mg "len" = none := PySem.W.mg_none_of X G z_len
  have b_abs : mg "abs" = none := PySem.W.mg_none_of X G z_abs
  have b_list : mg "list" = none := PySem.W.mg_none_of X G z_list
  have b_range : mg "range" = none := PySem.W.mg_none_of X G z_range
  have b_sorted : mg "sorted" = none := PySem.W.mg_none_of X G z_sorted
  have b_set : mg "set" = none := PySem.W.mg_none_of X G z_set
  have b_repr : mg "repr" = none := PySem.W.mg_none_of X G z_repr
  have T : Txt mg := ⟨b_int, b_len, b_abs, b_list, b_range, b_sorted, b_set, b_repr⟩
  have one : ∀ {C g : Addr} (a : PySem.W.findIn K (.ref C) "__call__" = some (some (.ref g))) (x : PySem.W.fnIn K g = true) (f : Addr), PySem.W.findIn K (.ref C) "__call__" = some (some (.ref f)) → PySem.W.fnIn K f = true := fun a x f e => by rw [a] at e; cases e; exact x
  have F : Facts K mg CF CL CD := ⟨KF, KL, KD, iF, iL, one aFC xF, one aLC xL, one aDC xD⟩
  have cD := cDraw (P := P) (w := w) (base := base) DDraw T
  exact cLaw DLaw T F cD (cPen DPen T) (cNumber DNumber T cD) (cMoves DMoves T cD) (cFirst DFC) (cLast DLC) (cInit DDI T KD.cls nnu nca) (cCall DDC T KD.cls nnu nca)
end K43
open PySem PySem.W PyProof.Rows in
set_option maxRecDepth 100000 in
set_option maxHeartbeats 0 in
theorem PySem.Challenge.cw_splitplans_k43_choosers_holds : PySem.Challenge.rw_splitplans_k43_choosers.Holds := by
  w_on; o_law; k_head; (case hw => w_witness2)
  k_fill
  refine G0.walkG (l := PySem.Challenge.rw_splitplans_k43_choosers) (k := 4) (sp := K43.spLaw) rfl rfl ⟨⟨rfl, by decide, by decide⟩, rfl⟩ (fun w h Y => PySem.W.kIn_of Y) (fun K H a ns hl hS => ⟨a, ns, rfl, hS, hl, fun _ => rfl⟩) ?F
  case F =>
    intro w mg h KX G base
    refine' K43.all_mk KX G ?aCF ?pgF ?hdF ?poF ?saF ?mkF ?kcF ?aCL ?pgL ?hdL ?poL ?saL ?mkL ?kcL ?aCD ?pgD ?hdD ?poD ?saD ?mkD ?kcD ?aPen ?lPen ?cqPen ?kPen ?aDraw ?lDraw ?cqDraw ?kDraw ?aMoves ?lMoves ?cqMoves ?kMoves ?aNumber ?lNumber ?cqNumber ?kNumber ?aLaw ?lLaw ?cqLaw ?kLaw ?aFC ?iFC ?lFC ?cqFC ?kFC ?aLC ?iLC ?lLC ?cqLC ?kLC ?aDI ?iDI ?lDI ?cqDI ?kDI ?aDC ?iDC ?lDC ?cqDC ?kDC ?nnu ?nca ?z_int ?z_len ?z_abs ?z_list ?z_range ?z_sorted ?z_set ?z_repr ?iF ?iL ?xF ?xL ?xD
    (case aCF => k_is)
    (case pgF => k_is)
    (case hdF => k_is)
    (case poF => k_is)
    (case saF => k_is)
    (case mkF => k_is)
    (case kcF => k_is)
    (case aCL => k_is)
    (case pgL => k_is)
    (case hdL => k_is)
    (case poL => k_is)
    (case saL => k_is)
    (case mkL => k_is)
    (case kcL => k_is)
    (case aCD => k_is)
    (case pgD => k_is)
    (case hdD => k_is)
    (case poD => k_is)
    (case saD => k_is)
    (case mkD => k_is)
    (case kcD => k_is)
    (case aPen => k_is)
    (case lPen => k_is)
    (case cqPen => k_is)
    (case kPen => k_is)
    (case aDraw => k_is)
    (case lDraw => k_is)
    (case cqDraw => k_is)
    (case kDraw => k_is)
    (case aMoves => k_is)
    (case lMoves => k_is)
    (case cqMoves => k_is)
    (case kMoves => k_is)
    (case aNumber => k_is)
    (case lNumber => k_is)
    (case cqNumber => k_is)
    (case kNumber => k_is)
    (case aLaw => k_is)
    (case lLaw => k_is)
    (case cqLaw => k_is)
    (case kLaw => k_is)
    (case aFC => k_is)
    (case iFC => k_is)
    (case lFC => k_is)
    (case cqFC => k_is)
    (case kFC => k_is)
    (case aLC => k_is)
    (case iLC => k_is)
    (case lLC => k_is)
    (case cqLC => k_is)
    (case kLC => k_is)
    (case aDI => k_is)
    (case iDI => k_is)
    (case lDI => k_is)
    (case cqDI => k_is)
    (case kDI => k_is)
    (case aDC => k_is)
    (case iDC => k_is)
    (case lDC => k_is)
    (case cqDC => k_is)
    (case kDC => k_is)
    (case nnu => k_is)
    (case nca => k_is)
    (case z_int => k_is)
    (case z_len => k_is)
    (case z_abs => k_is)
    (case z_list => k_is)
    (case z_range => k_is)
    (case z_sorted => k_is)
    (case z_set => k_is)
    (case z_repr => k_is)
    (case iF => k_is)
    (case iL => k_is)
    (case xF => k_is)
    (case xL => k_is)
    (case xD => k_is)
#print axioms PySem.Challenge.cw_splitplans_k43_choosers_holds


